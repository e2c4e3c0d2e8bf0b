import PyProof.Rows.All
import Wide.All
import OpenK.AllK
import Wide.FinOn
import HandS.Base
import HandS.Exc
import HandS.Words
import KE.KExcPX
import HandS.Head0
import HandS.Head1
import HandS.Head2
import HandS.HeadEnd
import HandS.HeadHook1
import HandS.HeadHook2
import HandS.HeadHook3
import HandS.ForMost
import HandS.ForExc
import HandS.TupAny
import HandS.TupMul
import HandS.Deep
import HandS.IsInst
import HandS.Style
import HandS.Iter
import HandS.Defaults
import HandS.SetBool
import HandS.SetKeys
import HandS.SetFor
import HandS.MakeKwOnly
import KE.GoesEnum
import HandS.Zip
import HandS.Nested
import HandS.ExcInit
import HandS.ExcSuper
import HandS.TryMany
import KE.KExcSuper
import HandS.ExcField
import HandS.ExcIs
import HandS.DictComp
import HandS.TryOnly
import PyProof.SeqIndex
import PyProof.P3In
import HandS.TupSets
import KE.SortData
import HandS.More
import HandS.Dict
import HandS.Zip0
import KE.KDictZip
import HandS.Property
import HandS.NamedTupGet
import HandS.SlotsOwn
import KE.KOpsOwn
import HandS.OwnEq
import HandS.Text
import PyProof.InstNe
import PySem.Challenge.RW_wrongshown_k01_form_parts
set_option Elab.async false
set_option linter.all false
set_option maxRecDepth 100000
set_option maxHeartbeats 1000000
set_option autoImplicit false
section
namespace W3
open PySem PySem.Spec PyProof.Rows
open L2
def oexB (K : PySem.W.Frag) (C : Addr) : Bool := match K.lookup C with
  | some ⟨.type t, _, .cls cd, sl⟩ => decide (t = "type") && (match cd.mro, sl.toList with
    | .ref C' :: bm, [_, _, _, _, some (.builtin n), _] => decide (C' = C) && (decide (n = "ValueError.__new__") && (!cd.hasDel && (cd.hasDict && PySem.HandSPX.refsVE bm)))
    | _, _ => false)
  | _ => false
abbrev FnE : Type := Option (Str × Str × Arguments × FuncBody × Scope × Addr × List Str × Value × Value × Addr)
def fnE (K : PySem.W.Frag) (f : Addr) : FnE := match K.lookup f with
  | some ⟨_, _, .func fd, _⟩ => some (fd.name, fd.qualname, fd.params, fd.body, fd.scope, fd.globals, fd.closure.map Prod.fst, fd.defaults, fd.kwdefaults, fd.builtins)
  | _ => none
def xeV (qual : Str) (st : Stmt) : FnE := some ("__init__", qual, defArgs st, .stmts (defBody st), defScope st, mainGlobals, ["__class__"], .none, .none, builtinsNs)
def cellB (K : PySem.W.Frag) (cc C : Addr) : Bool := match K.lookup cc with
  | some ⟨_, _, .cell (some (.ref D)), _⟩ => decide (D = C)
  | _ => false
def fileB (K : PySem.W.Frag) (c : Addr) (file : Str) : Bool := match K.lookup c with
  | some ⟨_, _, .fields vs, _⟩ => (match (vs[2]? : Option Value) with
    | some (Value.str g _) => file == g
    | _ => false)
  | _ => false
def initB (K : PySem.W.Frag) (C f : Addr) (file qual : Str) : Bool := match K.lookup f with
  | some ⟨_, _, .func fd, _⟩ => (match fd.closure, fd.code with
    | [(_, cc)], .ref c => cellB K cc C && (fileB K c file && PySem.W.codeIn K (.ref c) qual)
    | _, _ => false)
  | _ => false
def refsZ (o : Obj) : List Addr := match o.data with
  | .dict es _ => es.toList.flatMap fun e => He.refV e.val
  | .func fd => He.refV fd.code ++ (He.refV fd.kwdefaults ++ fd.closure.map Prod.snd)
  | .cls cd => cd.ns :: cd.mro.flatMap He.refV
  | _ => []
def growZ (g : Addr → Option Obj) (as : List Addr) : List Addr := as.flatMap fun a => match g a with
  | some o => refsZ o
  | none => []
def as0 : List Addr := [mainGlobals, cStatics]
def as1 (g : Addr → Option Obj) (gl : List Str) : List Addr := gl.map (He.ga (He.frG g as0))
def as2 (g : Addr → Option Obj) (gl : List Str) : List Addr := as0 ++ (as1 g gl ++ growZ g (as1 g gl))
def as3 (g : Addr → Option Obj) (gl : List Str) (ms : List (Str × Str)) : List Addr := ms.map fun p => He.ma (He.frG g (as2 g gl)) (He.ga (He.frG g (as2 g gl)) p.1) p.2
def propZ (g : Addr → Option Obj) (as : List Addr) : List Addr := as.flatMap fun a => match g a with
  | some ⟨.type n, _, .fields vs, _⟩ => if n == "property" then vs.toList.flatMap He.refV else []
  | _ => []
def as4 (g : Addr → Option Obj) (gl : List Str) (ms : List (Str × Str)) : List Addr := propZ g (as3 g gl ms)
def asZ (g : Addr → Option Obj) (gl : List Str) (ms : List (Str × Str)) : List Addr := as2 g gl ++ (as3 g gl ms ++ (growZ g (as3 g gl ms) ++ (as4 g gl ms ++ growZ g (as4 g gl ms))))
def frZ (g : Addr → Option Obj) (gl : List Str) (ms : List (Str × Str)) : PySem.W.Frag := He.frG g (asZ g gl ms)
abbrev AlZ : Type := He.AlT × (List FnE × Bool)
def obsZ (fn : List He.DefD) (ts : List He.Tab) (xs : List (PySem.W.Frag → Addr)) (bs : List (PySem.W.Frag → Bool)) (K : PySem.W.Frag) : AlZ := (He.obsT [] fn ts K, (xs.map fun f => fnE K (f K), bs.all fun b => b K))
def valZ (fn : List He.DefD) (ts : List He.Tab) (es : List FnE) (w : World) : AlZ := (He.valT fn ts w, (es, true))
def SaysZ (fn : List He.DefD) (ts : List He.Tab) (xs : List (PySem.W.Frag → Addr)) (es : List FnE) (bs : List (PySem.W.Frag → Bool)) (w : World) (K : PySem.W.Frag) : Prop := obsZ fn ts xs bs K = valZ fn ts es w
def hookZ (gl : List Str) (ms : List (Str × Str)) (fn : List He.DefD) (ts : List He.Tab) (xs : List (PySem.W.Frag → Addr)) (es : List FnE) (bs : List (PySem.W.Frag → Bool)) : PySem.W.Hook where
  α := AlZ
  obs := fun s => obsZ fn ts xs bs (frZ s.heap.get? gl ms)
  val := fun w => valZ fn ts es w
  says := fun w h => ∃ K : PySem.W.Frag, K.In h ∧ SaysZ fn ts xs es bs w K
  of := fun _ _ e => ⟨_, He.frG_in, e⟩
  keeps := fun _ _ _ ⟨K, hK, c⟩ k => ⟨K, PySem.W.Frag.In.keeps hK k, c⟩
theorem obsZ_eq {gl : List Str} {ms : List (Str × Str)} {fn : List He.DefD} {ts : List He.Tab} {xs : List (PySem.W.Frag → Addr)} {es : List FnE} {bs : List (PySem.W.Frag → Bool)} {g : Addr → Option Obj} {s : Shared} (h : ∀ a, g a = s.heap.get? a) : obsZ fn ts xs bs (frZ g gl ms) = (hookZ gl ms fn ts xs es bs).obs s := by
  have e : g = s.heap.get? := funext h
  rw [e] <;> rfl
end W3
end

section
namespace LW
open PySem PySem.Spec PyProof.Rows
open L2 W3
def topS (i : Nat) : Stmt := PySem.Challenge.pw_wrongshown_k01_form_parts.main.body.getD i (.Pass ⟨0, 0, 0, 0⟩)
abbrev st_is_integer : Stmt := (topS 7)
abbrev st_is_name : Stmt := (topS 8)
abbrev st_is_one_of : Stmt := (topS 9)
abbrev st_are_names : Stmt := (topS 10)
abbrev st_is_pair : Stmt := (topS 11)
abbrev st_are_fields : Stmt := (topS 12)
abbrev st_is_row : Stmt := (topS 13)
abbrev st_is_near : Stmt := (topS 14)
abbrev st_check_field : Stmt := (topS 15)
abbrev st_Form_init : Stmt := (inClass (topS 16) 0)
abbrev st_Form___eq__ : Stmt := (inClass (topS 16) 1)
abbrev st_Form_field_names : Stmt := (inClass (topS 16) 2)
abbrev st_Form_parts_of : Stmt := (inClass (topS 16) 3)
abbrev st_Form_readers : Stmt := (inClass (topS 16) 4)
abbrev st__law_mix : Stmt := (topS 18)
abbrev st__law_box : Stmt := (topS 19)
abbrev st__law_draw : Stmt := (topS 20)
abbrev st__law_same : Stmt := (topS 21)
abbrev st__law_names : Stmt := (topS 22)
abbrev st__law_entries : Stmt := (topS 23)
abbrev st__law_field : Stmt := (topS 24)
abbrev st__law_parts : Stmt := (topS 25)
abbrev st__law_tells : Stmt := (topS 26)
abbrev st__law_turned : Stmt := (topS 27)
abbrev st__law_others : Stmt := (topS 28)
abbrev st_law : Stmt := (topS 29)
abbrev st_x_InvalidForm : Stmt := (inClass (topS 3) 0)
abbrev st_x_UnknownField : Stmt := (inClass (topS 4) 0)
def glZ : List Str := (["is_integer", "is_name", "is_one_of", "are_names", "is_pair", "are_fields", "is_row", "is_near", "check_field", "_law_mix", "_law_box", "_law_draw", "_law_same", "_law_names", "_law_entries", "_law_field", "_law_parts", "_law_tells", "_law_turned", "_law_others", "law", "ShownError", "InvalidForm", "UnknownField", "Form"] : List (Str))
def msZ : List (Str × Str) := ([("Form", "__init__"), ("Form", "__eq__"), ("Form", "field_names"), ("Form", "parts_of"), ("Form", "readers"), ("InvalidForm", "__init__"), ("UnknownField", "__init__")] : List (Str × Str))
def dz_is_integer : He.DefD := ⟨("is_integer", none), "is_integer", "is_integer", defArgs st_is_integer, defBody st_is_integer, defScope st_is_integer, [], []⟩
def dz_is_name : He.DefD := ⟨("is_name", none), "is_name", "is_name", defArgs st_is_name, defBody st_is_name, defScope st_is_name, [], []⟩
def dz_is_one_of : He.DefD := ⟨("is_one_of", none), "is_one_of", "is_one_of", defArgs st_is_one_of, defBody st_is_one_of, defScope st_is_one_of, [], []⟩
def dz_are_names : He.DefD := ⟨("are_names", none), "are_names", "are_names", defArgs st_are_names, defBody st_are_names, defScope st_are_names, [], []⟩
def dz_is_pair : He.DefD := ⟨("is_pair", none), "is_pair", "is_pair", defArgs st_is_pair, defBody st_is_pair, defScope st_is_pair, [], []⟩
def dz_are_fields : He.DefD := ⟨("are_fields", none), "are_fields", "are_fields", defArgs st_are_fields, defBody st_are_fields, defScope st_are_fields, [], []⟩
def dz_is_row : He.DefD := ⟨("is_row", none), "is_row", "is_row", defArgs st_is_row, defBody st_is_row, defScope st_is_row, [], []⟩
def dz_is_near : He.DefD := ⟨("is_near", none), "is_near", "is_near", defArgs st_is_near, defBody st_is_near, defScope st_is_near, [], []⟩
def dz_check_field : He.DefD := ⟨("check_field", none), "check_field", "check_field", defArgs st_check_field, defBody st_check_field, defScope st_check_field, [], []⟩
def dz_Form_init : He.DefD := ⟨("Form", some "__init__"), "__init__", "Form.__init__", defArgs st_Form_init, defBody st_Form_init, defScope st_Form_init, [], [("room", .int 3)]⟩
def dz_Form___eq__ : He.DefD := ⟨("Form", some "__eq__"), "__eq__", "Form.__eq__", defArgs st_Form___eq__, defBody st_Form___eq__, defScope st_Form___eq__, [], []⟩
def dz_Form_field_names : He.DefD := ⟨("Form", some "field_names"), "field_names", "Form.field_names", defArgs st_Form_field_names, defBody st_Form_field_names, defScope st_Form_field_names, [], []⟩
def dz_Form_parts_of : He.DefD := ⟨("Form", some "parts_of"), "parts_of", "Form.parts_of", defArgs st_Form_parts_of, defBody st_Form_parts_of, defScope st_Form_parts_of, [], []⟩
def dz_Form_readers : He.DefD := ⟨("Form", some "readers"), "readers", "Form.readers", defArgs st_Form_readers, defBody st_Form_readers, defScope st_Form_readers, [], []⟩
def dz__law_mix : He.DefD := ⟨("_law_mix", none), "_law_mix", "_law_mix", defArgs st__law_mix, defBody st__law_mix, defScope st__law_mix, [], []⟩
def dz__law_box : He.DefD := ⟨("_law_box", none), "_law_box", "_law_box", defArgs st__law_box, defBody st__law_box, defScope st__law_box, [], []⟩
def dz__law_draw : He.DefD := ⟨("_law_draw", none), "_law_draw", "_law_draw", defArgs st__law_draw, defBody st__law_draw, defScope st__law_draw, [], []⟩
def dz__law_same : He.DefD := ⟨("_law_same", none), "_law_same", "_law_same", defArgs st__law_same, defBody st__law_same, defScope st__law_same, [], []⟩
def dz__law_names : He.DefD := ⟨("_law_names", none), "_law_names", "_law_names", defArgs st__law_names, defBody st__law_names, defScope st__law_names, [], []⟩
def dz__law_entries : He.DefD := ⟨("_law_entries", none), "_law_entries", "_law_entries", defArgs st__law_entries, defBody st__law_entries, defScope st__law_entries, [], []⟩
def dz__law_field : He.DefD := ⟨("_law_field", none), "_law_field", "_law_field", defArgs st__law_field, defBody st__law_field, defScope st__law_field, [], []⟩
def dz__law_parts : He.DefD := ⟨("_law_parts", none), "_law_parts", "_law_parts", defArgs st__law_parts, defBody st__law_parts, defScope st__law_parts, [], []⟩
def dz__law_tells : He.DefD := ⟨("_law_tells", none), "_law_tells", "_law_tells", defArgs st__law_tells, defBody st__law_tells, defScope st__law_tells, [], []⟩
def dz__law_turned : He.DefD := ⟨("_law_turned", none), "_law_turned", "_law_turned", defArgs st__law_turned, defBody st__law_turned, defScope st__law_turned, [], []⟩
def dz__law_others : He.DefD := ⟨("_law_others", none), "_law_others", "_law_others", defArgs st__law_others, defBody st__law_others, defScope st__law_others, [], []⟩
def dz_law : He.DefD := ⟨("law", none), "law", "law", defArgs st_law, defBody st_law, defScope st_law, [], []⟩
def fnZ : List He.DefD := ([dz_is_integer, dz_is_name, dz_is_one_of, dz_are_names, dz_is_pair, dz_are_fields, dz_is_row, dz_is_near, dz_check_field, dz_Form_init, dz_Form___eq__, dz_Form_field_names, dz_Form_parts_of, dz_Form_readers, dz__law_mix, dz__law_box, dz__law_draw, dz__law_same, dz__law_names, dz__law_entries, dz__law_field, dz__law_parts, dz__law_tells, dz__law_turned, dz__law_others, dz_law] : List (He.DefD))
def tsZ : List He.Tab := []
def xz_InvalidForm : PySem.W.Frag → Addr := fun K => (He.ma K (He.ga K "InvalidForm") "__init__")
def xz_UnknownField : PySem.W.Frag → Addr := fun K => (He.ma K (He.ga K "UnknownField") "__init__")
def xsZ : List (PySem.W.Frag → Addr) := [xz_InvalidForm, xz_UnknownField]
def esZ : List FnE := [xeV "InvalidForm.__init__" st_x_InvalidForm, xeV "UnknownField.__init__" st_x_UnknownField]
def bz_0 : PySem.W.Frag → Bool := fun K => (He.Fa.str "LETTERS" "abcdefghijklmnopqrstuvwxyz").ok K
def bz_1 : PySem.W.Frag → Bool := fun K => initB K (He.ga K "InvalidForm") (He.ma K (He.ga K "InvalidForm") "__init__") (PySem.Challenge.rw_wrongshown_k01_form_parts).prog.main.file "InvalidForm.__init__"
def bz_2 : PySem.W.Frag → Bool := fun K => initB K (He.ga K "UnknownField") (He.ma K (He.ga K "UnknownField") "__init__") (PySem.Challenge.rw_wrongshown_k01_form_parts).prog.main.file "UnknownField.__init__"
def bz_3 : PySem.W.Frag → Bool := fun K => decide (PySem.W.nsIn K mainGlobals "Form" = some (some (.ref (He.ga K "Form"))))
def bz_4 : PySem.W.Frag → Bool := fun K => decide (PySem.W.plainGet K (He.ga K "Form") Str.empty = true)
def bz_5 : PySem.W.Frag → Bool := fun K => decide (PySem.W.hasDictIn K (He.ga K "Form") = true)
def bz_6 : PySem.W.Frag → Bool := fun K => decide (PySem.W.plainOver K (He.ga K "Form") = true)
def bz_7 : PySem.W.Frag → Bool := fun K => decide (PySem.W.findIn K (.ref (He.ga K "Form")) "__setattr__" = some (some (.builtin "object.__setattr__")))
def bz_8 : PySem.W.Frag → Bool := fun K => decide (PySem.W.makesIn K (He.ga K "Form") = true)
def bz_9 : PySem.W.Frag → Bool := fun K => decide (PySem.W.keepIn K (.ref (He.ga K "Form")) = true)
def bz_10 : PySem.W.Frag → Bool := fun K => decide (PySem.W.findIn K (.ref (He.ga K "Form")) "words" = some none)
def bz_11 : PySem.W.Frag → Bool := fun K => decide (PySem.W.findIn K (.ref (He.ga K "Form")) "fields" = some none)
def bz_12 : PySem.W.Frag → Bool := fun K => decide (PySem.W.findIn K (.ref (He.ga K "Form")) "room" = some none)
def bz_13 : PySem.W.Frag → Bool := fun K => decide (PySem.W.nsIn K mainGlobals "is_integer" = some (some (.ref (He.fAd K ("is_integer", none)))))
def bz_14 : PySem.W.Frag → Bool := fun K => decide (PySem.W.nsIn K mainGlobals "is_name" = some (some (.ref (He.fAd K ("is_name", none)))))
def bz_15 : PySem.W.Frag → Bool := fun K => decide (PySem.W.nsIn K mainGlobals "is_one_of" = some (some (.ref (He.fAd K ("is_one_of", none)))))
def bz_16 : PySem.W.Frag → Bool := fun K => decide (PySem.W.nsIn K mainGlobals "are_names" = some (some (.ref (He.fAd K ("are_names", none)))))
def bz_17 : PySem.W.Frag → Bool := fun K => decide (PySem.W.nsIn K mainGlobals "is_pair" = some (some (.ref (He.fAd K ("is_pair", none)))))
def bz_18 : PySem.W.Frag → Bool := fun K => decide (PySem.W.nsIn K mainGlobals "are_fields" = some (some (.ref (He.fAd K ("are_fields", none)))))
def bz_19 : PySem.W.Frag → Bool := fun K => decide (PySem.W.nsIn K mainGlobals "is_row" = some (some (.ref (He.fAd K ("is_row", none)))))
def bz_20 : PySem.W.Frag → Bool := fun K => decide (PySem.W.nsIn K mainGlobals "is_near" = some (some (.ref (He.fAd K ("is_near", none)))))
def bz_21 : PySem.W.Frag → Bool := fun K => decide (PySem.W.nsIn K mainGlobals "check_field" = some (some (.ref (He.fAd K ("check_field", none)))))
def bz_22 : PySem.W.Frag → Bool := fun K => decide (PySem.W.findIn K (.ref (He.ga K "Form")) "__init__" = some (some (.ref (He.fAd K ("Form", some "__init__")))))
def bz_23 : PySem.W.Frag → Bool := fun K => decide (PySem.W.isFn K (.ref (He.fAd K ("Form", some "__init__"))) = true)
def bz_24 : PySem.W.Frag → Bool := fun K => decide (PySem.W.findIn K (.ref (He.ga K "Form")) "__eq__" = some (some (.ref (He.fAd K ("Form", some "__eq__")))))
def bz_25 : PySem.W.Frag → Bool := fun K => decide (PySem.W.isFn K (.ref (He.fAd K ("Form", some "__eq__"))) = true)
def bz_26 : PySem.W.Frag → Bool := fun K => decide (PySem.W.findIn K (.ref (He.ga K "Form")) "field_names" = some (some (.ref (He.fAd K ("Form", some "field_names")))))
def bz_27 : PySem.W.Frag → Bool := fun K => decide (PySem.W.isFn K (.ref (He.fAd K ("Form", some "field_names"))) = true)
def bz_28 : PySem.W.Frag → Bool := fun K => decide (PySem.W.findIn K (.ref (He.ga K "Form")) "parts_of" = some (some (.ref (He.fAd K ("Form", some "parts_of")))))
def bz_29 : PySem.W.Frag → Bool := fun K => decide (PySem.W.isFn K (.ref (He.fAd K ("Form", some "parts_of"))) = true)
def bz_30 : PySem.W.Frag → Bool := fun K => decide (PySem.W.findIn K (.ref (He.ga K "Form")) "readers" = some (some (.ref (He.fAd K ("Form", some "readers")))))
def bz_31 : PySem.W.Frag → Bool := fun K => decide (PySem.W.isFn K (.ref (He.fAd K ("Form", some "readers"))) = true)
def bz_32 : PySem.W.Frag → Bool := fun K => decide (PySem.W.nsIn K mainGlobals "_law_mix" = some (some (.ref (He.fAd K ("_law_mix", none)))))
def bz_33 : PySem.W.Frag → Bool := fun K => decide (PySem.W.nsIn K mainGlobals "_law_box" = some (some (.ref (He.fAd K ("_law_box", none)))))
def bz_34 : PySem.W.Frag → Bool := fun K => decide (PySem.W.nsIn K mainGlobals "_law_draw" = some (some (.ref (He.fAd K ("_law_draw", none)))))
def bz_35 : PySem.W.Frag → Bool := fun K => decide (PySem.W.nsIn K mainGlobals "_law_same" = some (some (.ref (He.fAd K ("_law_same", none)))))
def bz_36 : PySem.W.Frag → Bool := fun K => decide (PySem.W.nsIn K mainGlobals "_law_names" = some (some (.ref (He.fAd K ("_law_names", none)))))
def bz_37 : PySem.W.Frag → Bool := fun K => decide (PySem.W.nsIn K mainGlobals "_law_entries" = some (some (.ref (He.fAd K ("_law_entries", none)))))
def bz_38 : PySem.W.Frag → Bool := fun K => decide (PySem.W.nsIn K mainGlobals "_law_field" = some (some (.ref (He.fAd K ("_law_field", none)))))
def bz_39 : PySem.W.Frag → Bool := fun K => decide (PySem.W.nsIn K mainGlobals "_law_parts" = some (some (.ref (He.fAd K ("_law_parts", none)))))
def bz_40 : PySem.W.Frag → Bool := fun K => decide (PySem.W.nsIn K mainGlobals "_law_tells" = some (some (.ref (He.fAd K ("_law_tells", none)))))
def bz_41 : PySem.W.Frag → Bool := fun K => decide (PySem.W.nsIn K mainGlobals "_law_turned" = some (some (.ref (He.fAd K ("_law_turned", none)))))
def bz_42 : PySem.W.Frag → Bool := fun K => decide (PySem.W.nsIn K mainGlobals "_law_others" = some (some (.ref (He.fAd K ("_law_others", none)))))
def bz_43 : PySem.W.Frag → Bool := fun K => decide (PySem.W.nsIn K mainGlobals "law" = some (some (.ref (He.fAd K ("law", none)))))
def bz_44 : PySem.W.Frag → Bool := fun K => decide (PySem.W.nsIn K mainGlobals "InvalidForm" = some (some (.ref (He.ga K "InvalidForm"))))
def bz_45 : PySem.W.Frag → Bool := fun K => decide (PySem.W.nsIn K mainGlobals "UnknownField" = some (some (.ref (He.ga K "UnknownField"))))
def bz_46 : PySem.W.Frag → Bool := fun K => decide (PySem.W.findIn K (.ref (He.ga K "Form")) "__class__" = some (some (.builtin "object.__class__")))
def bz_47 : PySem.W.Frag → Bool := fun K => decide (PySem.W.mroIn K (He.ga K "Form") (.type "object") = some true)
def bz_48 : PySem.W.Frag → Bool := fun K => decide (PySem.W.mroIn K (He.ga K "Form") (.type "object") = some true)
def bz_49 : PySem.W.Frag → Bool := fun K => decide (PySem.W.findIn K (.ref (He.ga K "Form")) "__ne__" = some (some (.builtin "object.__ne__")))
def bz_50 : PySem.W.Frag → Bool := fun K => decide (PySem.W.nsIn K cStatics "thirdparty.any" = some none)
def bz_51 : PySem.W.Frag → Bool := fun K => decide (PySem.W.specialIn K (.builtin "object.__class__") "__get__" = some (some (.builtin "getset_descriptor.__get__")))
def bz_52 : PySem.W.Frag → Bool := fun K => decide (PySem.W.takesIn K (.builtin "object.__class__") = some true)
def bz_53 : PySem.W.Frag → Bool := fun K => decide (oexB K (He.ga K "InvalidForm") = true)
def bz_54 : PySem.W.Frag → Bool := fun K => decide (PySem.W.findIn K (.ref (He.ga K "InvalidForm")) "__setattr__" = some (some (.builtin "object.__setattr__")))
def bz_55 : PySem.W.Frag → Bool := fun K => decide (PySem.W.subIn K (.ref (He.ga K "InvalidForm")) (.type "BaseException") = some true)
def bz_56 : PySem.W.Frag → Bool := fun K => decide (PySem.W.typeIn K (.ref (He.ga K "InvalidForm")) = some (.type "type"))
def bz_57 : PySem.W.Frag → Bool := fun K => decide (PySem.W.keepIn K (.ref (He.ga K "InvalidForm")) = true)
def bz_58 : PySem.W.Frag → Bool := fun K => decide (PySem.W.findIn K (.ref (He.ga K "InvalidForm")) "__init__" = some (some (.ref (He.ma K (He.ga K "InvalidForm") "__init__"))))
def bz_59 : PySem.W.Frag → Bool := fun K => decide (PySem.W.typeIn K (.ref (He.ma K (He.ga K "InvalidForm") "__init__")) = some (.type "function"))
def bz_60 : PySem.W.Frag → Bool := fun K => decide (PySem.W.ks_superIn K (He.ga K "InvalidForm") (He.ga K "InvalidForm") "__init__" = some (some (.builtin "ValueError.__init__")))
def bz_61 : PySem.W.Frag → Bool := fun K => decide (PySem.W.subIn K (.ref (He.ga K "InvalidForm")) (.type "ValueError") = some true)
def bz_62 : PySem.W.Frag → Bool := fun K => decide (PySem.W.mroIn K (He.ga K "InvalidForm") (.ref (He.ga K "InvalidForm")) = some true)
def bz_63 : PySem.W.Frag → Bool := fun K => decide (PySem.W.findIn K (.ref (He.ga K "InvalidForm")) "__getattribute__" = some (some (.builtin "BaseException.__getattribute__")))
def bz_64 : PySem.W.Frag → Bool := fun K => decide (PySem.W.findIn K (.ref (He.ga K "InvalidForm")) "__getattr__" = some none)
def bz_65 : PySem.W.Frag → Bool := fun K => decide (PySem.W.findIn K (.ref (He.ga K "InvalidForm")) "__class__" = some (some (.builtin "object.__class__")))
def bz_66 : PySem.W.Frag → Bool := fun K => decide (PySem.W.hasDictIn K (He.ga K "InvalidForm") = true)
def bz_67 : PySem.W.Frag → Bool := fun K => decide (PySem.W.mroIn K (He.ga K "InvalidForm") (.type "object") = some true)
def bz_68 : PySem.W.Frag → Bool := fun K => decide (PySem.W.findIn K (.ref (He.ga K "InvalidForm")) "field" = some none)
def bz_69 : PySem.W.Frag → Bool := fun K => decide (PySem.W.findIn K (.ref (He.ga K "InvalidForm")) "part" = some none)
def bz_70 : PySem.W.Frag → Bool := fun K => decide (oexB K (He.ga K "UnknownField") = true)
def bz_71 : PySem.W.Frag → Bool := fun K => decide (PySem.W.findIn K (.ref (He.ga K "UnknownField")) "__setattr__" = some (some (.builtin "object.__setattr__")))
def bz_72 : PySem.W.Frag → Bool := fun K => decide (PySem.W.subIn K (.ref (He.ga K "UnknownField")) (.type "BaseException") = some true)
def bz_73 : PySem.W.Frag → Bool := fun K => decide (PySem.W.typeIn K (.ref (He.ga K "UnknownField")) = some (.type "type"))
def bz_74 : PySem.W.Frag → Bool := fun K => decide (PySem.W.keepIn K (.ref (He.ga K "UnknownField")) = true)
def bz_75 : PySem.W.Frag → Bool := fun K => decide (PySem.W.findIn K (.ref (He.ga K "UnknownField")) "__init__" = some (some (.ref (He.ma K (He.ga K "UnknownField") "__init__"))))
def bz_76 : PySem.W.Frag → Bool := fun K => decide (PySem.W.typeIn K (.ref (He.ma K (He.ga K "UnknownField") "__init__")) = some (.type "function"))
def bz_77 : PySem.W.Frag → Bool := fun K => decide (PySem.W.ks_superIn K (He.ga K "UnknownField") (He.ga K "UnknownField") "__init__" = some (some (.builtin "ValueError.__init__")))
def bz_78 : PySem.W.Frag → Bool := fun K => decide (PySem.W.subIn K (.ref (He.ga K "UnknownField")) (.type "ValueError") = some true)
def bz_79 : PySem.W.Frag → Bool := fun K => decide (PySem.W.mroIn K (He.ga K "UnknownField") (.ref (He.ga K "UnknownField")) = some true)
def bz_80 : PySem.W.Frag → Bool := fun K => decide (PySem.W.findIn K (.ref (He.ga K "UnknownField")) "__getattribute__" = some (some (.builtin "BaseException.__getattribute__")))
def bz_81 : PySem.W.Frag → Bool := fun K => decide (PySem.W.findIn K (.ref (He.ga K "UnknownField")) "__getattr__" = some none)
def bz_82 : PySem.W.Frag → Bool := fun K => decide (PySem.W.findIn K (.ref (He.ga K "UnknownField")) "__class__" = some (some (.builtin "object.__class__")))
def bz_83 : PySem.W.Frag → Bool := fun K => decide (PySem.W.hasDictIn K (He.ga K "UnknownField") = true)
def bz_84 : PySem.W.Frag → Bool := fun K => decide (PySem.W.mroIn K (He.ga K "UnknownField") (.type "object") = some true)
def bz_85 : PySem.W.Frag → Bool := fun K => decide (PySem.W.findIn K (.ref (He.ga K "UnknownField")) "field" = some none)
def bz_86 : PySem.W.Frag → Bool := fun K => decide (PySem.W.nsIn K mainGlobals "all" = some none)
def bz_87 : PySem.W.Frag → Bool := fun K => decide (PySem.W.nsIn K mainGlobals "bool" = some none)
def bz_88 : PySem.W.Frag → Bool := fun K => decide (PySem.W.nsIn K mainGlobals "int" = some none)
def bz_89 : PySem.W.Frag → Bool := fun K => decide (PySem.W.nsIn K mainGlobals "isinstance" = some none)
def bz_90 : PySem.W.Frag → Bool := fun K => decide (PySem.W.nsIn K mainGlobals "len" = some none)
def bz_91 : PySem.W.Frag → Bool := fun K => decide (PySem.W.nsIn K mainGlobals "list" = some none)
def bz_92 : PySem.W.Frag → Bool := fun K => decide (PySem.W.nsIn K mainGlobals "range" = some none)
def bz_93 : PySem.W.Frag → Bool := fun K => decide (PySem.W.nsIn K mainGlobals "set" = some none)
def bz_94 : PySem.W.Frag → Bool := fun K => decide (PySem.W.nsIn K mainGlobals "str" = some none)
def bz_95 : PySem.W.Frag → Bool := fun K => decide (PySem.W.nsIn K mainGlobals "super" = some none)
def bz_96 : PySem.W.Frag → Bool := fun K => decide (PySem.W.nsIn K mainGlobals "tuple" = some none)
def bsZ : List (PySem.W.Frag → Bool) := ([bz_0, bz_1, bz_2, bz_3, bz_4, bz_5, bz_6, bz_7, bz_8, bz_9, bz_10, bz_11, bz_12, bz_13, bz_14, bz_15, bz_16, bz_17, bz_18, bz_19, bz_20, bz_21, bz_22, bz_23, bz_24, bz_25, bz_26, bz_27, bz_28, bz_29] : List (PySem.W.Frag → Bool)) ++ ([bz_30, bz_31, bz_32, bz_33, bz_34, bz_35, bz_36, bz_37, bz_38, bz_39, bz_40, bz_41, bz_42, bz_43, bz_44, bz_45, bz_46, bz_47, bz_48, bz_49, bz_50, bz_51, bz_52, bz_53, bz_54, bz_55, bz_56, bz_57, bz_58, bz_59] : List (PySem.W.Frag → Bool)) ++ ([bz_60, bz_61, bz_62, bz_63, bz_64, bz_65, bz_66, bz_67, bz_68, bz_69, bz_70, bz_71, bz_72, bz_73, bz_74, bz_75, bz_76, bz_77, bz_78, bz_79, bz_80, bz_81, bz_82, bz_83, bz_84, bz_85, bz_86, bz_87, bz_88, bz_89] : List (PySem.W.Frag → Bool)) ++ ([bz_90, bz_91, bz_92, bz_93, bz_94, bz_95, bz_96] : List (PySem.W.Frag → Bool))
abbrev RZ : PySem.W.OpenRow := PySem.W.OpenLaw.row PySem.Challenge.rw_wrongshown_k01_form_parts
abbrev qZ : Program := PySem.W.view RZ.prog [29]
def namesZ : List Str := (["_wall", "__name__", "ShownError", "InvalidForm", "UnknownField", "__name__", "LETTERS", "is_integer", "is_name", "is_one_of", "are_names", "is_pair", "are_fields", "is_row", "is_near", "check_field", "Form", "__name__", "_law_mix", "_law_box", "_law_draw", "_law_same", "_law_names", "_law_entries", "_law_field", "_law_parts", "_law_tells", "_law_turned", "_law_others"] : List (Str))
abbrev hkZ : PySem.W.Hook := hookZ glZ msZ fnZ tsZ xsZ esZ bsZ
def obZ (s : PySem.W.SharedT) : AlZ := obsZ fnZ tsZ xsZ bsZ (frZ (HandSHeadRun.getT s) glZ msZ)
theorem obZ_eq (s : PySem.W.SharedT) : obZ s = hkZ.obs s.abs := obsZ_eq (HandSHeadRun.getT_eq s)
open PyProof.Rows PySem.W in
set_option maxHeartbeats 0 in
theorem runZ1 (w : World) : HandSHeadRun.RunEq RZ qZ hkZ obZ 20000 namesZ (w.withFollow "special-get-raises" false) := by
  intro os
  kernel_rfl
open PyProof.Rows PySem.W in
set_option maxHeartbeats 0 in
theorem runZ2 (w : World) : HandSHeadRun.RunEq RZ qZ hkZ obZ 20000 namesZ (w.withFollow "special-get-raises" true) := by
  intro os
  kernel_rfl
open PyProof.Rows PySem.W in
theorem runZ (w : World) : HandSHeadRun.RunEq RZ qZ hkZ obZ 20000 namesZ w := byRow2 "special-get-raises" (P := fun w => HandSHeadRun.RunEq RZ qZ hkZ obZ 20000 namesZ w) runZ1 runZ2 w
end LW
end

section
namespace W3
open PySem
inductive T where
  | non | bl (b : Bool) | int (i : Int) | str (s : Str) | tup (ts : List T) | ref (l : Nat) | fl (ts : List T) | cls (c : Str)
inductive Ob where
  | lst (ts : List T) | dic (kvs : List (T × T)) | ins (c : Str) (fs : List (Str × T))
abbrev Hh := List Ob
inductive Res (α : Type) where
  | ok (a : α) (h : Hh) | exc (c : Str) (fs : List (Str × T)) (h : Hh) | stk
def Res.bind {α β : Type} (r : Res α) (f : α → Hh → Res β) : Res β :=
  match r with
  | .ok a h => f a h
  | .exc c fs h => .exc c fs h
  | .stk => .stk
@[simp] theorem Res.bind_ok {α β : Type} (a : α) (h : Hh) (f : α → Hh → Res β) : (Res.ok a h).bind f = f a h := Eq.trans rfl rfl
@[simp] theorem Res.bind_exc {α β : Type} (c : Str) (fs : List (Str × T)) (h : Hh) (f : α → Hh → Res β) : (Res.exc c fs h : Res α).bind f = .exc c fs h := Eq.trans rfl rfl
@[simp] theorem Res.bind_stk {α β : Type} (f : α → Hh → Res β) : (Res.stk : Res α).bind f = .stk := Eq.trans rfl rfl
abbrev St3 := List (Option T)
abbrev SE := St3 → Hh → Res T
abbrev ST := St3 → Hh → Res Bool
abbrev SA := St3 → Hh → Res (List T)
def sVar (i : Nat) : SE := fun σ h => match σ[i]? with | some (some t) => .ok t h | _ => .stk
def sC (t : T) : SE := fun _ h => .ok t h
def s1 (f : T → Hh → Res T) (a : SE) : SE := fun σ h => (a σ h).bind fun x h1 => f x h1
def s2 (f : T → T → Hh → Res T) (a b : SE) : SE := fun σ h => (a σ h).bind fun x h1 => (b σ h1).bind fun y h2 => f x y h2
def sT (a : SE) : ST := fun σ h => (a σ h).bind fun x h1 => match x with | .bl b => .ok b h1 | _ => .stk
def stAnd (a b : ST) : ST := fun σ h => (a σ h).bind fun x h1 => if x = true then b σ h1 else .ok false h1
def stOr (a b : ST) : ST := fun σ h => (a σ h).bind fun x h1 => if x = true then .ok true h1 else b σ h1
def stNot (a : ST) : ST := fun σ h => (a σ h).bind fun x h1 => .ok (!x) h1
def sB (a : ST) : SE := fun σ h => (a σ h).bind fun x h1 => .ok (.bl x) h1
def sIf (c : ST) (a b : SE) : SE := fun σ h => (c σ h).bind fun x h1 => if x = true then a σ h1 else b σ h1
def sChain (f g : T → T → Hh → Res T) (a b c : SE) : SE := fun σ h => (a σ h).bind fun x h1 => (b σ h1).bind fun y h2 => (f x y h2).bind fun z h3 => match z with
  | .bl k => if k = true then (c σ h3).bind fun w h4 => g y w h4 else .ok (.bl false) h3
  | _ => .stk
def saNil : SA := fun _ h => .ok [] h
def saCons (a : SE) (r : SA) : SA := fun σ h => (a σ h).bind fun x h1 => (r σ h1).bind fun xs h2 => .ok (x :: xs) h2
def sTup (a : SA) : SE := fun σ h => (a σ h).bind fun xs h1 => if xs.length ≤ sizeLine then .ok (.tup xs) h1 else .stk
def alloc (o : Ob) (h : Hh) : Res T := .ok (.ref h.length) (h ++ [o])
def sLst (a : SA) : SE := fun σ h => (a σ h).bind fun xs h1 => if xs.length ≤ sizeLine then alloc (.lst xs) h1 else .stk
def sCl (f : List T → Hh → Res T) (a : SA) : SE := fun σ h => (a σ h).bind fun xs h1 => f xs h1
def sMt (f : T → List T → Hh → Res T) (o : SE) (a : SA) : SE := fun σ h => (o σ h).bind fun x h1 => (a σ h1).bind fun xs h2 => f x xs h2
def lstAt (h : Hh) (l : Nat) : Option (List T) := match h[l]? with | some (.lst ts) => some ts | _ => none
def insAt (h : Hh) (l : Nat) : Option (Str × List (Str × T)) := match h[l]? with | some (.ins c fs) => some (c, fs) | _ => none
def oAdd (x y : T) (h : Hh) : Res T :=
  match x, y with
  | .int i, .int j => .ok (.int (i + j)) h
  | .str i, .str j => if i.length + j.length ≤ sizeLine then .ok (.str (i ++ j)) h else .stk
  | .tup xs, .tup ys => if xs.length + ys.length ≤ sizeLine then .ok (.tup (xs ++ ys)) h else .stk
  | .ref l, .ref b => match lstAt h l, lstAt h b with
    | some xs, some zs => if xs.length + zs.length ≤ sizeLine then alloc (.lst (xs ++ zs)) h else .stk
    | _, _ => .stk
  | _, _ => .stk
def oSub (x y : T) (h : Hh) : Res T :=
  match x, y with
  | .int i, .int j => .ok (.int (i - j)) h
  | _, _ => .stk
def MulOk (i j : Int) : Prop := (-(2 ^ 64) < i ∧ i < 2 ^ 64) ∨ (-(2 ^ 64) < j ∧ j < 2 ^ 64)
def PowOk (i j : Int) : Prop := 0 ≤ j ∧ j ≤ 1000000 ∧ i.natAbs < 2 ^ 64
open Classical in
noncomputable def oMul (x y : T) (h : Hh) : Res T :=
  match x, y with
  | .int i, .int j => if MulOk i j then .ok (.int (i * j)) h else .stk
  | _, _ => .stk
def oMod (x y : T) (h : Hh) : Res T :=
  match x, y with
  | .int i, .int j => if 0 < j then .ok (.int (i % j)) h else .stk
  | _, _ => .stk
def oDiv (x y : T) (h : Hh) : Res T :=
  match x, y with
  | .int i, .int j => if 0 < j ∧ j < 1073741824 then .ok (.int (i / j)) h else .stk
  | _, _ => .stk
open Classical in
noncomputable def oPow (x y : T) (h : Hh) : Res T :=
  match x, y with
  | .int i, .int j => if PowOk i j then .ok (.int (i ^ j.toNat)) h else .stk
  | _, _ => .stk
def oNeg (x : T) (h : Hh) : Res T := match x with | .int i => .ok (.int (-i)) h | _ => .stk
def oLt (x y : T) (h : Hh) : Res T := match x, y with | .int i, .int j => .ok (.bl (decide (i < j))) h | _, _ => .stk
def oLe (x y : T) (h : Hh) : Res T := match x, y with | .int i, .int j => .ok (.bl (decide (i ≤ j))) h | _, _ => .stk
def oGt (x y : T) (h : Hh) : Res T := match x, y with | .int i, .int j => .ok (.bl (decide (j < i))) h | _, _ => .stk
def oGe (x y : T) (h : Hh) : Res T := match x, y with | .int i, .int j => .ok (.bl (decide (j ≤ i))) h | _, _ => .stk
def isNonT : T → Bool | .non => true | _ => false
def oIs (x y : T) (h : Hh) : Res T :=
  match y with
  | .non => .ok (.bl (isNonT x)) h
  | .bl b => match x with | .bl a => .ok (.bl (decide (a = b))) h | _ => .stk
  | _ => .stk
def oIsNot (x y : T) (h : Hh) : Res T :=
  match y with
  | .non => .ok (.bl (!isNonT x)) h
  | .bl b => match x with | .bl a => .ok (.bl (!decide (a = b))) h | _ => .stk
  | _ => .stk
def optL {α : Type} (f : T → Option α) : List T → Option (List α)
  | [] => some []
  | t :: ts => match f t, optL f ts with | some d, some ds => some (d :: ds) | _, _ => none
def toD (h : Hh) : Nat → T → Option PyData
  | 0 => fun _ => none
  | n + 1 => fun t => match t with
    | .non => some .none
    | .bl b => some (.bool b)
    | .int i => some (.int i)
    | .str s => some (.str s)
    | .tup ts => (optL (toD h n) ts).map .tuple
    | .fl ts => (optL (toD h n) ts).map .list
    | .ref l => match h[l]? with | some (.lst ts) => (optL (toD h n) ts).map .list | _ => none
    | .cls _ => none
def oEq (x y : T) (h : Hh) : Res T := match toD h 24 x, toD h 24 y with | some d, some e => .ok (.bl (PyData.eqv d e)) h | _, _ => .stk
def oNe (x y : T) (h : Hh) : Res T := match toD h 24 x, toD h 24 y with | some d, some e => .ok (.bl (!PyData.eqv d e)) h | _, _ => .stk
def inT (x y : T) (h : Hh) : Option Bool :=
  match x, y with
  | .str i, .str j => some (!(Builtin.Str.occurrences j i 0 j.length 1).isEmpty)
  | x, y => match toD h 24 x, toD h 24 y with
    | some d, some (.list ds) => some (ds.any fun z => PyData.eqv z d)
    | some d, some (.tuple ds) => some (ds.any fun z => PyData.eqv z d)
    | _, _ => none
def oIn (x y : T) (h : Hh) : Res T := match inT x y h with | some b => .ok (.bl b) h | none => .stk
def oNotIn (x y : T) (h : Hh) : Res T := match inT x y h with | some b => .ok (.bl (!b)) h | none => .stk
def oIx (x y : T) (h : Hh) : Res T :=
  match y with
  | .int i => match x with
    | .tup ts => match L2.atI ts i with | some t => .ok t h | none => .stk
    | .fl ts => match L2.atI ts i with | some t => .ok t h | none => .stk
    | .ref l => match lstAt h l with
      | some ts => match L2.atI ts i with | some t => .ok t h | none => .stk
      | none => .stk
    | .str z => if z.length ≤ sizeLine then (match L2.atI z.cps.toList i with | some c => .ok (.str ⟨#[c]⟩) h | none => .stk) else .stk
    | _ => .stk
  | _ => .stk
def cutT {α : Type} (xs : List α) (lo hi : Option Int) : List α := (xs.drop (HT.sIx xs.length 0 lo)).take (HT.sIx xs.length xs.length hi - HT.sIx xs.length 0 lo)
abbrev SO := St3 → Hh → Res (Option Int)
def soNone : SO := fun _ h => .ok none h
def soSome (a : SE) : SO := fun σ h => (a σ h).bind fun x h1 => match x with | .int i => .ok (some i) h1 | _ => .stk
def oSl (x : T) (lo hi : Option Int) (h : Hh) : Res T :=
  match x with
  | .tup ts => .ok (.tup (cutT ts lo hi)) h
  | .fl ts => alloc (.lst (cutT ts lo hi)) h
  | .ref l => match lstAt h l with | some ts => alloc (.lst (cutT ts lo hi)) h | none => .stk
  | .str z => if z.length ≤ sizeLine then .ok (.str (L2.cutS z lo hi)) h else .stk
  | _ => .stk
def sSl (a : SE) (lo hi : SO) : SE := fun σ h => (a σ h).bind fun x h1 => (lo σ h1).bind fun l h2 => (hi σ h2).bind fun u h3 => oSl x l u h3
def putT (f : Str) (v : T) : List (Str × T) → List (Str × T)
  | [] => [(f, v)]
  | (g, w) :: r => if g = f then (g, v) :: r else (g, w) :: putT f v r
def bLen (xs : List T) (h : Hh) : Res T :=
  match xs with
  | [.tup ts] => .ok (.int ts.length) h
  | [.fl ts] => .ok (.int ts.length) h
  | [.str z] => if z.length ≤ sizeLine then .ok (.int z.length) h else .stk
  | [.ref l] => match lstAt h l with | some ts => .ok (.int ts.length) h | none => .stk
  | _ => .stk
def bInt (xs : List T) (h : Hh) : Res T :=
  match xs with
  | [.int i] => .ok (.int i) h
  | _ => .stk
def blsOf : List T → Option (List Bool)
  | [] => some []
  | .bl b :: r => (blsOf r).map (b :: ·)
  | _ => none
def bAll (ts : List T) (h : Hh) : Res T := match blsOf ts with | some bs => .ok (.bl (bs.all id)) h | none => .stk
def bAny (ts : List T) (h : Hh) : Res T := match blsOf ts with | some bs => .ok (.bl (bs.any id)) h | none => .stk
def bTup (ts : List T) (h : Hh) : Res T := .ok (.tup ts) h
def bTuple (xs : List T) (h : Hh) : Res T :=
  match xs with
  | [.tup ts] => .ok (.tup ts) h
  | [.fl ts] => .ok (.tup ts) h
  | [.ref l] => match lstAt h l with | some ts => .ok (.tup ts) h | none => .stk
  | _ => .stk
def bList (xs : List T) (h : Hh) : Res T :=
  match xs with
  | [.tup ts] => alloc (.lst ts) h
  | [.fl ts] => alloc (.lst ts) h
  | [.ref l] => match lstAt h l with | some ts => alloc (.lst ts) h | none => .stk
  | _ => .stk
inductive Kd where | int | bool | str | tuple | list | dict
  deriving DecidableEq
def isK (k : Kd) (x : T) (h : Hh) : Option Bool :=
  match x with
  | .non => some false
  | .bl _ => some (k == .bool || k == .int)
  | .int _ => some (k == .int)
  | .str _ => some (k == .str)
  | .tup _ => some (k == .tuple)
  | .fl _ => some (k == .list)
  | .ref l => match h[l]? with
    | some (.lst _) => some (k == .list)
    | some (.dic _) => some (k == .dict)
    | some (.ins _ _) => none
    | none => none
  | .cls _ => none
def oIsK (k : Kd) (x : T) (h : Hh) : Res T := match isK k x h with | some b => .ok (.bl b) h | none => .stk
def mAppend (x : T) (vs : List T) (h : Hh) : Res T :=
  match x, vs with
  | .ref l, [y] => match lstAt h l with
    | some ts => if ts.length < sizeLine then .ok .non (h.set l (.lst (ts ++ [y]))) else .stk
    | none => .stk
  | _, _ => .stk
def mClear (x : T) (vs : List T) (h : Hh) : Res T :=
  match x, vs with
  | .ref l, [] => match lstAt h l with
    | some _ => .ok .non (h.set l (.lst []))
    | none => .stk
  | _, _ => .stk
def mExtend (x : T) (vs : List T) (h : Hh) : Res T :=
  match x, vs with
  | .ref l, [.ref b] => match lstAt h l, lstAt h b with
    | some ts, some zs => if ts.length + zs.length ≤ sizeLine then .ok .non (h.set l (.lst (ts ++ zs))) else .stk
    | _, _ => .stk
  | _, _ => .stk
def findE (d : PyData) : List PyData → Nat → Option Nat
  | [], _ => none
  | z :: r, j => if PyData.eqv z d then some j else findE d r (j + 1)
def mIndex (x : T) (vs : List T) (h : Hh) : Res T :=
  match vs with
  | [y] => match toD h 24 x, toD h 24 y with
    | some (.list ds), some d => match findE d ds 0 with | some j => .ok (.int j) h | none => .stk
    | some (.tuple ds), some d => match findE d ds 0 with | some j => .ok (.int j) h | none => .stk
    | _, _ => .stk
  | _ => .stk
def isL (x : T) (h : Hh) : Bool := match x with | .ref l => (lstAt h l).isSome | .fl _ => true | _ => false
def sMtL (f : T → List T → Hh → Res T) (o : SE) (a : SA) : SE := fun σ h => (o σ h).bind fun x h1 => if isL x h1 = true then (a σ h1).bind fun xs h2 => f x xs h2 else .stk
def arN (n : Nat) (f : List T → Hh → Res T) (xs : List T) (h : Hh) : Res T := if xs.length = n then f xs h else .stk
def sMeth (c m : Str) (n : Nat) (f : List T → Hh → Res T) (o : SE) (a : SA) : SE := fun σ h => (o σ h).bind fun x h1 => match x with
  | .ref l => match insAt h1 l with
    | some (d, fs) => if d = c ∧ fs.lookup m = none then (a σ h1).bind fun xs h2 => arN n f (x :: xs) h2 else .stk
    | none => .stk
  | _ => .stk
def weave {α : Type} : List Bool → List α → List α → List α
  | [], _, _ => []
  | true :: r, ds, z :: zs => z :: weave r ds zs
  | true :: _, _, [] => []
  | false :: r, d :: ds, zs => d :: weave r ds zs
  | false :: _, [], _ => []
def sClK (n q : Nat) (pat : List Bool) (ds : List T) (f : List T → Hh → Res T) (a kw : SA) : SE := fun σ h => (a σ h).bind fun xs h1 => (kw σ h1).bind fun zs h2 => if xs.length = n ∧ zs.length = q then f (xs ++ weave pat ds zs) h2 else .stk
inductive Src where
  | its (ts : List T) | live (l : Nat)
abbrev SI := St3 → Hh → Res Src
def Src.len (s : Src) (h : Hh) : Nat := match s with | .its ts => ts.length | .live l => match lstAt h l with | some ts => ts.length | none => 0
def Src.at (s : Src) (h : Hh) (i : Nat) : Option (Option T) :=
  match s with
  | .its ts => some ts[i]?
  | .live l => match lstAt h l with | some ts => some ts[i]? | none => none
def srcOf (x : T) (h : Hh) : Res Src :=
  match x with
  | .tup ts => .ok (.its ts) h
  | .fl ts => .ok (.its ts) h
  | .str z => .ok (.its (z.cps.toList.map fun c => .str ⟨#[c]⟩)) h
  | .ref l => match lstAt h l with | some _ => .ok (.live l) h | none => .stk
  | _ => .stk
def siE (a : SE) : SI := fun σ h => (a σ h).bind fun x h1 => srcOf x h1
def rangeT (lo : Int) : Nat → List T
  | 0 => []
  | n + 1 => .int lo :: rangeT (lo + 1) n
def RngOk (j : Int) : Prop := -(2 ^ 62) ≤ j ∧ j < 2 ^ 62
open Classical in
noncomputable def rngOf (xs : List T) (h1 : Hh) : Res Src := match xs with
  | [.int j] => if RngOk j then .ok (.its (rangeT 0 j.toNat)) h1 else .stk
  | _ => .stk
noncomputable def siRange1 (a : SA) : SI := fun σ h => (a σ h).bind rngOf
abbrev SG := T → St3 → Option St3
def sgName (i : Nat) : SG := fun t σ => some (σ.set i (some t))
abbrev SGs := List T → St3 → Option St3
def sgsNil : SGs := fun ts σ => match ts with | [] => some σ | _ => none
def sgsCons (g : SG) (r : SGs) : SGs := fun ts σ => match ts with
  | t :: more => match g t σ with | some σ1 => r more σ1 | none => none
  | [] => none
def sgTup (n : Nat) (g : SGs) : SG := fun t σ => match t with
  | .tup ts => if ts.length = n then g ts σ else none
  | _ => none
def wipeT (σ : St3) : List Nat → St3
  | [] => σ
  | v :: vs => (wipeT σ vs).set v none
def lcRun (s : Src) (g : SG) (tt : ST) (te : SE) (σ : St3) : Nat → Nat → List T → Hh → Res (List T)
  | k, i, acc, h => match s.at h i with
    | none => .stk
    | some none => .ok acc h
    | some (some x) => match k with
      | 0 => .stk
      | k + 1 => match g x σ with
        | none => .stk
        | some σ1 => match tt σ1 h with
          | .ok b h1 => if b = true then (match te σ1 h1 with
              | .ok t h2 => if acc.length < sizeLine then lcRun s g tt te σ k (i + 1) (acc ++ [t]) h2 else .stk
              | _ => .stk) else lcRun s g tt te σ k (i + 1) acc h1
          | _ => .stk
def stYes : ST := fun _ h => .ok true h
def saLc (si : SI) (g : SG) (tt : ST) (te : SE) (vs : List Nat) : SA := fun σ h => (si σ h).bind fun s h1 => lcRun s g tt te (wipeT σ vs) (s.len h1) 0 [] h1
def sLc (a : SA) : SE := fun σ h => (a σ h).bind fun xs h1 => alloc (.lst xs) h1
def sOver (f : List T → Hh → Res T) (a : SA) : SE := fun σ h => (a σ h).bind fun xs h1 => f xs h1
inductive Flo where
  | nx (σ : St3) (h : Hh) | rt (t : T) (h : Hh) | bk (σ : St3) (h : Hh) | ct (σ : St3) (h : Hh) | exc (c : Str) (fs : List (Str × T)) (σ : St3) (h : Hh) | stk
abbrev SS := St3 → Hh → Flo
def Flo.seq (r : Flo) (k : SS) : Flo := match r with | .nx σ h => k σ h | r => r
@[simp] theorem Flo.seq_nx (σ : St3) (h : Hh) (k : SS) : (Flo.nx σ h).seq k = k σ h := Eq.trans rfl rfl
@[simp] theorem Flo.seq_rt (t : T) (h : Hh) (k : SS) : (Flo.rt t h).seq k = .rt t h := Eq.trans rfl rfl
def Res.flo {α : Type} (r : Res α) (σ : St3) (k : α → Hh → Flo) : Flo := match r with | .ok a h => k a h | .exc c fs h => .exc c fs σ h | .stk => .stk
@[simp] theorem Res.flo_ok {α : Type} (a : α) (h : Hh) (σ : St3) (k : α → Hh → Flo) : (Res.ok a h).flo σ k = k a h := Eq.trans rfl rfl
def ssNil : SS := fun σ h => .nx σ h
def ssCons (a b : SS) : SS := fun σ h => (a σ h).seq b
def ssIf (c : ST) (a b : SS) : SS := fun σ h => (c σ h).flo σ fun x h1 => if x = true then a σ h1 else b σ h1
def ssRet (a : SE) : SS := fun σ h => (a σ h).flo σ fun x h1 => .rt x h1
def ssRetN : SS := fun _ h => .rt .non h
def ssExpr (a : SE) : SS := fun σ h => (a σ h).flo σ fun _ h1 => .nx σ h1
def ssAsg (a : SE) (g : SG) : SS := fun σ h => (a σ h).flo σ fun x h1 => match g x σ with | some σ1 => .nx σ1 h1 | none => .stk
def ssFldC (cs : List (Str × List Str)) (o v : SE) (f : Str) : SS := fun σ h => (v σ h).flo σ fun y h1 => (o σ h1).flo σ fun x h2 => match x with
  | .ref l => match insAt h2 l with
    | some (c, fs) => match cs.lookup c with
      | some as => if as.contains f && decide (fs.length < 1000) then .nx σ (h2.set l (.ins c (putT f y fs))) else .stk
      | none => .stk
    | none => .stk
  | _ => .stk
def ssSub (o i v : SE) : SS := fun σ h => (v σ h).flo σ fun y h1 => (o σ h1).flo σ fun x h2 => (i σ h2).flo σ fun k h3 => match x, k with
  | .ref l, .int n => match lstAt h3 l with
    | some ts => match L2.ixN ts.length n with | some j => .nx σ (h3.set l (.lst (ts.set j y))) | none => .stk
    | none => .stk
  | _, _ => .stk
def ssBreak : SS := fun σ h => .bk σ h
def ssCont : SS := fun σ h => .ct σ h
def forRun (s : Src) (g : SG) (b : SS) : Nat → Nat → St3 → Hh → Flo
  | k, i, σ, h => match s.at h i with
    | none => .stk
    | some none => .nx σ h
    | some (some x) => match k with
      | 0 => .stk
      | k + 1 => match g x σ with
        | none => .stk
        | some σ1 => match b σ1 h with
          | .nx σ2 h2 => forRun s g b k (i + 1) σ2 h2
          | .ct σ2 h2 => forRun s g b k (i + 1) σ2 h2
          | .bk σ2 h2 => .nx σ2 h2
          | r => r
def ssFor (si : SI) (g : SG) (b : SS) : SS := fun σ h => (si σ h).flo σ fun s h1 => forRun s g b (s.len h1) 0 σ h1
def startT (n : Nat) (ts : List T) : St3 := ts.map some ++ List.replicate (n - ts.length) none
def defRun (n : Nat) (b : SS) (ts : List T) (h : Hh) : Res T := match b (startT n ts) h with
  | .nx _ h1 => .ok .non h1
  | .rt t h1 => .ok t h1
  | .exc c fs _ h1 => .exc c fs h1
  | _ => .stk
def bMake (c : Str) (n : Nat) (f : List T → Hh → Res T) (xs : List T) (h : Hh) : Res T :=
  (arN n f (.ref h.length :: xs) (h ++ [.ins c []])).bind fun t h1 => match t with | .non => .ok (.ref h.length) h1 | _ => .stk
end W3
end

section
namespace W3
open PySem L2
def SqF (K : PySem.W.Frag) (H : Hp) (a : Addr) (xs : List V) : Prop :=
  (∃ o, H a = some (.frz o (.lst xs))) ∨
    ∃ (o : Obj) (its : Array Value) (n : Nat), K.lookup a = some o ∧ o.cls = .type "list" ∧ o.dict = none ∧ o.data = .seq its n ∧ its.size ≤ sizeLine ∧ Vals xs its.toList
theorem SqF.sq {K : PySem.W.Frag} {H : Hp} {a : Addr} {xs : List V} (h : SqF K H a xs) : SqL K H a xs := by
  rcases h with ⟨o, h⟩ | h
  · exact .inl (.inr ⟨o, h⟩)
  · exact .inr h
def SqN (K : PySem.W.Frag) (H : Hp) (a : Addr) (xs : List V) : Prop :=
  (∃ o, H a = some (.frz o (.tup xs)) ∧ o.dict = none) ∨
    ∃ (o : Obj) (its : Array Value) (n : Nat), K.lookup a = some o ∧ o.cls = .type "tuple" ∧ o.dict = none ∧ o.data = .seq its n ∧ its.size ≤ sizeLine ∧ Vals xs its.toList
theorem SqN.t {K : PySem.W.Frag} {H : Hp} {a : Addr} {xs : List V} (h : SqN K H a xs) : SqT K H a xs := by
  rcases h with ⟨o, h, _⟩ | ⟨o, its, n, h1, h2, _, h3⟩
  · exact .inl (.inr ⟨o, h⟩)
  · exact .inr ⟨o, its, n, h1, h2, h3⟩
instance {K : PySem.W.Frag} {H : Hp} {a : Addr} {xs : List V} : Coe (SqN K H a xs) (SqT K H a xs) := ⟨SqN.t⟩
abbrev Mp := Nat → Option Addr
mutual
inductive RT (K : PySem.W.Frag) (mg : Str → Option Value) (m : Mp) (H : Hp) : T → V → Prop
  | non : RT K mg m H .non .non
  | bl (b : Bool) : RT K mg m H (.bl b) (.bl b)
  | int (i : Int) : RT K mg m H (.int i) (.int i)
  | str {x : Str} : PyData.strOk x = true → RT K mg m H (.str x) (.str x)
  | tup {a : Addr} {vs : List V} {ts : List T} : SqN K H a vs → RTs K mg m H ts vs → RT K mg m H (.tup ts) (.ref a)
  | fl {a : Addr} {vs : List V} {ts : List T} : SqF K H a vs → RTs K mg m H ts vs → RT K mg m H (.fl ts) (.ref a)
  | ref {l : Nat} {a : Addr} : m l = some a → RT K mg m H (.ref l) (.ref a)
  | cls {c : Str} {C : Addr} : mg c = some (.ref C) → RT K mg m H (.cls c) (.ref C)
inductive RTs (K : PySem.W.Frag) (mg : Str → Option Value) (m : Mp) (H : Hp) : List T → List V → Prop
  | nil : RTs K mg m H [] []
  | cons {t : T} {ts : List T} {v : V} {vs : List V} : RT K mg m H t v → RTs K mg m H ts vs → RTs K mg m H (t :: ts) (v :: vs)
end
inductive RF (K : PySem.W.Frag) (mg : Str → Option Value) (m : Mp) (H : Hp) : List (Str × T) → List (Str × V) → Prop
  | nil : RF K mg m H [] []
  | cons {f : Str} {t : T} {v : V} {fs : List (Str × T)} {fv : List (Str × V)} : RT K mg m H t v → RF K mg m H fs fv → RF K mg m H ((f, t) :: fs) ((f, v) :: fv)
inductive RK (K : PySem.W.Frag) (mg : Str → Option Value) (m : Mp) (H : Hp) : List (T × T) → List (Key × V) → Prop
  | nil : RK K mg m H [] []
  | cons {f : Str} {t : T} {v : V} {fs : List (T × T)} {fv : List (Key × V)} : RT K mg m H t v → RK K mg m H fs fv → RK K mg m H ((.str f, t) :: fs) ((.inr f, v) :: fv)
structure Ext (m : Mp) (H : Hp) (m' : Mp) (H' : Hp) : Prop where
  mono : ∀ l a, m l = some a → m' l = some a
  fresh : ∀ l a, m' l = some a → m l = some a ∨ H a = none
  live : ∀ a o, H a = some o → ∃ o', H' a = some o'
  keep : ∀ a o, H a = some o → (∀ l, m l ≠ some a) → H' a = some o
  tups : ∀ a vs, H a = some (.tup vs) → H' a = some (.tup vs)
  frzs : ∀ a o u, H a = some (.frz o u) → H' a = some (.frz o u)
  xds : ∀ a fs, H a = some (.xd fs) → H' a = some (.xd fs)
theorem Ext.refl (m : Mp) (H : Hp) : Ext m H m H := ⟨fun _ _ e => e, fun _ _ e => .inl e, fun _ o e => ⟨o, e⟩, fun _ _ e _ => e, fun _ _ e => e, fun _ _ _ e => e, fun _ _ e => e⟩
theorem Ext.trans {m1 m2 m3 : Mp} {H1 H2 H3 : Hp} (a : Ext m1 H1 m2 H2) (b : Ext m2 H2 m3 H3) : Ext m1 H1 m3 H3 where
  mono := fun l x e => b.mono l x (a.mono l x e)
  fresh := fun l x e => by
    rcases b.fresh l x e with q | q
    · exact a.fresh l x q
    · cases hx : H1 x with
      | none => exact .inr rfl
      | some o =>
        obtain ⟨o', e'⟩ := a.live x o hx
        rw [q] at e'
        cases e'
  live := fun x o e => by
    obtain ⟨o', e'⟩ := a.live x o e
    exact b.live x o' e'
  keep := fun x o e n => b.keep x o (a.keep x o e n) fun l q => by
    rcases a.fresh l x q with z | z
    · exact n l z
    · rw [e] at z
      cases z
  tups := fun x vs e => b.tups x vs (a.tups x vs e)
  frzs := fun x o u e => b.frzs x o u (a.frzs x o u e)
  xds := fun x fs e => b.xds x fs (a.xds x fs e)
section
variable {K : PySem.W.Frag} {mg : Str → Option Value} {m m' : Mp} {H H' : Hp}
structure Tr (m : Mp) (H : Hp) (m' : Mp) (H' : Hp) : Prop where
  mono : ∀ l a, m l = some a → m' l = some a
  tups : ∀ a vs, H a = some (.tup vs) → H' a = some (.tup vs)
  frzs : ∀ a o u, H a = some (.frz o u) → H' a = some (.frz o u)
theorem Ext.tr (E : Ext m H m' H') : Tr m H m' H' := ⟨E.mono, E.tups, E.frzs⟩
theorem Tr.trans {m2 : Mp} {H2 : Hp} (a : Tr m H m' H') (b : Tr m' H' m2 H2) : Tr m H m2 H2 := ⟨fun l x e => b.mono l x (a.mono l x e), fun x vs e => b.tups x vs (a.tups x vs e), fun x o u e => b.frzs x o u (a.frzs x o u e)⟩
theorem Tr.refl : Tr m H m H := ⟨fun _ _ e => e, fun _ _ e => e, fun _ _ _ e => e⟩
theorem SqT.tr (E : Tr m H m' H') {a : Addr} {vs : List V} (h : SqT K H a vs) : SqT K H' a vs := by
  rcases h with h | h
  · rcases h with h | ⟨o, h⟩
    · exact .inl (.inl (E.tups a vs h))
    · exact .inl (.inr ⟨o, E.frzs a o _ h⟩)
  · exact .inr h
theorem SqN.tr (E : Tr m H m' H') {a : Addr} {vs : List V} (h : SqN K H a vs) : SqN K H' a vs := by
  rcases h with ⟨o, h, d⟩ | h
  · exact .inl ⟨o, E.frzs a o _ h, d⟩
  · exact .inr h
theorem SqF.tr (E : Tr m H m' H') {a : Addr} {vs : List V} (h : SqF K H a vs) : SqF K H' a vs := by
  rcases h with ⟨o, h⟩ | h
  · exact .inl ⟨o, E.frzs a o _ h⟩
  · exact .inr h
mutual
theorem RT.tr (E : Tr m H m' H') : ∀ {t : T} {v : V}, RT K mg m H t v → RT K mg m' H' t v
  | _, _, .non => .non
  | _, _, .bl b => .bl b
  | _, _, .int i => .int i
  | _, _, .str h => .str h
  | _, _, .tup h r => .tup (SqN.tr E h) (RTs.tr E r)
  | _, _, .fl h r => .fl (SqF.tr E h) (RTs.tr E r)
  | _, _, .ref h => .ref (E.mono _ _ h)
  | _, _, .cls h => .cls h
theorem RTs.tr (E : Tr m H m' H') : ∀ {ts : List T} {vs : List V}, RTs K mg m H ts vs → RTs K mg m' H' ts vs
  | _, _, .nil => .nil
  | _, _, .cons r q => .cons (RT.tr E r) (RTs.tr E q)
end
theorem RF.tr (E : Tr m H m' H') {fs : List (Str × T)} {fv : List (Str × V)} (r : RF K mg m H fs fv) : RF K mg m' H' fs fv := by
  induction r with
  | nil => exact .nil
  | cons r _ ih => exact .cons (r.tr E) ih
theorem RK.tr (E : Tr m H m' H') {fs : List (T × T)} {fv : List (Key × V)} (r : RK K mg m H fs fv) : RK K mg m' H' fs fv := by
  induction r with
  | nil => exact .nil
  | cons r _ ih => exact .cons (r.tr E) ih
theorem SqT.ext (E : Ext m H m' H') {a : Addr} {vs : List V} (h : SqT K H a vs) : SqT K H' a vs := SqT.tr E.tr h
theorem SqF.ext (E : Ext m H m' H') {a : Addr} {vs : List V} (h : SqF K H a vs) : SqF K H' a vs := SqF.tr E.tr h
theorem RT.ext (E : Ext m H m' H') {t : T} {v : V} (r : RT K mg m H t v) : RT K mg m' H' t v := r.tr E.tr
theorem RTs.ext (E : Ext m H m' H') {ts : List T} {vs : List V} (r : RTs K mg m H ts vs) : RTs K mg m' H' ts vs := r.tr E.tr
theorem RF.ext (E : Ext m H m' H') {fs : List (Str × T)} {fv : List (Str × V)} (r : RF K mg m H fs fv) : RF K mg m' H' fs fv := r.tr E.tr
theorem RTs.length : ∀ {ts : List T} {vs : List V}, RTs K mg m H ts vs → ts.length = vs.length
  | _, _, .nil => rfl
  | _, _, .cons _ q => by rw [List.length_cons, List.length_cons, q.length]
theorem RTs.get : ∀ {ts : List T} {vs : List V} {i : Nat} {t : T}, RTs K mg m H ts vs → ts[i]? = some t → ∃ v, vs[i]? = some v ∧ RT K mg m H t v
  | _, _, _, _, .nil, e => by simp at e
  | _, _, 0, _, .cons r _, e => by simp at e; subst e; exact ⟨_, rfl, r⟩
  | _, _, i + 1, t, .cons _ q, e => by
    obtain ⟨v, h1, h2⟩ := RTs.get (i := i) (t := t) q (by simpa using e)
    exact ⟨v, by simpa using h1, h2⟩
theorem RTs.append : ∀ {ts us : List T} {vs ws : List V}, RTs K mg m H ts vs → RTs K mg m H us ws → RTs K mg m H (ts ++ us) (vs ++ ws)
  | _, _, _, _, .nil, s => s
  | _, _, _, _, .cons r q, s => .cons r (RTs.append q s)
theorem RTs.take : ∀ {ts : List T} {vs : List V} (n : Nat), RTs K mg m H ts vs → RTs K mg m H (ts.take n) (vs.take n)
  | _, _, 0, _ => .nil
  | _, _, _ + 1, .nil => .nil
  | _, _, n + 1, .cons r q => .cons r (RTs.take n q)
theorem RTs.drop : ∀ {ts : List T} {vs : List V} (n : Nat), RTs K mg m H ts vs → RTs K mg m H (ts.drop n) (vs.drop n)
  | _, _, 0, r => r
  | _, _, _ + 1, .nil => .nil
  | _, _, n + 1, .cons _ q => RTs.drop n q
theorem RTs.set : ∀ {ts : List T} {vs : List V} (i : Nat) {t : T} {v : V}, RTs K mg m H ts vs → RT K mg m H t v → RTs K mg m H (ts.set i t) (vs.set i v)
  | _, _, _, _, _, .nil, _ => .nil
  | _, _, 0, _, _, .cons _ q, r => .cons r q
  | _, _, i + 1, _, _, .cons p q, r => .cons p (RTs.set i q r)
theorem RF.lookup {fs : List (Str × T)} {fv : List (Str × V)} (r : RF K mg m H fs fv) {f : Str} {t : T} (e : fs.lookup f = some t) : ∃ v, fv.lookup f = some v ∧ RT K mg m H t v := by
  induction r with
  | nil => simp [List.lookup] at e
  | @cons g u v fs fv r _ ih =>
    simp only [List.lookup] at e ⊢
    split at e
    · cases e; exact ⟨v, rfl, r⟩
    · exact ih e
theorem RF.length {fs : List (Str × T)} {fv : List (Str × V)} (r : RF K mg m H fs fv) : fs.length = fv.length := by
  induction r with
  | nil => rfl
  | cons _ _ ih => simp [ih]
theorem RF.put {fs : List (Str × T)} {fv : List (Str × V)} (r : RF K mg m H fs fv) {f : Str} {t : T} {v : V} (q : RT K mg m H t v) : RF K mg m H (putT f t fs) (putF f v fv) := by
  induction r with
  | nil => exact .cons q .nil
  | @cons g u w fs fv r rr ih =>
    unfold putT putF
    by_cases e : g = f
    · rw [if_pos e, if_pos e]; exact .cons q rr
    · rw [if_neg e, if_neg e]; exact .cons r ih
end
section
variable (K : PySem.W.Frag) (mg : Str → Option Value)
def OR (m : Mp) (H : Hp) (a : Addr) : Ob → Prop
  | .lst ts => ∃ vs, H a = some (.lst vs) ∧ RTs K mg m H ts vs
  | .dic kvs => ∃ ks, H a = some (.dK ks) ∧ RK K mg m H kvs ks
  | .ins c fs => ∃ C dx fv, mg c = some (.ref C) ∧ H a = some (.ins C dx fv) ∧ RF K mg m H fs fv
structure HR (m : Mp) (h : Hh) (H : Hp) : Prop where
  dom : ∀ l a, m l = some a → l < h.length
  inj : ∀ l l' a, m l = some a → m l' = some a → l = l'
  ob : ∀ l o, h[l]? = some o → ∃ a, m l = some a ∧ OR K mg m H a o
end
section
variable {K : PySem.W.Frag} {mg : Str → Option Value} {m : Mp} {H : Hp} {h : Hh}
theorem OR.some {a : Addr} {o : Ob} (r : OR K mg m H a o) : ∃ u, H a = some u ∧ (∀ vs, u ≠ .tup vs) ∧ (∀ ob w, u ≠ .frz ob w) ∧ (∀ fs, u ≠ .xd fs) ∧ ∀ b, u ≠ .own b := by
  cases o with
  | lst ts =>
    obtain ⟨vs, e, _⟩ := r
    exact ⟨_, e, fun _ z => (by cases z), fun _ _ z => (by cases z), fun _ z => (by cases z), fun _ z => by cases z⟩
  | dic _ =>
    obtain ⟨_, e, _⟩ := r
    exact ⟨_, e, fun _ z => (by cases z), fun _ _ z => (by cases z), fun _ z => (by cases z), fun _ z => by cases z⟩
  | ins c fs =>
    obtain ⟨C, dx, fv, _, e, _⟩ := r
    exact ⟨_, e, fun _ z => (by cases z), fun _ _ z => (by cases z), fun _ z => (by cases z), fun _ z => by cases z⟩
theorem HR.tracked (R : HR K mg m h H) {l : Nat} {a : Addr} (e : m l = some a) : ∃ u, H a = some u ∧ (∀ vs, u ≠ .tup vs) ∧ (∀ ob w, u ≠ .frz ob w) ∧ (∀ fs, u ≠ .xd fs) ∧ ∀ b, u ≠ .own b := by
  have hl := R.dom l a e
  obtain ⟨a', e', r⟩ := R.ob l h[l] (by simp [hl])
  rw [e] at e'; cases e'
  exact r.some
theorem Ext.garbage (R : HR K mg m h H) {p : Addr} {o : HO} (hp : H p = none) : Ext m H m (upd H p o) where
  mono := fun _ _ e => e
  fresh := fun _ _ e => .inl e
  live := fun a u e => ⟨u, by rw [upd_ne (ne_of_none e hp)]; exact e⟩
  keep := fun a u e _ => by rw [upd_ne (ne_of_none e hp)]; exact e
  tups := fun a u e => by rw [upd_ne (ne_of_none e hp)]; exact e
  frzs := fun a u w e => by rw [upd_ne (ne_of_none e hp)]; exact e
  xds := fun a u e => by rw [upd_ne (ne_of_none e hp)]; exact e
theorem OR.moveT {m' : Mp} {H' : Hp} (E : Tr m H m' H') {a : Addr} {o : Ob} (r : OR K mg m H a o) (ha : H' a = H a) : OR K mg m' H' a o := by
  cases o with
  | lst ts =>
    obtain ⟨vs, e, r⟩ := r
    exact ⟨vs, ha.trans e, r.tr E⟩
  | dic _ =>
    obtain ⟨z, e, r⟩ := r
    exact ⟨z, ha.trans e, r.tr E⟩
  | ins c fs =>
    obtain ⟨C, dx, fv, g, e, r⟩ := r
    exact ⟨C, dx, fv, g, ha.trans e, r.tr E⟩
theorem OR.move {m' : Mp} {H' : Hp} (E : Ext m H m' H') {a : Addr} {o : Ob} (r : OR K mg m H a o) (ha : H' a = H a) : OR K mg m' H' a o := by
  cases o with
  | lst ts =>
    obtain ⟨vs, e, r⟩ := r
    exact ⟨vs, ha.trans e, r.ext E⟩
  | dic _ =>
    obtain ⟨z, e, r⟩ := r
    exact ⟨z, ha.trans e, r.tr E.tr⟩
  | ins c fs =>
    obtain ⟨C, dx, fv, g, e, r⟩ := r
    exact ⟨C, dx, fv, g, ha.trans e, r.ext E⟩
theorem HR.garbage (R : HR K mg m h H) {p : Addr} {o : HO} (hp : H p = none) : HR K mg m h (upd H p o) where
  dom := R.dom
  inj := R.inj
  ob := fun l u e => by
    obtain ⟨a, e1, r⟩ := R.ob l u e
    obtain ⟨w, hw, _⟩ := r.some
    exact ⟨a, e1, r.move (Ext.garbage R hp) (upd_ne (ne_of_none hw hp))⟩
def Mp.put (m : Mp) (l : Nat) (p : Addr) : Mp := fun k => if k = l then some p else m k
theorem Mp.put_same {l : Nat} {p : Addr} : m.put l p l = some p := by unfold Mp.put; rw [if_pos rfl]
theorem Mp.put_ne {l k : Nat} {p : Addr} (e : k ≠ l) : m.put l p k = m k := by unfold Mp.put; rw [if_neg e]
theorem Ext.alloc (R : HR K mg m h H) {p : Addr} {o : HO} (hp : H p = none) : Ext m H (m.put h.length p) (upd H p o) where
  mono := fun l a e => by rw [Mp.put_ne (Nat.ne_of_lt (R.dom l a e))]; exact e
  fresh := fun l a e => by
    by_cases hl : l = h.length
    · subst hl; rw [Mp.put_same] at e; cases e; exact .inr hp
    · rw [Mp.put_ne hl] at e; exact .inl e
  live := (Ext.garbage R hp).live
  keep := (Ext.garbage R hp).keep
  tups := (Ext.garbage R hp).tups
  frzs := (Ext.garbage R hp).frzs
  xds := (Ext.garbage R hp).xds
theorem HR.alloc (R : HR K mg m h H) {p : Addr} {o : HO} {u : Ob} (hp : H p = none) (new : OR K mg (m.put h.length p) (upd H p o) p u) : HR K mg (m.put h.length p) (h ++ [u]) (upd H p o) where
  dom := fun l a e => by
    rw [List.length_append, List.length_singleton]
    by_cases hl : l = h.length
    · omega
    · rw [Mp.put_ne hl] at e; have := R.dom l a e; omega
  inj := fun l l' a e e' => by
    by_cases hl : l = h.length
    · by_cases hl' : l' = h.length
      · rw [hl, hl']
      · rw [hl, Mp.put_same] at e; cases e
        rw [Mp.put_ne hl'] at e'
        obtain ⟨w, hw, _⟩ := R.tracked e'
        rw [hp] at hw; cases hw
    · by_cases hl' : l' = h.length
      · rw [hl', Mp.put_same] at e'; cases e'
        rw [Mp.put_ne hl] at e
        obtain ⟨w, hw, _⟩ := R.tracked e
        rw [hp] at hw; cases hw
      · rw [Mp.put_ne hl] at e; rw [Mp.put_ne hl'] at e'
        exact R.inj l l' a e e'
  ob := fun l w e => by
    by_cases hl : l < h.length
    · rw [List.getElem?_append_left hl] at e
      obtain ⟨a, e1, r⟩ := R.ob l w e
      obtain ⟨z, hz, _⟩ := r.some
      exact ⟨a, (Ext.alloc (o := o) R hp).mono l a e1, r.move (Ext.alloc R hp) (upd_ne (ne_of_none hz hp))⟩
    · have : l = h.length := by
        have := (List.getElem?_eq_some_iff.mp e).1
        rw [List.length_append, List.length_singleton] at this
        omega
      subst this
      simp at e
      subst e
      exact ⟨p, Mp.put_same, new⟩
theorem Ext.write (R : HR K mg m h H) {l : Nat} {a : Addr} {o : HO} (e : m l = some a) : Ext m H m (upd H a o) := by
  obtain ⟨u, hu, n1, n2, n3, n4⟩ := R.tracked e
  have ne : ∀ b w, H b = some w → b = a → w = u := fun b w q z => by subst z; rw [hu] at q; exact (Option.some.inj q).symm
  refine ⟨fun _ _ e => e, fun _ _ e => .inl e, fun b w q => ?_, fun b w q n => ?_, fun b vs q => ?_, fun b w v q => ?_, fun b fs q => ?_⟩
  · by_cases hb : b = a
    · exact ⟨o, by rw [hb]; exact upd_same⟩
    · exact ⟨w, by rw [upd_ne hb]; exact q⟩
  · rw [upd_ne (fun z => n l (by rw [z]; exact e))]; exact q
  · rw [upd_ne (fun z => n1 vs (ne b _ q z).symm)]; exact q
  · rw [upd_ne (fun z => n2 w v (ne b _ q z).symm)]; exact q
  · rw [upd_ne (fun z => n3 fs (ne b _ q z).symm)]; exact q
theorem HR.write (R : HR K mg m h H) {l : Nat} {a : Addr} {o : HO} {u : Ob} (e : m l = some a) (new : OR K mg m (upd H a o) a u) : HR K mg m (h.set l u) (upd H a o) where
  dom := fun k b q => by rw [List.length_set]; exact R.dom k b q
  inj := R.inj
  ob := fun k w q => by
    by_cases hk : l = k
    · subst hk
      rw [List.getElem?_set_self (R.dom l a e)] at q
      cases q
      exact ⟨a, e, new⟩
    · rw [List.getElem?_set_ne hk] at q
      obtain ⟨b, e1, r⟩ := R.ob k w q
      have hb : b ≠ a := fun z => hk (R.inj l k a e (z ▸ e1))
      exact ⟨b, e1, r.move (Ext.write R e) (upd_ne hb)⟩
theorem Tr.out {D : Addr} {vs ws : List V} (e : H D = some (.lst vs)) : Tr m H m (upd H D (.lst ws)) :=
  ⟨fun _ _ q => q, fun a us q => by rw [upd_ne (ne_of q e (by intro z; cases z))]; exact q, fun a o u q => by rw [upd_ne (ne_of q e (by intro z; cases z))]; exact q⟩
theorem HR.out (R : HR K mg m h H) {D : Addr} {vs ws : List V} (e : H D = some (.lst vs)) (n : ∀ l, m l ≠ some D) : HR K mg m h (upd H D (.lst ws)) where
  dom := R.dom
  inj := R.inj
  ob := fun l u q => by
    obtain ⟨a, e1, r⟩ := R.ob l u q
    exact ⟨a, e1, r.moveT (Tr.out e) (upd_ne (fun z => n l (by rw [← z]; exact e1)))⟩
theorem Ext.out {m0 : Mp} {H0 : Hp} (E : Ext m0 H0 m H) {D : Addr} {o : HO} (hD : H0 D = none) : Ext m0 H0 m (upd H D o) where
  mono := E.mono
  fresh := E.fresh
  live := fun a u e => by
    obtain ⟨w, q⟩ := E.live a u e
    exact ⟨w, by rw [upd_ne (ne_of_none e hD)]; exact q⟩
  keep := fun a u e n => by rw [upd_ne (ne_of_none e hD)]; exact E.keep a u e n
  tups := fun a u e => by rw [upd_ne (ne_of_none e hD)]; exact E.tups a u e
  frzs := fun a u w e => by rw [upd_ne (ne_of_none e hD)]; exact E.frzs a u w e
  xds := fun a u e => by rw [upd_ne (ne_of_none e hD)]; exact E.xds a u e
theorem HR.lst (R : HR K mg m h H) {l : Nat} {a : Addr} {ts : List T} (e : m l = some a) (hl : lstAt h l = some ts) : ∃ vs, H a = some (.lst vs) ∧ RTs K mg m H ts vs := by
  unfold lstAt at hl
  split at hl
  · cases hl
    rename_i q
    obtain ⟨b, e1, r⟩ := R.ob l _ q
    rw [e] at e1; cases e1
    exact r
  · cases hl
theorem HR.ins (R : HR K mg m h H) {l : Nat} {a : Addr} {c : Str} {fs : List (Str × T)} (e : m l = some a) (hl : insAt h l = some (c, fs)) : ∃ C dx fv, mg c = some (.ref C) ∧ H a = some (.ins C dx fv) ∧ RF K mg m H fs fv := by
  unfold insAt at hl
  split at hl
  · cases hl
    rename_i q
    obtain ⟨b, e1, r⟩ := R.ob l _ q
    rw [e] at e1; cases e1
    exact r
  · cases hl
end
structure Pq where
  p : Mp → Hp → Prop
  st : ∀ {m H m' H'}, Ext m H m' H' → p m H → p m' H'
def PqT : Pq := ⟨fun _ _ => True, fun _ _ => trivial⟩
section
variable (K : PySem.W.Frag) (mg : Str → Option Value)
def XR (m : Mp) (H : Hp) (c : Str) (fs : List (Str × T)) (cls : Value) (d : Option Addr) : Prop :=
  mg c = some cls ∧ ((fs = [] ∧ d = none) ∨ ∃ dd fv, d = some dd ∧ H dd = some (.xd fv) ∧ RF K mg m H fs fv)
def SR (m : Mp) (H : Hp) (σ : St3) (σV : St) : Prop := σ.length = σV.length ∧ ∀ (i : Nat) (t : T), σ[i]? = some (some t) → ∃ v : V, σV[i]? = some (some v) ∧ RT K mg m H t v
structure At (P : Pq) (m : Mp) (H : Hp) (σV : St) (σ : St3) (h : Hh) : Prop where
  sr : SR K mg m H σ σV
  hr : HR K mg m h H
  pr : P.p m H
def Out {α β : Type} (rel : Mp → Hp → α → β → Prop) (W : WX) (σV : St) (Q : β → Hp → Prop) (m : Mp) (H : Hp) : Res α → Prop
  | .ok a h' => ∀ b m' H', Ext m H m' H' → rel m' H' a b → HR K mg m' h' H' → Q b H'
  | .exc c fs h' => ∀ cls d m' H', Ext m H m' H' → XR K mg m' H' c fs cls d → HR K mg m' h' H' → W cls d σV H'
  | .stk => False
def tG {α β : Type} (rel : Mp → Hp → α → β → Prop) (P : Pq) (W : WX) (se : St3 → Hh → Res α) : St → Hp → (β → Hp → Prop) → Prop := fun σV H Q =>
  ∃ m h σ, At K mg P m H σV σ h ∧ Out K mg rel W σV Q m H (se σ h)
abbrev tI (P : Pq) (W : WX) (se : SE) : TE := tG K mg (RT K mg) P W se
abbrev tTst (P : Pq) (W : WX) (se : ST) : TT := tG K mg (fun _ _ a b => a = b) P W se
abbrev tAr (P : Pq) (W : WX) (se : SA) : TA := tG K mg (RTs K mg) P W se
end
section
variable {K : PySem.W.Frag} {mg : Str → Option Value} {m m' : Mp} {H H' : Hp} {h : Hh} {P : Pq} {W : WX} {σV : St} {σ : St3}
theorem SR.ext (E : Ext m H m' H') (r : SR K mg m H σ σV) : SR K mg m' H' σ σV := ⟨r.1, fun i t e => by
  obtain ⟨v, q, z⟩ := r.2 i t e
  exact ⟨v, q, z.ext E⟩⟩
theorem At.ext (E : Ext m H m' H') (a : At K mg P m H σV σ h) {h' : Hh} (R : HR K mg m' h' H') : At K mg P m' H' σV σ h' := ⟨a.sr.ext E, R, P.st E a.pr⟩
theorem Out.ext {α β : Type} {rel : Mp → Hp → α → β → Prop} {Q : β → Hp → Prop} {r : Res α} (E : Ext m H m' H') (o : Out K mg rel W σV Q m H r) : Out K mg rel W σV Q m' H' r := by
  cases r with
  | ok a h' => exact fun b m2 H2 E2 => o b m2 H2 (E.trans E2)
  | exc c fs h' => exact fun cls d m2 H2 E2 => o cls d m2 H2 (E.trans E2)
  | stk => exact o
theorem Out.mono {α β : Type} {rel : Mp → Hp → α → β → Prop} {Q Q' : β → Hp → Prop} {r : Res α} (hq : ∀ b H, Q b H → Q' b H) (o : Out K mg rel W σV Q m H r) : Out K mg rel W σV Q' m H r := by
  cases r with
  | ok a h' => exact fun b m2 H2 E r R => hq _ _ (o b m2 H2 E r R)
  | exc c fs h' => exact o
  | stk => exact o
theorem Out.bind {α β γ δ : Type} {rel : Mp → Hp → γ → δ → Prop} {rel1 : Mp → Hp → α → β → Prop} {Q : δ → Hp → Prop} {r : Res α} {f : α → Hh → Res γ} (o : Out K mg rel W σV Q m H (r.bind f)) :
    Out K mg rel1 W σV (fun b H1 => ∃ m1 h1 a, Ext m H m1 H1 ∧ rel1 m1 H1 a b ∧ HR K mg m1 h1 H1 ∧ Out K mg rel W σV Q m1 H1 (f a h1)) m H r := by
  cases r with
  | ok a h' => exact fun b m1 H1 E q R => ⟨m1, h', a, E, q, R, o.ext E⟩
  | exc c fs h' => exact o
  | stk => exact o
theorem tG.mono {α β : Type} {rel : Mp → Hp → α → β → Prop} {se : St3 → Hh → Res α} {Q Q' : β → Hp → Prop} (hq : ∀ b H, Q b H → Q' b H) (t : tG K mg rel P W se σV H Q) : tG K mg rel P W se σV H Q' := by
  obtain ⟨m, h, σ, a, o⟩ := t
  exact ⟨m, h, σ, a, o.mono hq⟩
theorem At.first {α β γ δ : Type} {rel : Mp → Hp → γ → δ → Prop} {rel1 : Mp → Hp → α → β → Prop} {Q : δ → Hp → Prop} {se : St3 → Hh → Res α} {f : α → Hh → Res γ} {Q1 : β → Hp → Prop} (A : At K mg P m H σV σ h) (o : Out K mg rel W σV Q m H ((se σ h).bind f))
    (k : ∀ m1 h1 a b H1, Ext m H m1 H1 → rel1 m1 H1 a b → At K mg P m1 H1 σV σ h1 → Out K mg rel W σV Q m1 H1 (f a h1) → Q1 b H1) : tG K mg rel1 P W se σV H Q1 := by
  refine ⟨m, h, σ, A, (Out.bind (rel1 := rel1) o).mono fun b H1 ⟨m1, h1, a, E, r, R, o1⟩ => k m1 h1 a b H1 E r (A.ext E R) o1⟩
theorem PE.imp {X : Cx} {e : Expr} {t t' : TE} (h : PE X e t) (k : ∀ σ H Q, t' σ H Q → t σ H Q) : PE X e t' := ⟨fun pins s σ H Q I hw => h.run pins s σ H Q I (k _ _ _ hw)⟩
theorem PT.imp {X : Cx} {e : Expr} {t t' : TT} (h : PT X e t) (k : ∀ σ H Q, t' σ H Q → t σ H Q) : PT X e t' := ⟨fun pins s σ H Q I hw => h.run pins s σ H Q I (k _ _ _ hw)⟩
theorem PW.imp {X : Cx} {e : Expr} {t t' : TT} (h : PW X e t) (k : ∀ σ H Q, t' σ H Q → t σ H Q) : PW X e t' := ⟨fun wh pins s σ H Q I hw => h.run wh pins s σ H Q I (k _ _ _ hw)⟩
theorem PA.imp {X : Cx} {e : List Expr} {t t' : TA} (h : PA X e t) (k : ∀ σ H Q, t' σ H Q → t σ H Q) : PA X e t' := ⟨fun pos pins s σ H Q I hw => h.run pos pins s σ H Q I (k _ _ _ hw)⟩
theorem PS.imp {X : Cx} {e : Stmt} {t t' : TS} (h : PS X e t) (k : ∀ D σ H, t' D σ H → t D σ H) : PS X e t' := ⟨fun pins s σ H D I hw => h.run pins s σ H D I (k _ _ _ hw)⟩
theorem PSs.imp {X : Cx} {e : List Stmt} {t t' : TS} (h : PSs X e t) (k : ∀ D σ H, t' D σ H → t D σ H) : PSs X e t' := ⟨fun pins s σ H D I hw => h.run pins s σ H D I (k _ _ _ hw)⟩
end
end W3
end

section
namespace W3
open PySem PySem.Spec PyProof.Rows
open L2
abbrev QN (Q : VK) (H : Hp) (xs : List V) : Prop := ∀ p ob, H p = none → ob.dict = none → Q (.ref p) (upd H p (.frz ob (.tup xs)))
section
variable {X : Cx} {pins : List (Addr × Obj)} {σ : L2.St} {H : Hp} {s : Shared} {Q : VK}
theorem ep_tup (I : L2.Inv X pins σ H s) {its : List Value} {xs : List V} (r : Vals xs its) (hz : xs.length ≤ sizeLine) (q : QN Q H xs) :
    EP X pins σ Q (.ref s.heap.objs.size) { s with heap := s.heap.push { cls := .type "tuple", data := .seq its.toArray } } :=
  ⟨.ref s.heap.objs.size, _, I.laid (t' := s.toks) (o := .frz { cls := .type "tuple", data := .seq its.toArray } (.tup xs)) (fun _ _ w => Heap.get?_push_of_some _ w) (Nat.le_refl _) ⟨Heap.get?_push_size _ rfl, hz, its, r, IsTup.new _ _⟩, rfl, q _ _ (I.hok.fresh (Nat.le_refl _)) rfl⟩
end
section
variable {X : Cx} {es : List Expr} {t : TA} {pos : Pos}
def tTupN (t : TA) : TE := fun σ H Q => t σ H fun xs H1 => xs.length ≤ sizeLine ∧ QN Q H1 xs
theorem pe_tupN {k} (h : PA X es t) : PE X (.Tuple es k pos) (tTupN t) := ⟨fun pins s σ H Q I hq =>
  wpAny_Tuple_spliced (thn (h.run pos pins s σ H _ I hq) fun us s1 ⟨xs, H1, I1, r, z, q⟩ => ⟨r.length ▸ z, ep_tup I1 r z q⟩)⟩
theorem call_tupleN : CallR X (.type "tuple") (fun xs H Q => ∃ p ys, xs = [.ref p] ∧ ((SqL X.K H p ys ∧ QN Q H ys) ∨ (SqT X.K H p ys ∧ Q (.ref p) H))) := by
  intro pins s σ H xs us Q I r h
  obtain ⟨p, ys, rfl, h⟩ := h
  obtain ⟨u, rfl, rx⟩ := vals1 r
  cases rx
  rcases h with ⟨hq, q⟩ | ⟨hq, q⟩
  · obtain ⟨its, r2, pl, hz⟩ := I.list hq
    have ln := r2.length
    exact call_tuple_list pl.isList (fun h2 kp => ep_tup (I.kept (t' := s.toks) kp) r2 hz q) (by simp only [List.size_toArray]; omega)
  · obtain ⟨its, r2, pl, hz⟩ := I.tuple hq
    exact call_tuple_same pl ⟨.ref p, _, I, rfl, q⟩
theorem sl_tupN : SlR X (fun x lo hi H Q => ∃ a xs, x = .ref a ∧ SqT X.K H a xs ∧ (HT.sIx xs.length 0 lo = 0 ∧ HT.sIx xs.length xs.length hi = xs.length → Q (.ref a) H) ∧
    (¬ (HT.sIx xs.length 0 lo = 0 ∧ HT.sIx xs.length xs.length hi = xs.length) → QN Q H (cutV xs lo hi))) := by
  intro pins s σ H x v vl vu lo hi sl Q I rx hs pl pu h
  obtain ⟨a, xs, rfl, hx, q1, q2⟩ := h
  cases rx
  obtain ⟨its, r, ht, hz⟩ := I.tuple hx
  have ln : its.toArray.size = xs.length := by rw [List.size_toArray]; exact r.length.symm
  refine ⟨"tuple", _, PyProof.Rows.slot_tuple_getitem.lookup, ht.typeIs, ?_⟩
  by_cases hw : HT.sIx xs.length 0 lo = 0 ∧ HT.sIx xs.length xs.length hi = xs.length
  · exact getItem_tuple_whole ht hs pl pu (by rw [ln]; exact hw) ⟨.ref a, _, I, rfl, q1 hw⟩
  · refine HT.getItem_tuple_cut ht hs pl pu (by rw [ln]; exact hw) ?_ (by rw [ln]; exact hz)
    rw [ln]
    exact ep_tup I ((r.drop (HT.sIx xs.length 0 lo)).take (HT.sIx xs.length xs.length hi - HT.sIx xs.length 0 lo)) (Nat.le_trans (cutV_length xs lo hi) hz) (q2 hw)
theorem op_catN : OpR X (binaryOp .Add) (fun x y H Q => ∃ a b xs ys, x = .ref a ∧ y = .ref b ∧ SqT X.K H a xs ∧ SqT X.K H b ys ∧ xs.length + ys.length ≤ sizeLine ∧
    (xs = [] → Q (.ref b) H) ∧ (xs ≠ [] → ys = [] → Q (.ref a) H) ∧ (xs ≠ [] → ys ≠ [] → QN Q H (xs ++ ys))) := by
  intro pins s σ H x y v u Q I rx ry h
  obtain ⟨a, b, xs, ys, rfl, rfl, ha, hb, hz, q0, q1, q2⟩ := h
  cases rx
  cases ry
  obtain ⟨its, r1, p1, _⟩ := I.tuple ha
  obtain ⟨its2, r2, p2, _⟩ := I.tuple hb
  by_cases hx : xs = []
  · subst hx
    cases r1
    exact cat_tup0 p1 p2 ⟨.ref b, _, I, rfl, q0 rfl⟩
  · exact HT.cat_tup p1 p2 (fun z => hx (r1.nil_iff.mp z)) (fun z => ⟨.ref a, _, I, rfl, q1 hx (r2.nil_iff.mp z)⟩) (fun z => ep_tup I (r1.append r2) (by rw [List.length_append]; exact hz) (q2 hx fun w => z (r2.nil_iff.mpr w))) (by rw [← r1.length, ← r2.length]; exact hz)
theorem op_repN : OpR X (binaryOp .Mult) (fun x y H Q => ∃ l k xs, x = .ref l ∧ y = .int k ∧ SqT X.K H l xs ∧ xs ≠ [] ∧ 2 ≤ k ∧ k ≤ 1000 ∧ xs.length ≤ 1000 ∧ QN Q H (List.replicate k.toNat xs).flatten) := by
  intro pins s σ H x y v u Q I rx ry h
  obtain ⟨l, k, xs, rfl, rfl, hT, hne, h1, h2, hz, q⟩ := h
  cases rx
  obtain ⟨t, rfl⟩ := ry
  obtain ⟨its, r, ⟨⟨cls, dd, data, sl⟩, ho, hc, n, hd⟩, hs⟩ := I.tuple hT
  simp only at hc hd
  subst hc hd
  have ln : its.length = xs.length := r.length.symm
  have hi : its.toArray.isEmpty = false := by
    cases its with
    | nil => exact absurd (List.eq_nil_of_length_eq_zero ln.symm) hne
    | cons a b => rfl
  have ln2 : its.toArray.size = xs.length := by rw [List.size_toArray, ln]
  have bd : k.toNat * xs.length ≤ 1000 * 1000 := Nat.mul_le_mul (by omega) hz
  have hm : ((its.toArray.size : Nat) : Int) * k ≤ 1000000 := by
    rw [ln2]
    have a1 : ((xs.length : Nat) : Int) * k ≤ 1000 * k := Int.mul_le_mul_of_nonneg_right (by omega) (by omega)
    omega
  have fl : (List.replicate k.toNat its).flatten.length ≤ sizeLine := by
    rw [PyProof.Rows.lm_len_rep_flat, ln, sizeLine_eq]
    omega
  have d0 : (decide (k < -(2 ^ 63)) || decide (k ≥ 2 ^ 63)) = false := by
    rw [decide_eq_false (by omega), decide_eq_false (by omega)] <;> rfl
  have d1 : (its.toArray.isEmpty || k == 1) = false := by
    rw [hi, Bool.false_or]
    exact beq_eq_false_iff_ne.mpr (by omega)
  have d2 : (decide (k ≤ 0) || its.toArray.isEmpty) = false := by
    rw [hi, Bool.or_false]
    exact decide_eq_false (by omega)
  have d4 : Builtin.Tuple.tupleTooMany (((its.toArray.size : Nat) : Int) * k) = false := by
    unfold Builtin.Tuple.tupleTooMany
    rw [sizeLine_eq]
    exact decide_eq_false (by omega)
  have mw := tuple_mulW l its.toArray n dd sl k t d0 d1 d2 (by omega) d4 (by rw [size_rep, List.size_toArray]; exact fl)
  have ty : s.TypeIs (.ref l) "tuple" := ⟨_, ho, rfl⟩
  refine wpAny_binaryOp_repeat_ref (T := "tuple") (U := "int") (by decide) ty (fun s2 => typeIs_int s2 k t) noFill_tuple_mul F.fills_int_mul F.slot_int_rmul repeat_tuple F.slot_int_index.lookup ?_
  refine call_meets F.slot_int_rmul (typeIs_int s k t) F.entry_int_rmul (F.args_int_rmul_2 _ _) (int_rmul_tuple k t l its.toArray n dd sl) ⟨ho, rfl, ty, ?_⟩
  refine call_meets F.slot_tuple_mul ty F.entry_tuple_mul (F.args_tuple_mul_2 _ _) mw ⟨ho, ?_⟩
  rw [size_rep]
  exact ep_tup I (r.rep k.toNat) (by rw [PyProof.Rows.lm_len_rep_flat, sizeLine_eq]; omega) q
end
end W3
end

section
namespace W3
open PySem PySem.Spec PyProof.Rows
open L2
abbrev DE (X : Cx) (P : Pq) (W : WX) (e : Expr) (se : SE) : Prop := PE X e (tI X.K X.mg P W se)
abbrev DT (X : Cx) (P : Pq) (W : WX) (e : Expr) (se : ST) : Prop := PT X e (tTst X.K X.mg P W se)
abbrev DW (X : Cx) (P : Pq) (W : WX) (e : Expr) (se : ST) : Prop := PW X e (tTst X.K X.mg P W se)
abbrev DA (X : Cx) (P : Pq) (W : WX) (es : List Expr) (se : SA) : Prop := PA X es (tAr X.K X.mg P W se)
def OutP (K : PySem.W.Frag) (mg : Str → Option Value) (Q : VK) (m : Mp) (H : Hp) : Res T → Prop
  | .ok t h' => ∀ v m' H', Ext m H m' H' → RT K mg m' H' t v → HR K mg m' h' H' → Q v H'
  | _ => False
def NoX2 (f : T → T → Hh → Res T) : Prop := ∀ x y h c fs h', f x y h ≠ .exc c fs h'
def NoX1 (f : T → Hh → Res T) : Prop := ∀ x h c fs h', f x h ≠ .exc c fs h'
def NoXL (f : List T → Hh → Res T) : Prop := ∀ x h c fs h', f x h ≠ .exc c fs h'
def NoXM (f : T → List T → Hh → Res T) : Prop := ∀ x y h c fs h', f x y h ≠ .exc c fs h'
theorem Out.outP {K : PySem.W.Frag} {mg : Str → Option Value} {W : WX} {σV : L2.St} {Q : VK} {m : Mp} {H : Hp} {r : Res T} (o : Out K mg (RT K mg) W σV Q m H r) (n : ∀ c fs h', r ≠ .exc c fs h') : OutP K mg Q m H r := by
  cases r with
  | ok t h' => exact o
  | exc c fs h' => exact absurd rfl (n c fs h')
  | stk => exact o
def rP2 (K : PySem.W.Frag) (mg : Str → Option Value) (f : T → T → Hh → Res T) : R2 := fun x y H Q => ∃ m h tx ty, RT K mg m H tx x ∧ RT K mg m H ty y ∧ HR K mg m h H ∧ OutP K mg Q m H (f tx ty h)
def rP1 (K : PySem.W.Frag) (mg : Str → Option Value) (f : T → Hh → Res T) : V → Hp → VK → Prop := fun x H Q => ∃ m h tx, RT K mg m H tx x ∧ HR K mg m h H ∧ OutP K mg Q m H (f tx h)
def rPL (K : PySem.W.Frag) (mg : Str → Option Value) (f : List T → Hh → Res T) : List V → Hp → VK → Prop := fun xs H Q => ∃ m h ts, RTs K mg m H ts xs ∧ HR K mg m h H ∧ OutP K mg Q m H (f ts h)
def rPM (K : PySem.W.Frag) (mg : Str → Option Value) (f : T → List T → Hh → Res T) : V → List V → Hp → VK → Prop := fun x xs H Q => ∃ m h t ts, RT K mg m H t x ∧ RTs K mg m H ts xs ∧ HR K mg m h H ∧ OutP K mg Q m H (f t ts h)
section
variable {X : Cx} {P : Pq} {W : WX} {a b c : Expr} {sa sb sc : SE} {pos : Pos}
theorem de_var {i : Nat} {x : Str} (hN : X.N[i]? = some x) (hv : Vis X.env.scope x) (hd : (x == ("__debug__" : Str)) = false := by decide) (hcd : (x == ("__classdict__" : Str)) = false := by decide) : DE X P W (.Name x pos) (sVar i) :=
  PE.imp (pe_var hN hv hd hcd) fun σV H Q ⟨m, h, σ, A, o⟩ => by
    unfold sVar at o
    split at o
    · rename_i t e
      obtain ⟨v, ev, r⟩ := A.sr.2 i t e
      exact ⟨v, ev, o v m H (Ext.refl _ _) r A.hr⟩
    · exact False.elim o
theorem de_c {t : T} {v : V} (h : PE X a (tC v)) (r : ∀ m H, RT X.K X.mg m H t v) : DE X P W a (sC t) :=
  PE.imp h fun σV H Q ⟨m, h, σ, A, o⟩ => o v m H (Ext.refl _ _) (r _ _) A.hr
theorem de_int {i j} : DE X P W (.Constant (.int i) j pos) (sC (.int i)) := de_c pe_int fun _ _ => .int i
theorem de_bl {i j} : DE X P W (.Constant (.bool i) j pos) (sC (.bl i)) := de_c pe_bl fun _ _ => .bl i
theorem de_non {j} : DE X P W (.Constant .none j pos) (sC .non) := de_c pe_non fun _ _ => .non
theorem de_str {x : Str} {j} (h : PyData.strOk x = true := by decide +kernel) : DE X P W (.Constant (.str x) j pos) (sC (.str x)) := de_c pe_str fun _ _ => .str h
theorem de_glob {x : Str} {t : T} {v : V} {u : Value} (hg : Gl X x) (hm : X.mg x = some u) (r : RelV v u) (rt : ∀ m H, RT X.K X.mg m H t v) (hd : (x == ("__debug__" : Str)) = false := by decide) : DE X P W (.Name x pos) (sC t) :=
  de_c (pe_glob hg hm r hd) rt
theorem two {f : T → T → Hh → Res T} (hf : NoX2 f) {σV : L2.St} {H : Hp} {Q : VK} (h : tI X.K X.mg P W (s2 f sa sb) σV H Q) :
    tI X.K X.mg P W sa σV H fun x H1 => tI X.K X.mg P W sb σV H1 fun y H2 => rP2 X.K X.mg f x y H2 Q := by
  obtain ⟨m, h, σ, A, o⟩ := h
  refine A.first (rel1 := RT X.K X.mg) o fun m1 h1 t1 x H1 E1 r1 A1 o1 => ?_
  refine A1.first (rel1 := RT X.K X.mg) o1 fun m2 h2 t2 y H2 E2 r2 A2 o2 => ?_
  exact ⟨m2, h2, t1, t2, r1.ext E2, r2, A2.hr, o2.outP (hf t1 t2 h2)⟩
theorem one {f : T → Hh → Res T} (hf : NoX1 f) {σV : L2.St} {H : Hp} {Q : VK} (h : tI X.K X.mg P W (s1 f sa) σV H Q) :
    tI X.K X.mg P W sa σV H fun x H1 => rP1 X.K X.mg f x H1 Q := by
  obtain ⟨m, h, σ, A, o⟩ := h
  refine A.first (rel1 := RT X.K X.mg) o fun m1 h1 t1 x H1 E1 r1 A1 o1 => ?_
  exact ⟨m1, h1, t1, r1, A1.hr, o1.outP (hf t1 h1)⟩
theorem de_op {op : Operator} {f : T → T → Hh → Res T} (ho : OpR X (binaryOp op) (rP2 X.K X.mg f)) (hf : NoX2 f) (ha : DE X P W a sa) (hb : DE X P W b sb) : DE X P W (.BinOp a op b pos) (s2 f sa sb) :=
  PE.imp (pe_op ho ha hb) fun σV H Q h => two hf h
theorem de_cmp {op : CmpOp} {f : T → T → Hh → Res T} (ho : OpR X (compareOp op) (rP2 X.K X.mg f)) (hf : NoX2 f) (ha : DE X P W a sa) (hb : DE X P W b sb) (hm : behindInMarks op b = false) : DE X P W (.Compare a [op] [b] pos) (s2 f sa sb) :=
  PE.imp (pe_cmpR ho ha hb hm) fun σV H Q h => two hf h
theorem dt_cmp {op : CmpOp} {f : T → T → Hh → Res T} (ho : OpR X (compareOp op) (rP2 X.K X.mg f)) (hf : NoX2 f) (ha : DE X P W a sa) (hb : DE X P W b sb) (hm : behindInMarks op b = false) : DT X P W (.Compare a [op] [b] pos) (sT (s2 f sa sb)) :=
  PT.imp (pt_cmpR ho ha hb hm) fun σV H Q ⟨m, h, σ, A, o⟩ => by
    refine two hf (A.first (rel1 := RT X.K X.mg) o fun m1 h1 t x H1 E1 r A1 o1 => ?_)
    cases r with
    | bl k => exact ⟨k, rfl, o1 k m1 H1 (Ext.refl _ _) rfl A1.hr⟩
    | _ => exact False.elim o1
theorem nx_add : NoX2 oAdd := fun x y h c fs h' e => by
  unfold oAdd alloc at e
  (repeat' split at e) <;> cases e
theorem nx_mul : NoX2 oMul := fun x y h c fs h' e => by unfold oMul at e; (repeat' split at e) <;> cases e
theorem nx_mod : NoX2 oMod := fun x y h c fs h' e => by unfold oMod at e; (repeat' split at e) <;> cases e
theorem nx_div : NoX2 oDiv := fun x y h c fs h' e => by unfold oDiv at e; (repeat' split at e) <;> cases e
theorem nx_pow : NoX2 oPow := fun x y h c fs h' e => by unfold oPow at e; (repeat' split at e) <;> cases e
theorem nx_lt : NoX2 oLt := fun x y h c fs h' e => by unfold oLt at e; (repeat' split at e) <;> cases e
theorem nx_le : NoX2 oLe := fun x y h c fs h' e => by unfold oLe at e; (repeat' split at e) <;> cases e
theorem nx_gt : NoX2 oGt := fun x y h c fs h' e => by unfold oGt at e; (repeat' split at e) <;> cases e
theorem nx_eq : NoX2 oEq := fun x y h c fs h' e => by unfold oEq at e; (repeat' split at e) <;> cases e
theorem nx_ne : NoX2 oNe := fun x y h c fs h' e => by unfold oNe at e; (repeat' split at e) <;> cases e
theorem nx_in : NoX2 oIn := fun x y h c fs h' e => by unfold oIn at e; (repeat' split at e) <;> cases e
theorem nx_notin : NoX2 oNotIn := fun x y h c fs h' e => by unfold oNotIn at e; (repeat' split at e) <;> cases e
theorem nx_ix : NoX2 oIx := fun x y h c fs h' e => by unfold oIx at e; (repeat' split at e) <;> cases e
theorem os_int {sem : Value → Value → Sem Value} {C : Int → Int → Prop} {g : Int → Int → V} {gt : Int → Int → T} {f : T → T → Hh → Res T} (ho : OpR X sem (rI C g)) (hg : ∀ i j m H, RT X.K X.mg m H (gt i j) (g i j))
    (hf : ∀ x y h t h', f x y h = .ok t h' → ∃ i j, x = .int i ∧ y = .int j ∧ C i j ∧ t = gt i j ∧ h' = h) : OpR X sem (rP2 X.K X.mg f) := by
  intro pins s σ H x y v u Q I rx ry ⟨m, h, tx, ty, r1, r2, R, o⟩
  cases e : f tx ty h with
  | ok t h' =>
    rw [e] at o
    obtain ⟨i, j, rfl, rfl, hc, rfl, rfl⟩ := hf _ _ _ _ _ e
    cases r1
    cases r2
    exact ho pins s σ H _ _ v u Q I rx ry ⟨i, j, rfl, rfl, hc, o _ m H (Ext.refl _ _) (hg i j m H) R⟩
  | exc c fs h' => rw [e] at o; exact False.elim o
  | stk => rw [e] at o; exact False.elim o
theorem rI_of0 {sem : Value → Value → Sem Value} {g : Int → Int → V} (ho : OpR X sem (rI0 g)) : OpR X sem (rI (fun _ _ => True) g) := by
  intro pins s σ H x y v u Q I rx ry ⟨i, j, e1, e2, _, q⟩
  exact ho pins s σ H x y v u Q I rx ry ⟨i, j, e1, e2, q⟩
theorem os_mul : OpR X (binaryOp .Mult) (rP2 X.K X.mg oMul) := os_int (gt := fun i j => .int (i * j)) op_mul (fun _ _ _ _ => .int _) fun x y h t h' e => by
  unfold oMul at e; split at e
  · split at e
    · rename_i hc; cases e; exact ⟨_, _, rfl, rfl, hc, rfl, rfl⟩
    · cases e
  · cases e
theorem os_mod : OpR X (binaryOp .Mod) (rP2 X.K X.mg oMod) := os_int (gt := fun i j => .int (i % j)) op_mod (fun _ _ _ _ => .int _) fun x y h t h' e => by
  unfold oMod at e; split at e
  · split at e
    · rename_i hc; cases e; exact ⟨_, _, rfl, rfl, hc, rfl, rfl⟩
    · cases e
  · cases e
theorem os_div : OpR X (binaryOp .FloorDiv) (rP2 X.K X.mg oDiv) := os_int (gt := fun i j => .int (i / j)) op_fdiv (fun _ _ _ _ => .int _) fun x y h t h' e => by
  unfold oDiv at e; split at e
  · split at e
    · rename_i hc; cases e; exact ⟨_, _, rfl, rfl, hc, rfl, rfl⟩
    · cases e
  · cases e
theorem os_pow : OpR X (binaryOp .Pow) (rP2 X.K X.mg oPow) := os_int (gt := fun i j => .int (i ^ j.toNat)) op_pow (fun _ _ _ _ => .int _) fun x y h t h' e => by
  unfold oPow at e; split at e
  · split at e
    · rename_i hc; cases e; exact ⟨_, _, rfl, rfl, hc, rfl, rfl⟩
    · cases e
  · cases e
theorem os_lt : OpR X (compareOp .Lt) (rP2 X.K X.mg oLt) := os_int (gt := fun i j => .bl (decide (i < j))) (rI_of0 op_lt) (fun _ _ _ _ => .bl _) fun x y h t h' e => by
  unfold oLt at e; split at e
  · cases e; exact ⟨_, _, rfl, rfl, trivial, rfl, rfl⟩
  · cases e
theorem os_le : OpR X (compareOp .LtE) (rP2 X.K X.mg oLe) := os_int (gt := fun i j => .bl (decide (i ≤ j))) (rI_of0 op_le) (fun _ _ _ _ => .bl _) fun x y h t h' e => by
  unfold oLe at e; split at e
  · cases e; exact ⟨_, _, rfl, rfl, trivial, rfl, rfl⟩
  · cases e
theorem os_gt : OpR X (compareOp .Gt) (rP2 X.K X.mg oGt) := os_int (gt := fun i j => .bl (decide (j < i))) (rI_of0 op_gt) (fun _ _ _ _ => .bl _) fun x y h t h' e => by
  unfold oGt at e; split at e
  · cases e; exact ⟨_, _, rfl, rfl, trivial, rfl, rfl⟩
  · cases e
theorem OutP.newTup {K : PySem.W.Frag} {mg : Str → Option Value} {Q : VK} {m : Mp} {H : Hp} {h : Hh} {ts : List T} {vs : List V} (R : HR K mg m h H) (r : RTs K mg m H ts vs) (o : OutP K mg Q m H (.ok (.tup ts) h)) {p : Addr} {ob : Obj} (hp : H p = none) (hd : ob.dict = none) : Q (.ref p) (upd H p (.frz ob (.tup vs))) :=
  o _ m _ (Ext.garbage R hp) (.tup (.inl ⟨ob, upd_same, hd⟩) (r.ext (Ext.garbage R hp))) (R.garbage hp)
theorem OutP.newLst {K : PySem.W.Frag} {mg : Str → Option Value} {Q : VK} {m : Mp} {H : Hp} {h : Hh} {ts : List T} {vs : List V} (R : HR K mg m h H) (r : RTs K mg m H ts vs) (o : OutP K mg Q m H (alloc (.lst ts) h)) {p : Addr} (hp : H p = none) : Q (.ref p) (upd H p (.lst vs)) :=
  o _ _ _ (Ext.alloc R hp) (.ref Mp.put_same) (R.alloc hp ⟨vs, upd_same, r.ext (Ext.alloc R hp)⟩)
theorem strOk_append {x y : Str} (hx : PyData.strOk x = true) (hy : PyData.strOk y = true) : PyData.strOk (x ++ y) = true := by
  unfold PyData.strOk at *
  show (x.cps ++ y.cps).all _ = true
  rw [Array.all_append, hx, hy]; rfl
theorem os_add : OpR X (binaryOp .Add) (rP2 X.K X.mg oAdd) := by
  intro pins s σ H x y v u Q I rx ry ⟨m, h, tx, ty, r1, r2, R, o⟩
  cases r1 with
  | int i =>
    cases r2 with
    | int j => exact op_add pins s σ H _ _ v u Q I rx ry ⟨i, j, rfl, rfl, o _ m H (Ext.refl _ _) (.int _) R⟩
    | _ => exact False.elim o
  | str hi =>
    cases r2 with
    | str hj =>
      rename_i i j
      have o' : OutP X.K X.mg Q m H (if i.length + j.length ≤ sizeLine then .ok (.str (i ++ j)) h else .stk) := o
      split at o'
      · rename_i hz; exact op_add_str pins s σ H _ _ v u Q I rx ry ⟨_, _, rfl, rfl, hz, o' _ m H (Ext.refl _ _) (.str (strOk_append hi hj)) R⟩
      · exact False.elim o'
    | _ => exact False.elim o
  | tup ha r =>
    cases r2 with
    | tup hb q =>
      rename_i a vs xs b ws ys
      have o' : OutP X.K X.mg Q m H (if xs.length + ys.length ≤ sizeLine then .ok (.tup (xs ++ ys)) h else .stk) := o
      split at o'
      · rename_i hz
        rw [r.length, q.length] at hz
        refine op_catN pins s σ H _ _ v u Q I rx ry ⟨_, _, _, _, rfl, rfl, ha, hb, hz, fun e => ?_, fun e1 e2 => ?_, fun e1 e2 p ob hp hd => ?_⟩
        · subst e; cases r; exact o' _ m H (Ext.refl _ _) (.tup hb q) R
        · subst e2; cases q; rw [List.append_nil] at o'; exact o' _ m H (Ext.refl _ _) (.tup ha r) R
        · exact OutP.newTup R (r.append q) o' hp hd
      · exact False.elim o'
    | _ => exact False.elim o
  | ref e1 =>
    cases r2 with
    | ref e2 =>
      rename_i l a k b
      have o' : OutP X.K X.mg Q m H (match lstAt h l, lstAt h k with
        | some xs, some zs => if xs.length + zs.length ≤ sizeLine then alloc (.lst (xs ++ zs)) h else .stk
        | _, _ => .stk) := o
      split at o'
      · rename_i xs zs q1 q2
        split at o'
        · rename_i hz
          obtain ⟨vs, g1, r1⟩ := R.lst e1 q1
          obtain ⟨ws, g2, r2⟩ := R.lst e2 q2
          rw [r1.length, r2.length] at hz
          exact op_cat pins s σ H _ _ v u Q I rx ry ⟨_, _, _, _, rfl, rfl, g1, g2, hz, fun p hp => OutP.newLst R (r1.append r2) o' hp⟩
        · exact False.elim o'
      · exact False.elim o'
    | _ => exact False.elim o
  | _ => exact False.elim o
end
end W3
end

section
namespace W3
open PySem PySem.Spec PyProof.Rows
open L2
section
variable {K : PySem.W.Frag} {mg : Str → Option Value} {m : Mp} {H : Hp} {h : Hh}
theorem optL_dp {n : Nat} {f : T → Option PyData} (hf : ∀ t v d, RT K mg m H t v → f t = some d → Dp K H v d ∧ d.canLay0 = true ∧ d.depth ≤ n) :
    ∀ {ts : List T} {vs : List V} {ds : List PyData}, RTs K mg m H ts vs → optL f ts = some ds → DpAll K H vs ds ∧ PyData.canLayAll0 ds = true ∧ PyData.depthAll ds ≤ n
  | _, _, _, .nil, e => by cases e; exact ⟨.nil, by simp [PyData.canLayAll0], by simp [PyData.depthAll]⟩
  | _, _, _, .cons (t := t) (ts := ts) r q, e => by
    unfold optL at e
    cases h1 : f t with
    | none => rw [h1] at e; simp at e
    | some d =>
      cases h2 : optL f ts with
      | none => rw [h1, h2] at e; simp at e
      | some ds =>
        rw [h1, h2] at e
        cases e
        obtain ⟨a1, a2, a3⟩ := hf _ _ _ r h1
        obtain ⟨b1, b2, b3⟩ := optL_dp hf q h2
        refine ⟨.cons a1 b1, by simp [PyData.canLayAll0, a2, b2], ?_⟩
        simp only [PyData.depthAll]
        omega
theorem toD_dp (R : HR K mg m h H) : ∀ (n : Nat) (t : T) (v : V) (d : PyData), RT K mg m H t v → toD h n t = some d → Dp K H v d ∧ d.canLay0 = true ∧ d.depth ≤ n
  | 0, _, _, _, _, e => by simp [toD] at e
  | n + 1, _, _, d, r, e => by
    have ih := toD_dp R n
    cases r with
    | non => cases e; exact ⟨.non, by simp [PyData.canLay0], by simp [PyData.depth]⟩
    | bl b => cases e; exact ⟨.bl b, by simp [PyData.canLay0], by simp [PyData.depth]⟩
    | int b => cases e; exact ⟨.int b, by simp [PyData.canLay0], by simp [PyData.depth]⟩
    | str b => cases e; exact ⟨.str _, by simpa [PyData.canLay0] using b, by simp [PyData.depth]⟩
    | @tup a vs ts hq rr =>
      have e' : (optL (toD h n) ts).map PyData.tuple = some d := e
      cases q : optL (toD h n) ts with
      | none => rw [q] at e'; cases e'
      | some ds =>
        rw [q] at e'; cases e'
        obtain ⟨b1, b2, b3⟩ := optL_dp ih rr q
        exact ⟨.tup hq b1, by simpa [PyData.canLay0] using b2, by simp only [PyData.depth]; omega⟩
    | @fl a vs ts hq rr =>
      have e' : (optL (toD h n) ts).map PyData.list = some d := e
      cases q : optL (toD h n) ts with
      | none => rw [q] at e'; cases e'
      | some ds =>
        rw [q] at e'; cases e'
        obtain ⟨b1, b2, b3⟩ := optL_dp ih rr q
        exact ⟨.lst hq.sq b1, by simpa [PyData.canLay0] using b2, by simp only [PyData.depth]; omega⟩
    | @ref l a hq =>
      have e' : (match h[l]? with | some (.lst ts) => (optL (toD h n) ts).map PyData.list | _ => none) = some d := e
      split at e'
      · rename_i ts hl
        obtain ⟨vs, g, rr⟩ := R.lst hq (show lstAt h l = some ts by unfold lstAt; rw [hl])
        cases q : optL (toD h n) ts with
        | none => rw [q] at e'; cases e'
        | some ds =>
          rw [q] at e'; cases e'
          obtain ⟨b1, b2, b3⟩ := optL_dp ih rr q
          exact ⟨.lst (SqL.of g) b1, by simpa [PyData.canLay0] using b2, by simp only [PyData.depth]; omega⟩
      · cases e'
    | cls hq => cases e
theorem toD_shaped (R : HR K mg m h H) {t : T} {v : V} {d : PyData} (r : RT K mg m H t v) (e : toD h 24 t = some d) : Dp K H v d ∧ SeqAt.shaped d = true := by
  obtain ⟨a, b, c⟩ := toD_dp R 24 t v d r e
  refine ⟨a, ?_⟩
  unfold SeqAt.shaped
  rw [b, decide_eq_true (by omega : d.depth ≤ 64)]
  rfl
end
section
variable {X : Cx} {P : Pq} {W : WX} {a b c : Expr} {sa sb sc : SE} {pos : Pos} {es : List Expr} {ar : SA} {ta tb : ST} {rest : List Expr}
theorem os_eq (hu : X.A.units + 65 < cLine) : OpR X (compareOp .Eq) (rP2 X.K X.mg oEq) := by
  intro pins s σ H x y v u Q I rx ry ⟨m, h, tx, ty, r1, r2, R, o⟩
  unfold oEq at o
  split at o
  · rename_i d e q1 q2
    obtain ⟨d1, s1⟩ := toD_shaped R r1 q1
    obtain ⟨d2, s2⟩ := toD_shaped R r2 q2
    exact op_eqD (by omega) pins s σ H x y v u Q I rx ry ⟨d, e, d1, d2, s1, s2, o _ m H (Ext.refl _ _) (.bl _) R⟩
  · exact False.elim o
theorem os_ne (hu : X.A.units + 65 < cLine) : OpR X (compareOp .NotEq) (rP2 X.K X.mg oNe) := by
  intro pins s σ H x y v u Q I rx ry ⟨m, h, tx, ty, r1, r2, R, o⟩
  unfold oNe at o
  split at o
  · rename_i d e q1 q2
    obtain ⟨d1, s1⟩ := toD_shaped R r1 q1
    obtain ⟨d2, s2⟩ := toD_shaped R r2 q2
    exact op_neD (by omega) pins s σ H x y v u Q I rx ry ⟨d, e, d1, d2, s1, s2, o _ m H (Ext.refl _ _) (.bl _) R⟩
  · exact False.elim o
theorem in_run (hu : X.A.units + 65 < cLine) {pins : List (Addr × Obj)} {s : Shared} {σ : L2.St} {H : Hp} {x y : V} {v u : Value} {m : Mp} {h : Hh} {tx ty : T} {k : Bool} (I : L2.Inv X pins σ H s) (rx : RelV x v) (ry : RelV y u) (r1 : RT X.K X.mg m H tx x)
    (r2 : RT X.K X.mg m H ty y) (R : HR X.K X.mg m h H) (e : inT tx ty h = some k) {Q : Value → Shared → Prop} (q : Q (.bool k) s) : wpAny (model X.prog X.w) X.A (compareOp .In v u) Q X.xe s := by
  have deep : (match toD h 24 tx, toD h 24 ty with
    | some d, some (.list ds) => some (ds.any fun z => PyData.eqv z d)
    | some d, some (.tuple ds) => some (ds.any fun z => PyData.eqv z d)
    | _, _ => none) = some k → wpAny (model X.prog X.w) X.A (compareOp .In v u) Q X.xe s := by
    intro e
    split at e
    · rename_i d ds q1 q2
      cases e
      obtain ⟨d1, s1⟩ := toD_shaped R r1 q1
      obtain ⟨d2, s2⟩ := toD_shaped R r2 q2
      obtain ⟨as, p1⟩ := Dp.reads I d x v d1 rx
      obtain ⟨bs, p2⟩ := Dp.reads I (.list ds) y u d2 ry
      exact SeqAt.in_list_reads p2 p1 (SeqAt.canLay_of_shaped s2) (SeqAt.canLay_of_shaped s1) (room_in_shaped s1 hu) q
    · rename_i d ds q1 q2
      cases e
      obtain ⟨d1, s1⟩ := toD_shaped R r1 q1
      obtain ⟨d2, s2⟩ := toD_shaped R r2 q2
      obtain ⟨as, p1⟩ := Dp.reads I d x v d1 rx
      obtain ⟨bs, p2⟩ := Dp.reads I (.tuple ds) y u d2 ry
      exact SeqAt.in_tuple_reads p2 p1 (SeqAt.canLay_of_shaped s2) (SeqAt.canLay_of_shaped s1) (room_in_shaped s1 hu) q
    · cases e
  cases r1 with
  | str h1 =>
    cases r2 with
    | str h2 =>
      cases e
      obtain ⟨t, rfl⟩ := rx
      obtain ⟨t', rfl⟩ := ry
      exact in_str q
    | _ => exact deep e
  | _ => exact deep e
theorem os_in (hu : X.A.units + 65 < cLine) : OpR X (compareOp .In) (rP2 X.K X.mg oIn) := by
  intro pins s σ H x y v u Q I rx ry ⟨m, h, tx, ty, r1, r2, R, o⟩
  unfold oIn at o
  split at o
  · rename_i k q
    exact in_run hu I rx ry r1 r2 R q ⟨.bl k, H, I, rfl, o _ m H (Ext.refl _ _) (.bl _) R⟩
  · exact False.elim o
theorem notin_run (hu : X.A.units + 65 < cLine) {pins : List (Addr × Obj)} {s : Shared} {σ : L2.St} {H : Hp} {x y : V} {v u : Value} {m : Mp} {h : Hh} {tx ty : T} {k : Bool} (I : L2.Inv X pins σ H s) (rx : RelV x v) (ry : RelV y u) (r1 : RT X.K X.mg m H tx x)
    (r2 : RT X.K X.mg m H ty y) (R : HR X.K X.mg m h H) (e : inT tx ty h = some k) {Q : Value → Shared → Prop} (q : Q (.bool (!k)) s) : wpAny (model X.prog X.w) X.A (compareOp .NotIn v u) Q X.xe s := by
  have deep : (match toD h 24 tx, toD h 24 ty with
    | some d, some (.list ds) => some (ds.any fun z => PyData.eqv z d)
    | some d, some (.tuple ds) => some (ds.any fun z => PyData.eqv z d)
    | _, _ => none) = some k → wpAny (model X.prog X.w) X.A (compareOp .NotIn v u) Q X.xe s := by
    intro e
    split at e
    · rename_i d ds q1 q2
      cases e
      obtain ⟨d1, s1⟩ := toD_shaped R r1 q1
      obtain ⟨d2, s2⟩ := toD_shaped R r2 q2
      obtain ⟨as, p1⟩ := Dp.reads I d x v d1 rx
      obtain ⟨bs, p2⟩ := Dp.reads I (.list ds) y u d2 ry
      exact SeqAt.notIn_list_reads p2 p1 (SeqAt.canLay_of_shaped s2) (SeqAt.canLay_of_shaped s1) (room_in_shaped s1 hu) q
    · rename_i d ds q1 q2
      cases e
      obtain ⟨d1, s1⟩ := toD_shaped R r1 q1
      obtain ⟨d2, s2⟩ := toD_shaped R r2 q2
      obtain ⟨as, p1⟩ := Dp.reads I d x v d1 rx
      obtain ⟨bs, p2⟩ := Dp.reads I (.tuple ds) y u d2 ry
      exact SeqAt.notIn_tuple_reads p2 p1 (SeqAt.canLay_of_shaped s2) (SeqAt.canLay_of_shaped s1) (room_in_shaped s1 hu) q
    · cases e
  cases r1 with
  | str h1 =>
    cases r2 with
    | str h2 =>
      cases e
      obtain ⟨t, rfl⟩ := rx
      obtain ⟨t', rfl⟩ := ry
      exact notIn_str q
    | _ => exact deep e
  | _ => exact deep e
theorem os_notin (hu : X.A.units + 65 < cLine) : OpR X (compareOp .NotIn) (rP2 X.K X.mg oNotIn) := by
  intro pins s σ H x y v u Q I rx ry ⟨m, h, tx, ty, r1, r2, R, o⟩
  unfold oNotIn at o
  split at o
  · rename_i k q
    exact notin_run hu I rx ry r1 r2 R q ⟨.bl (!k), H, I, rfl, o _ m H (Ext.refl _ _) (.bl _) R⟩
  · exact False.elim o
theorem nx_is : NoX2 oIs := fun x y h c fs h' e => by unfold oIs at e; (repeat' split at e) <;> cases e
theorem nx_isnot : NoX2 oIsNot := fun x y h c fs h' e => by unfold oIsNot at e; (repeat' split at e) <;> cases e
theorem isNon_iff {m : Mp} {H : Hp} {t : T} {v : V} (r : RT X.K X.mg m H t v) : decide (v = .non) = isNonT t := by
  cases r <;> first | rfl | simp [isNonT]
theorem os_is : OpR X (compareOp .Is) (rP2 X.K X.mg oIs) := by
  intro pins s σ H x y v u Q I rx ry ⟨m, h, tx, ty, r1, r2, R, o⟩
  cases r2 with
  | non =>
    have o' : OutP X.K X.mg Q m H (.ok (.bl (isNonT tx)) h) := o
    refine op_isN pins s σ H x _ v u Q I rx ry ⟨rfl, ?_⟩
    rw [isNon_iff r1]
    exact o' _ m H (Ext.refl _ _) (.bl _) R
  | bl k =>
    cases r1 with
    | bl j => exact op_isBl pins s σ H _ _ v u Q I rx ry ⟨j, k, rfl, rfl, o _ m H (Ext.refl _ _) (.bl _) R⟩
    | _ => exact False.elim o
  | _ => exact False.elim o
theorem os_isnot : OpR X (compareOp .IsNot) (rP2 X.K X.mg oIsNot) := by
  intro pins s σ H x y v u Q I rx ry ⟨m, h, tx, ty, r1, r2, R, o⟩
  cases r2 with
  | non =>
    have o' : OutP X.K X.mg Q m H (.ok (.bl (!isNonT tx)) h) := o
    refine op_notN pins s σ H x _ v u Q I rx ry ⟨rfl, ?_⟩
    rw [isNon_iff r1]
    exact o' _ m H (Ext.refl _ _) (.bl _) R
  | bl k =>
    cases r1 with
    | bl j => exact op_notBl pins s σ H _ _ v u Q I rx ry ⟨j, k, rfl, rfl, o _ m H (Ext.refl _ _) (.bl _) R⟩
    | _ => exact False.elim o
  | _ => exact False.elim o
theorem dt_val (ha : DE X P W a sa) (he : ∀ whole, isTrue a X.env whole = (do let v ← whole; standAt a.pos; holding [v] (truthy v)) := by intro _; rfl) : DT X P W a (sT sa) :=
  PT.imp (pt_val ha he) fun σV H Q ⟨m, h, σ, A, o⟩ => by
    refine A.first (rel1 := RT X.K X.mg) o fun m1 h1 t x H1 E1 r A1 o1 => ?_
    cases r with
    | bl k => exact ⟨k, rfl, o1 k m1 H1 (Ext.refl _ _) rfl A1.hr⟩
    | _ => exact False.elim o1
theorem tt_and {σV : L2.St} {H : Hp} {Q : Bool → Hp → Prop} (h : tTst X.K X.mg P W (stAnd ta tb) σV H Q) : tAnd (tTst X.K X.mg P W ta) (tTst X.K X.mg P W tb) σV H Q := by
  obtain ⟨m, h, σ, A, o⟩ := h
  refine A.first (rel1 := fun _ _ a b => a = b) o fun m1 h1 t x H1 E1 r A1 o1 => ?_
  subst r
  cases t with
  | true => rw [if_pos rfl]; rw [if_pos rfl] at o1; exact ⟨m1, h1, σ, A1, o1⟩
  | false => rw [if_neg Bool.false_ne_true]; rw [if_neg Bool.false_ne_true] at o1; exact o1 _ m1 H1 (Ext.refl _ _) rfl A1.hr
theorem tt_or {σV : L2.St} {H : Hp} {Q : Bool → Hp → Prop} (h : tTst X.K X.mg P W (stOr ta tb) σV H Q) : tOr (tTst X.K X.mg P W ta) (tTst X.K X.mg P W tb) σV H Q := by
  obtain ⟨m, h, σ, A, o⟩ := h
  refine A.first (rel1 := fun _ _ a b => a = b) o fun m1 h1 t x H1 E1 r A1 o1 => ?_
  subst r
  cases t with
  | true => rw [if_pos rfl]; rw [if_pos rfl] at o1; exact o1 _ m1 H1 (Ext.refl _ _) rfl A1.hr
  | false => rw [if_neg Bool.false_ne_true]; rw [if_neg Bool.false_ne_true] at o1; exact ⟨m1, h1, σ, A1, o1⟩
theorem dw_and1 (ha : DT X P W a ta) : DW X P W (.BoolOp .And [a] pos) ta := pw_and1 ha
theorem dw_or1 (ha : DT X P W a ta) : DW X P W (.BoolOp .Or [a] pos) ta := pw_or1 ha
theorem dw_and (ha : DT X P W a ta) (hb : DW X P W (.BoolOp .And (b :: rest) pos) tb) : DW X P W (.BoolOp .And (a :: b :: rest) pos) (stAnd ta tb) := PW.imp (pw_and ha hb) fun _ _ _ h => tt_and h
theorem dw_or (ha : DT X P W a ta) (hb : DW X P W (.BoolOp .Or (b :: rest) pos) tb) : DW X P W (.BoolOp .Or (a :: b :: rest) pos) (stOr ta tb) := PW.imp (pw_or ha hb) fun _ _ _ h => tt_or h
theorem dt_w {e : Expr} (h : DW X P W e ta) : DT X P W e ta := h.pt
theorem dt_not (ha : DT X P W a ta) : DT X P W (.UnaryOp .Not a pos) (stNot ta) := PT.imp (pt_not ha) fun σV H Q ⟨m, h, σ, A, o⟩ => by
  refine A.first (rel1 := fun _ _ a b => a = b) o fun m1 h1 t x H1 E1 r A1 o1 => ?_
  subst r
  exact o1 _ m1 H1 (Ext.refl _ _) rfl A1.hr
theorem de_and1 (ha : DE X P W a sa) : DE X P W (.BoolOp .And [a] pos) sa := pe_one ha
theorem de_or1 (ha : DE X P W a sa) : DE X P W (.BoolOp .Or [a] pos) sa := pe_one ha
theorem de_and (ha : DE X P W a sa) (hb : DE X P W (.BoolOp .And (b :: rest) pos) sb) : DE X P W (.BoolOp .And (a :: b :: rest) pos) (sIf (sT sa) sb (sC (.bl false))) :=
  PE.imp (pe_and ha hb) fun σV H Q ⟨m, h, σ, A, o⟩ => by
    have o' : Out X.K X.mg (RT X.K X.mg) W σV Q m H ((sa σ h).bind fun t h1 => match t with | .bl k => (if k = true then sb σ h1 else .ok (.bl false) h1) | _ => .stk) := by
      have e : sIf (sT sa) sb (sC (.bl false)) σ h = ((sa σ h).bind fun t h1 => match t with | .bl k => (if k = true then sb σ h1 else .ok (.bl false) h1) | _ => .stk) := by
        unfold sIf sT sC
        cases sa σ h with
        | ok t h1 => cases t <;> rfl
        | exc c fs h1 => rfl
        | stk => rfl
      rw [e] at o; exact o
    refine A.first (rel1 := RT X.K X.mg) o' fun m1 h1 t x H1 E1 r A1 o1 => ?_
    cases r with
    | bl k =>
      refine ⟨k, rfl, ?_⟩
      cases k with
      | true => exact ⟨m1, h1, σ, A1, o1⟩
      | false => exact o1 _ m1 H1 (Ext.refl _ _) (.bl _) A1.hr
    | _ => exact False.elim o1
theorem de_or (ha : DE X P W a sa) (hb : DE X P W (.BoolOp .Or (b :: rest) pos) sb) : DE X P W (.BoolOp .Or (a :: b :: rest) pos) (sIf (sT sa) (sC (.bl true)) sb) :=
  PE.imp (pe_or ha hb) fun σV H Q ⟨m, h, σ, A, o⟩ => by
    have o' : Out X.K X.mg (RT X.K X.mg) W σV Q m H ((sa σ h).bind fun t h1 => match t with | .bl k => (if k = true then .ok (.bl true) h1 else sb σ h1) | _ => .stk) := by
      have e : sIf (sT sa) (sC (.bl true)) sb σ h = ((sa σ h).bind fun t h1 => match t with | .bl k => (if k = true then .ok (.bl true) h1 else sb σ h1) | _ => .stk) := by
        unfold sIf sT sC
        cases sa σ h with
        | ok t h1 => cases t <;> rfl
        | exc c fs h1 => rfl
        | stk => rfl
      rw [e] at o; exact o
    refine A.first (rel1 := RT X.K X.mg) o' fun m1 h1 t x H1 E1 r A1 o1 => ?_
    cases r with
    | bl k =>
      refine ⟨k, rfl, ?_⟩
      cases k with
      | true => exact o1 _ m1 H1 (Ext.refl _ _) (.bl _) A1.hr
      | false => exact ⟨m1, h1, σ, A1, o1⟩
    | _ => exact False.elim o1
theorem de_not (ha : DE X P W a sa) : DE X P W (.UnaryOp .Not a pos) (sB (stNot (sT sa))) :=
  PE.imp (pe_not ha) fun σV H Q ⟨m, h, σ, A, o⟩ => by
    have o' : Out X.K X.mg (RT X.K X.mg) W σV Q m H ((sa σ h).bind fun t h1 => match t with | .bl k => .ok (.bl (!k)) h1 | _ => .stk) := by
      have e : sB (stNot (sT sa)) σ h = ((sa σ h).bind fun t h1 => match t with | .bl k => .ok (.bl (!k)) h1 | _ => .stk) := by
        unfold sB stNot sT
        cases sa σ h with
        | ok t h1 => cases t <;> rfl
        | exc c fs h1 => rfl
        | stk => rfl
      rw [e] at o; exact o
    refine A.first (rel1 := RT X.K X.mg) o' fun m1 h1 t x H1 E1 r A1 o1 => ?_
    cases r with
    | bl k => exact ⟨k, rfl, o1 _ m1 H1 (Ext.refl _ _) (.bl _) A1.hr⟩
    | _ => exact False.elim o1
theorem chain {f g : T → T → Hh → Res T} (hf : NoX2 f) (hg : NoX2 g) {σV : L2.St} {H : Hp} {Q : VK} (h : tI X.K X.mg P W (sChain f g sa sb sc) σV H Q) :
    tChain (rP2 X.K X.mg f) (rP2 X.K X.mg g) (tI X.K X.mg P W sa) (tI X.K X.mg P W sb) (tI X.K X.mg P W sc) σV H Q := by
  obtain ⟨m, h, σ, A, o⟩ := h
  refine A.first (rel1 := RT X.K X.mg) o fun m1 h1 t1 x H1 E1 r1 A1 o1 => ?_
  refine A1.first (rel1 := RT X.K X.mg) o1 fun m2 h2 t2 y H2 E2 r2 A2 o2 => ?_
  refine ⟨m2, h2, t1, t2, r1.ext E2, r2, A2.hr, ?_⟩
  have o3 := (Out.bind (rel1 := RT X.K X.mg) o2).outP (hf t1 t2 h2)
  cases e : f t1 t2 h2 with
  | exc c fs h' => exact absurd e (hf _ _ _ _ _ _)
  | stk => rw [e] at o3; exact False.elim o3
  | ok z h3 =>
    rw [e] at o3
    intro v m3 H3 E3 rv R3
    obtain ⟨m4, h4, z', E4, rz, R4, o4⟩ := o3 v m3 H3 E3 rv R3
    cases rz with
    | bl k =>
      refine ⟨k, rfl, ?_⟩
      have A4 := A2.ext E4 R4
      cases k with
      | true =>
        refine A4.first (rel1 := RT X.K X.mg) o4 fun m5 h5 t5 w H5 E5 r5 A5 o5 => ?_
        exact ⟨m5, h5, t2, t5, (r2.ext E4).ext E5, r5, A5.hr, o5.outP (hg _ _ _)⟩
      | false => exact o4 _ m4 H3 (Ext.refl _ _) (.bl _) R4
    | _ => exact False.elim o4
theorem da_nil : DA X P W [] saNil := PA.imp pa_nil fun σV H Q ⟨m, h, σ, A, o⟩ => o [] m H (Ext.refl _ _) .nil A.hr
theorem da_cons (ha : DE X P W a sa) (hr : DA X P W es ar) (hs : starEach (a :: es) X.env = (false, eval a X.env) :: starEach es X.env := by rfl) : DA X P W (a :: es) (saCons sa ar) :=
  PA.imp (pa_cons ha hr hs) fun σV H Q ⟨m, h, σ, A, o⟩ => by
    refine A.first (rel1 := RT X.K X.mg) o fun m1 h1 t1 x H1 E1 r1 A1 o1 => ?_
    refine A1.first (rel1 := RTs X.K X.mg) o1 fun m2 h2 t2 y H2 E2 r2 A2 o2 => ?_
    exact o2 _ m2 H2 (Ext.refl _ _) (.cons (r1.ext E2) r2) A2.hr
theorem de_tup {x1} (h : DA X P W es ar) : DE X P W (.Tuple es x1 pos) (sTup ar) := PE.imp (pe_tupN h) fun σV H Q ⟨m, h, σ, A, o⟩ => by
  refine A.first (rel1 := RTs X.K X.mg) o fun m1 h1 t1 x H1 E1 r1 A1 o1 => ?_
  split at o1
  · rename_i hz
    refine ⟨by rw [← r1.length]; exact hz, fun p ob hp hd => ?_⟩
    exact OutP.newTup A1.hr r1 (o1.outP (fun _ _ _ z => by cases z)) hp hd
  · exact False.elim o1
theorem de_lst (h : DA X P W es ar) : DE X P W (.List es pos) (sLst ar) := PE.imp (pe_lst h) fun σV H Q ⟨m, h, σ, A, o⟩ => by
  refine A.first (rel1 := RTs X.K X.mg) o fun m1 h1 t1 x H1 E1 r1 A1 o1 => ?_
  split at o1
  · rename_i hz
    refine ⟨by rw [← r1.length]; exact hz, fun p hp => ?_⟩
    exact OutP.newLst A1.hr r1 (o1.outP (fun _ _ _ z => by cases z)) hp
  · exact False.elim o1
end
end W3
end

section
namespace W3
open PySem PySem.Spec PyProof.Rows
open L2
section
variable {X : Cx} {P : Pq} {W : WX} {a b c : Expr} {sa sb sc : SE} {pos p2 : Pos} {es : List Expr} {ar : SA} {ta tb : ST} {rest : List Expr}
theorem dt_chain {op op' : CmpOp} {f g : T → T → Hh → Res T} (ho : OpR X (compareOp op) (rP2 X.K X.mg f)) (ho' : OpR X (compareOp op') (rP2 X.K X.mg g)) (hf : NoX2 f) (hg : NoX2 g) (ha : DE X P W a sa) (hb : DE X P W b sb) (hc : DE X P W c sc)
    (hm : lastMarks [op, op'] [b, c] = false := by with_unfolding_all rfl) : DT X P W (.Compare a [op, op'] [b, c] pos) (sT (sChain f g sa sb sc)) := PT.imp (pt_chain ho ho' ha hb hc hm) fun σV H Q ⟨m, h, σ, A, o⟩ => by
  refine chain hf hg (A.first (rel1 := RT X.K X.mg) o fun m1 h1 t x H1 E1 r A1 o1 => ?_)
  cases r with
  | bl k => exact ⟨k, rfl, o1 k m1 H1 (Ext.refl _ _) rfl A1.hr⟩
  | _ => exact False.elim o1
theorem RTs.atI {m : Mp} {H : Hp} {ts : List T} {vs : List V} (r : RTs X.K X.mg m H ts vs) {i : Int} {t : T} (e : L2.atI ts i = some t) : ∃ v, L2.atI vs i = some v ∧ RT X.K X.mg m H t v := by
  unfold L2.atI at e ⊢
  rw [← r.length]
  cases q : ixN ts.length i with
  | none => rw [q] at e; cases e
  | some j =>
    rw [q] at e
    exact r.get (show ts[j]? = some t from e)
theorem strOk_one {c : Nat} {z : Str} (hz : PyData.strOk z = true) {i : Int} (e : L2.atI z.cps.toList i = some c) : PyData.strOk ⟨#[c]⟩ = true := by
  obtain ⟨j, _, h, _⟩ := atI_get e
  have hm : c ∈ z.cps.toList := List.mem_of_getElem? h
  unfold PyData.strOk at *
  rw [← Array.all_toList, List.all_eq_true] at hz
  have := hz c hm
  simpa using this
theorem ixs : IxR X (rP2 X.K X.mg oIx) := by
  intro value slice pins s σ H x y v u Q I rx ry ⟨m, h, tx, ty, r1, r2, R, o⟩ hs
  cases r2 with
  | int i =>
    cases r1 with
    | @tup a vs ts hq r =>
      have o' : OutP X.K X.mg Q m H (match L2.atI ts i with | some t => .ok t h | none => .stk) := o
      split at o'
      · rename_i t e
        obtain ⟨w, e2, rw⟩ := r.atI e
        exact ix_tup value slice pins s σ H _ _ v u Q I rx ry ⟨_, _, i, w, rfl, rfl, hq, e2, o' _ m H (Ext.refl _ _) rw R⟩ hs
      · exact False.elim o'
    | @fl a vs ts hq r =>
      have o' : OutP X.K X.mg Q m H (match L2.atI ts i with | some t => .ok t h | none => .stk) := o
      split at o'
      · rename_i t e
        obtain ⟨w, e2, rw⟩ := r.atI e
        exact ix_list value slice pins s σ H _ _ v u Q I rx ry ⟨_, _, i, w, rfl, rfl, hq.sq, e2, o' _ m H (Ext.refl _ _) rw R⟩ hs
      · exact False.elim o'
    | @ref l a e1 =>
      have o' : OutP X.K X.mg Q m H (match lstAt h l with
        | some ts => (match L2.atI ts i with | some t => .ok t h | none => .stk)
        | none => .stk) := o
      split at o'
      · rename_i ts q1
        obtain ⟨vs, g1, r1⟩ := R.lst e1 q1
        split at o'
        · rename_i t e
          obtain ⟨w, e2, rw⟩ := r1.atI e
          exact ix_list value slice pins s σ H _ _ v u Q I rx ry ⟨_, _, i, w, rfl, rfl, SqL.of g1, e2, o' _ m H (Ext.refl _ _) rw R⟩ hs
        · exact False.elim o'
      · exact False.elim o'
    | @str z hz =>
      have o' : OutP X.K X.mg Q m H (if z.length ≤ sizeLine then (match L2.atI z.cps.toList i with | some c => .ok (.str ⟨#[c]⟩) h | none => .stk) else .stk) := o
      split at o'
      · rename_i hl
        split at o'
        · rename_i c e
          exact ix_str value slice pins s σ H _ _ v u Q I rx ry ⟨z, i, c, rfl, rfl, hl, e, o' _ m H (Ext.refl _ _) (.str (strOk_one hz e)) R⟩ hs
        · exact False.elim o'
      · exact False.elim o'
    | _ => exact False.elim o
  | _ => cases r1 <;> exact False.elim o
theorem de_ix (ha : DE X P W a sa) (hb : DE X P W b sb) (hs : PlainIx b := by intro _ _; rfl) : DE X P W (.Subscript a b pos) (s2 oIx sa sb) :=
  PE.imp (pe_ix ixs ha hb hs) fun σV H Q h => two nx_ix h
theorem RTs.cut {m : Mp} {H : Hp} {ts : List T} {vs : List V} (r : RTs X.K X.mg m H ts vs) (lo hi : Option Int) : RTs X.K X.mg m H (cutT ts lo hi) (cutV vs lo hi) := by
  unfold cutT cutV
  rw [← r.length]
  exact (r.drop _).take _
abbrev DO (X : Cx) (P : Pq) (W : WX) (e : Option Expr) (se : SO) : Prop := PO X e (tG X.K X.mg (fun _ _ a b => a = b) P W se)
theorem PO.imp {e : Option Expr} {t t' : TO} (h : PO X e t) (k : ∀ σ H Q, t' σ H Q → t σ H Q) : PO X e t' := ⟨fun pins s σ H Q I hw => h.run pins s σ H Q I (k _ _ _ hw)⟩
theorem do_none : DO X P W none soNone := PO.imp po_none fun σV H Q ⟨m, h, σ, A, o⟩ => o none m H (Ext.refl _ _) rfl A.hr
theorem do_some (h : DE X P W a sa) : DO X P W (some a) (soSome sa) := PO.imp (po_some h) fun σV H Q ⟨m, h, σ, A, o⟩ => by
  refine A.first (rel1 := RT X.K X.mg) o fun m1 h1 t x H1 E1 r A1 o1 => ?_
  cases r with
  | int i => exact ⟨i, rfl, o1 (some i) m1 H1 (Ext.refl _ _) rfl A1.hr⟩
  | _ => exact False.elim o1
def rPS (K : PySem.W.Frag) (mg : Str → Option Value) : V → Option Int → Option Int → Hp → VK → Prop := fun x lo hi H Q => ∃ m h t, RT K mg m H t x ∧ HR K mg m h H ∧ OutP K mg Q m H (oSl t lo hi h)
theorem strOk_cut {z : Str} (hz : PyData.strOk z = true) (lo hi : Option Int) : PyData.strOk (L2.cutS z lo hi) = true := by
  unfold PyData.strOk at hz ⊢
  rw [Array.all_eq_true_iff_forall_mem] at hz ⊢
  intro c hc
  refine hz c ?_
  unfold L2.cutS at hc
  have := List.mem_of_mem_drop (List.mem_of_mem_take (List.mem_toArray.mp hc))
  exact Array.mem_toList_iff.mp this
theorem sls : SlR X (rPS X.K X.mg) := by
  intro pins s σ H x v vl vu lo hi sl Q I rx hs pl pu ⟨m, h, t, r, R, o⟩
  cases r with
  | @tup a vs ts hq r =>
    refine sl_tupN pins s σ H _ v vl vu lo hi sl Q I rx hs pl pu ⟨a, vs, rfl, hq, fun ⟨e1, e2⟩ => ?_, fun _ p ob hp hd => ?_⟩
    · have hc : cutV vs lo hi = vs := by
        unfold cutV; rw [e1, e2]; simp
      have hr := r.cut lo hi
      rw [hc] at hr
      exact o _ m H (Ext.refl _ _) (.tup hq hr) R
    · exact OutP.newTup R (r.cut lo hi) o hp hd
  | @fl a vs ts hq r => exact sl_list pins s σ H _ v vl vu lo hi sl Q I rx hs pl pu ⟨a, vs, rfl, hq.sq, fun p hp => OutP.newLst R (r.cut lo hi) o hp⟩
  | @ref l a e1 =>
    have o' : OutP X.K X.mg Q m H (match lstAt h l with | some ts => alloc (.lst (cutT ts lo hi)) h | none => .stk) := o
    split at o'
    · rename_i ts q1
      obtain ⟨vs, g1, r1⟩ := R.lst e1 q1
      exact sl_list pins s σ H _ v vl vu lo hi sl Q I rx hs pl pu ⟨a, vs, rfl, SqL.of g1, fun p hp => OutP.newLst R (r1.cut lo hi) o' hp⟩
    · exact False.elim o'
  | @str z hz =>
    have o' : OutP X.K X.mg Q m H (if z.length ≤ sizeLine then .ok (.str (L2.cutS z lo hi)) h else .stk) := o
    split at o'
    · rename_i hl
      exact sl_str pins s σ H _ v vl vu lo hi sl Q I rx hs pl pu ⟨z, rfl, hl, o' _ m H (Ext.refl _ _) (.str (strOk_cut hz lo hi)) R⟩
    · exact False.elim o'
  | _ => exact False.elim o
theorem nx_sl (t : T) (lo hi : Option Int) (h : Hh) : ∀ c fs h', oSl t lo hi h ≠ .exc c fs h' := fun c fs h' e => by unfold oSl alloc at e; (repeat' split at e) <;> cases e
theorem de_sl {lo hi : Option Expr} {sl sh : SO} (ha : DE X P W a sa) (hl : DO X P W lo sl) (hh : DO X P W hi sh) : DE X P W (.Subscript a (.Slice lo hi none p2) pos) (sSl sa sl sh) :=
  PE.imp (pe_slice sls ha hl hh) fun σV H Q ⟨m, h, σ, A, o⟩ => by
    refine A.first (rel1 := RT X.K X.mg) o fun m1 h1 t x H1 E1 r A1 o1 => ?_
    refine A1.first (rel1 := fun _ _ a b => a = b) o1 fun m2 h2 l l' H2 E2 r2 A2 o2 => ?_
    refine A2.first (rel1 := fun _ _ a b => a = b) o2 fun m3 h3 u u' H3 E3 r3 A3 o3 => ?_
    subst r2; subst r3
    exact ⟨m3, h3, t, (r.ext E2).ext E3, A3.hr, o3.outP (nx_sl _ _ _ _)⟩
def ClsF (K : PySem.W.Frag) (mg : Str → Option Value) (cs : List (Str × List Str)) : Prop := ∀ c fs C, (c, fs) ∈ cs → mg c = some (.ref C) → Cls K C ∧ ∀ f ∈ fs, NoAttr K C f
def oFldC (cs : List (Str × List Str)) (f : Str) (x : T) (h : Hh) : Res T :=
  match x with
  | .ref l => match insAt h l with
    | some (c, fs) => match cs.lookup c with
      | some as => if as.contains f then (match fs.lookup f with | some t => .ok t h | none => .stk) else .stk
      | none => .stk
    | none => .stk
  | _ => .stk
theorem mem_of_lookup {α : Type} : ∀ {l : List (Str × α)} {c : Str} {x : α}, l.lookup c = some x → (c, x) ∈ l
  | [], _, _, e => by simp [List.lookup] at e
  | (d, y) :: r, c, x, e => by
    unfold List.lookup at e
    split at e
    · rename_i q
      have : c = d := by simpa using q
      subst this; cases e; exact List.mem_cons_self
    · exact List.mem_cons_of_mem _ (mem_of_lookup e)
theorem nx_fld (cs : List (Str × List Str)) (f : Str) : NoX1 (oFldC cs f) := fun x h c fs h' e => by unfold oFldC at e; (repeat' split at e) <;> cases e
theorem de_fld {cs : List (Str × List Str)} {f : Str} (C : ClsF X.K X.mg cs) (ha : DE X P W a sa) (hb : attributeBase a f X.env (eval a X.env) = eval a X.env := by rfl) : DE X P W (.Attribute a f pos) (s1 (oFldC cs f) sa) :=
  PE.imp (pe_fld ha hb) fun σV H Q h => by
    refine tG.mono (fun x H1 hq => ?_) (one (nx_fld cs f) h)
    obtain ⟨m, h, t, r, R, o⟩ := hq
    cases r with
    | @ref l a e1 =>
      have o' : OutP X.K X.mg Q m H1 (match insAt h l with
        | some (c, fs) => (match cs.lookup c with
          | some as => if as.contains f then (match fs.lookup f with | some t => .ok t h | none => .stk) else .stk
          | none => .stk)
        | none => .stk) := o
      split at o'
      · rename_i c fs q1
        obtain ⟨Ca, dx, fv, g1, g2, rf⟩ := R.ins e1 q1
        split at o'
        · rename_i as q2
          split at o'
          · rename_i hc
            split at o'
            · rename_i t q3
              obtain ⟨v, e3, rv⟩ := rf.lookup q3
              obtain ⟨k1, k2⟩ := C c as Ca (mem_of_lookup q2) g1
              exact ⟨a, Ca, dx, fv, v, rfl, g2, k1, k2 f (by simpa using hc), e3, o' _ m H1 (Ext.refl _ _) rv R⟩
            · exact False.elim o'
          · exact False.elim o'
        · exact False.elim o'
      · exact False.elim o'
    | _ => exact False.elim o
theorem args_of {f : List T → Hh → Res T} (hf : NoXL f) {σV : L2.St} {H : Hp} {Q : VK} (h : tI X.K X.mg P W (sCl f ar) σV H Q) : tAr X.K X.mg P W ar σV H fun xs H1 => rPL X.K X.mg f xs H1 Q := by
  obtain ⟨m, h, σ, A, o⟩ := h
  refine A.first (rel1 := RTs X.K X.mg) o fun m1 h1 t1 x H1 E1 r1 A1 o1 => ?_
  exact ⟨m1, h1, t1, r1, A1.hr, o1.outP (hf _ _)⟩
theorem de_callB {id : String} {x : Str} {p : Pos} {f : List T → Hh → Res T} (hc : CallR X (.builtin id) (rPL X.K X.mg f)) (hf : NoXL f) (hg : Gl X x) (hm : X.mg x = none) (hv : bootBuiltins x = some (.builtin id)) (ha : DA X P W (a :: es) ar) (hn : x ≠ "__name__" := by decide) (hdb : (x == ("__debug__" : Str)) = false := by decide)
    (he : starEach (a :: es) X.env = (false, eval a X.env) :: starEach es X.env := by rfl) (hpl : (backTo pos (starEach es X.env)).any (·.1) = false := by rfl) : DE X P W (.Call (.Name x p) (a :: es) [] pos) (sCl f ar) :=
  PE.imp (pe_callB hc hg hm hv ha hn hdb he hpl) fun σV H Q h => args_of hf h
theorem de_callTy {T' : String} {x : Str} {p : Pos} {f : List T → Hh → Res T} (hc : CallR X (.type T') (rPL X.K X.mg f)) (hf : NoXL f) (hg : Gl X x) (hm : X.mg x = none) (hv : bootBuiltins x = some (.type T')) (ha : DA X P W (a :: es) ar) (hn : x ≠ "__name__" := by decide) (hdb : (x == ("__debug__" : Str)) = false := by decide)
    (he : starEach (a :: es) X.env = (false, eval a X.env) :: starEach es X.env := by rfl) (hpl : (backTo pos (starEach es X.env)).any (·.1) = false := by rfl) : DE X P W (.Call (.Name x p) (a :: es) [] pos) (sCl f ar) :=
  PE.imp (pe_callTy hc hg hm hv ha hn hdb he hpl) fun σV H Q h => args_of hf h
theorem nx_len : NoXL bLen := fun x h c fs h' e => by unfold bLen at e; (repeat' split at e) <;> cases e
theorem nx_bint : NoXL bInt := fun x h c fs h' e => by unfold bInt at e; (repeat' split at e) <;> cases e
theorem nx_tuple : NoXL bTuple := fun x h c fs h' e => by unfold bTuple at e; (repeat' split at e) <;> cases e
theorem RTs.one {m : Mp} {H : Hp} {t : T} {vs : List V} (r : RTs X.K X.mg m H [t] vs) : ∃ v, vs = [v] ∧ RT X.K X.mg m H t v := by
  cases r with
  | cons r q => cases q; exact ⟨_, rfl, r⟩
theorem cs_len : CallR X (.builtin "len") (rPL X.K X.mg bLen) := by
  intro pins s σ H xs us Q I ru ⟨m, h, ts, r, R, o⟩
  unfold bLen at o
  split at o
  · obtain ⟨v, rfl, r1⟩ := r.one
    cases r1 with
    | tup hq r2 => exact call_len_seq pins s σ H _ us Q I ru ⟨_, _, rfl, .inr hq, by rw [← r2.length]; exact o _ m H (Ext.refl _ _) (.int _) R⟩
  · obtain ⟨v, rfl, r1⟩ := r.one
    cases r1 with
    | fl hq r2 => exact call_len_seq pins s σ H _ us Q I ru ⟨_, _, rfl, .inl hq.sq, by rw [← r2.length]; exact o _ m H (Ext.refl _ _) (.int _) R⟩
  · obtain ⟨v, rfl, r1⟩ := r.one
    split at o
    · rename_i hz
      cases r1 with
      | str hq => exact call_len_str pins s σ H _ us Q I ru ⟨_, rfl, hz, o _ m H (Ext.refl _ _) (.int _) R⟩
    · exact False.elim o
  · obtain ⟨v, rfl, r1⟩ := r.one
    split at o
    · rename_i ts q1
      cases r1 with
      | ref e1 =>
        obtain ⟨vs, g1, r2⟩ := R.lst e1 q1
        exact call_len_seq pins s σ H _ us Q I ru ⟨_, _, rfl, .inl (SqL.of g1), by rw [← r2.length]; exact o _ m H (Ext.refl _ _) (.int _) R⟩
    · exact False.elim o
  · exact False.elim o
theorem cs_int : CallR X (.type "int") (rPL X.K X.mg bInt) := by
  intro pins s σ H xs us Q I ru ⟨m, h, ts, r, R, o⟩
  unfold bInt at o
  split at o
  · obtain ⟨v, rfl, r1⟩ := r.one
    cases r1 with
    | int i => exact call_int1 pins s σ H _ us Q I ru (.inl ⟨_, rfl, o _ m H (Ext.refl _ _) (.int _) R⟩)
  · exact False.elim o
theorem cs_tuple : CallR X (.type "tuple") (rPL X.K X.mg bTuple) := by
  intro pins s σ H xs us Q I ru ⟨m, h, ts, r, R, o⟩
  unfold bTuple at o
  split at o
  · obtain ⟨v, rfl, r1⟩ := r.one
    cases r1 with
    | tup hq r2 => exact call_tupleN pins s σ H _ us Q I ru ⟨_, _, rfl, .inr ⟨hq.t, o _ m H (Ext.refl _ _) (.tup hq r2) R⟩⟩
  · obtain ⟨v, rfl, r1⟩ := r.one
    cases r1 with
    | fl hq r2 => exact call_tupleN pins s σ H _ us Q I ru ⟨_, _, rfl, .inl ⟨hq.sq, fun p ob hp hd => OutP.newTup R r2 o hp hd⟩⟩
  · obtain ⟨v, rfl, r1⟩ := r.one
    split at o
    · rename_i ts q1
      cases r1 with
      | ref e1 =>
        obtain ⟨vs, g1, r2⟩ := R.lst e1 q1
        exact call_tupleN pins s σ H _ us Q I ru ⟨_, _, rfl, .inl ⟨SqL.of g1, fun p ob hp hd => OutP.newTup R r2 o hp hd⟩⟩
    · exact False.elim o
  · exact False.elim o
end
end W3
end

section
namespace W3
open PySem PySem.Spec PyProof.Rows
open L2
structure SrcJ (K : PySem.W.Frag) (mg : Str → Option Value) (m : Mp) (H : Hp) (s : Src) (J : It) : Prop where
  go : ∀ m' h' H' i x, Tr m H m' H' → HR K mg m' h' H' → s.at h' i = some (some x) → J.go i H' ∧ ∀ y H2, J.yld i H' y H2 → Ext m' H' m' H2 ∧ HR K mg m' h' H2 ∧ RT K mg m' H2 x y
  stop : ∀ m' h' H' i, Tr m H m' H' → HR K mg m' h' H' → s.at h' i = some none → J.stop i H'
theorem SrcJ.ext {K : PySem.W.Frag} {mg : Str → Option Value} {m m1 : Mp} {H H1 : Hp} {s : Src} {J : It} (S : SrcJ K mg m H s J) (E : Ext m H m1 H1) : SrcJ K mg m1 H1 s J :=
  ⟨fun m' h' H' i x E' => S.go m' h' H' i x (E.tr.trans E'), fun m' h' H' i E' => S.stop m' h' H' i (E.tr.trans E')⟩
section
variable {K : PySem.W.Frag} {mg : Str → Option Value} {m : Mp} {H : Hp}
theorem srcj_tup {a : Addr} {vs : List V} {ts : List T} (hq : SqT K H a vs) (r : RTs K mg m H ts vs) : SrcJ K mg m H (.its ts) (Itt K a) where
  go := fun m' h' H' i x E R e => by
    have e' : ts[i]? = some x := Option.some.inj e
    obtain ⟨v, ev, rv⟩ := r.get e'
    refine ⟨⟨vs, v, SqT.tr E hq, ev⟩, fun y H2 ⟨e1, e2⟩ => ?_⟩
    subst e1
    have := e2 vs (SqT.tr E hq)
    rw [ev] at this; cases this
    exact ⟨Ext.refl _ _, R, rv.tr E⟩
  stop := fun m' h' H' i E R e => by
    have e' : ts[i]? = none := Option.some.inj e
    refine ⟨vs, SqT.tr E hq, ?_⟩
    rw [← r.length]
    exact List.getElem?_eq_none_iff.mp e'
theorem srcj_fl {a : Addr} {vs : List V} {ts : List T} (hq : SqF K H a vs) (r : RTs K mg m H ts vs) : SrcJ K mg m H (.its ts) (Itl K a) where
  go := fun m' h' H' i x E R e => by
    have e' : ts[i]? = some x := Option.some.inj e
    obtain ⟨v, ev, rv⟩ := r.get e'
    refine ⟨⟨vs, v, (SqF.tr E hq).sq, ev⟩, fun y H2 ⟨e1, e2⟩ => ?_⟩
    subst e1
    have := e2 vs (SqF.tr E hq).sq
    rw [ev] at this; cases this
    exact ⟨Ext.refl _ _, R, rv.tr E⟩
  stop := fun m' h' H' i E R e => by
    have e' : ts[i]? = none := Option.some.inj e
    refine ⟨vs, (SqF.tr E hq).sq, ?_⟩
    rw [← r.length]
    exact List.getElem?_eq_none_iff.mp e'
theorem srcj_live {l : Nat} {a : Addr} (hl : m l = some a) : SrcJ K mg m H (.live l) (Itl K a) where
  go := fun m' h' H' i x E R e => by
    have e' : (match lstAt h' l with | some ts => some ts[i]? | none => none) = some (some x) := e
    split at e'
    · rename_i ts q
      have e2 : ts[i]? = some x := Option.some.inj e'
      obtain ⟨vs, g, r⟩ := R.lst (E.mono _ _ hl) q
      obtain ⟨v, ev, rv⟩ := r.get e2
      refine ⟨⟨vs, v, SqL.of g, ev⟩, fun y H2 ⟨e1, e2⟩ => ?_⟩
      subst e1
      have := e2 vs (SqL.of g)
      rw [ev] at this; cases this
      exact ⟨Ext.refl _ _, R, rv⟩
    · cases e'
  stop := fun m' h' H' i E R e => by
    have e' : (match lstAt h' l with | some ts => some ts[i]? | none => none) = some none := e
    split at e'
    · rename_i ts q
      have e2 : ts[i]? = none := Option.some.inj e'
      obtain ⟨vs, g, r⟩ := R.lst (E.mono _ _ hl) q
      refine ⟨vs, SqL.of g, ?_⟩
      rw [← r.length]
      exact List.getElem?_eq_none_iff.mp e2
    · cases e'
theorem rangeT_get : ∀ (n : Nat) (lo : Int) (i : Nat), (rangeT lo n)[i]? = if i < n then some (.int (lo + i)) else none
  | 0, lo, i => by simp [rangeT]
  | n + 1, lo, 0 => by simp [rangeT]
  | n + 1, lo, i + 1 => by
    show (rangeT (lo + 1) n)[i]? = _
    rw [rangeT_get n (lo + 1) i]
    by_cases h : i < n
    · rw [if_pos h, if_pos (by omega)]
      congr 2
      push_cast
      omega
    · rw [if_neg h, if_neg (by omega)]
theorem srcj_range (lo : Int) (n : Nat) : SrcJ K mg m H (.its (rangeT lo n)) (Itr lo n) where
  go := fun m' h' H' i x E R e => by
    have e' : (rangeT lo n)[i]? = some x := Option.some.inj e
    rw [rangeT_get] at e'
    split at e'
    · rename_i hi
      cases e'
      refine ⟨hi, fun y H2 ⟨e1, e2⟩ => ?_⟩
      subst e1; subst e2
      exact ⟨Ext.refl _ _, R, .int _⟩
    · cases e'
  stop := fun m' h' H' i E R e => by
    have e' : (rangeT lo n)[i]? = none := Option.some.inj e
    rw [rangeT_get] at e'
    split at e'
    · cases e'
    · rename_i hi
      exact Nat.le_of_not_lt hi
theorem srcj_str {z : Str} (hz : PyData.strOk z = true) : SrcJ K mg m H (.its (z.cps.toList.map fun c => .str ⟨#[c]⟩)) (Its z) where
  go := fun m' h' H' i x E R e => by
    have e' : (z.cps.toList.map fun c => T.str ⟨#[c]⟩)[i]? = some x := Option.some.inj e
    rw [List.getElem?_map] at e'
    cases q : z.cps.toList[i]? with
    | none => rw [q] at e'; cases e'
    | some c =>
      rw [q] at e'
      have e2 : T.str ⟨#[c]⟩ = x := Option.some.inj e'
      subst e2
      have hi : i < z.cps.size := by
        have := (List.getElem?_eq_some_iff.mp q).1
        simpa using this
      refine ⟨hi, fun y H2 ⟨e1, c', e3, e4⟩ => ?_⟩
      subst e1; subst e4
      have e5 : z.cps[i]? = some c := by rw [← Array.getElem?_toList]; exact q
      rw [e5] at e3; cases e3
      refine ⟨Ext.refl _ _, R, .str ?_⟩
      unfold PyData.strOk at *
      rw [← Array.all_toList, List.all_eq_true] at hz
      have := hz c (List.mem_of_getElem? q)
      simpa using this
  stop := fun m' h' H' i E R e => by
    have e' : (z.cps.toList.map fun c => T.str ⟨#[c]⟩)[i]? = none := Option.some.inj e
    have := List.getElem?_eq_none_iff.mp e'
    show z.cps.size ≤ i
    simpa using this
end
abbrev DI (X : Cx) (P : Pq) (W : WX) (tg iter : Expr) (si : SI) : Prop := PI X tg iter (tG X.K X.mg (SrcJ X.K X.mg) P W si)
section
variable {X : Cx} {P : Pq} {W : WX} {a b c tg iter : Expr} {sa sb sc : SE} {pos : Pos} {es : List Expr} {ar : SA} {si : SI} {ta tb : ST} {rest : List Expr}
theorem PI.imp {tg iter : Expr} {t t' : TI} (h : PI X tg iter t) (k : ∀ σ H R, t' σ H R → t σ H R) : PI X tg iter t' := ⟨fun pins s σ H R I hw => h.run pins s σ H R I (k _ _ _ hw)⟩
theorem iList_and {tl : TE} (hl : PE X iter tl) : PI X tg iter (fun σ H R => tl σ H fun x H1 => (∃ a, x = .ref a ∧ (∃ xs, SqL X.K H1 a xs) ∧ R (Itl X.K a) H1) ∨ (∃ a, x = .ref a ∧ (∃ xs, SqT X.K H1 a xs) ∧ R (Itt X.K a) H1) ∨ ∃ z, x = .str z ∧ R (Its z) H1) := by
  refine ⟨fun pins s σ H R I h => ?_⟩
  refine thn (hl.run pins s σ H _ I h) fun v s1 ⟨x, H1, I1, r1, q1⟩ => ?_
  rcases q1 with ⟨a, e, ⟨xs, hq⟩, q⟩ | ⟨a, e, ⟨xs, hq⟩, q⟩ | ⟨z, e, q⟩
  · subst e
    cases r1
    obtain ⟨its, rv, p, hz⟩ := I1.list hq
    refine wpAny_pyIter_list p.isList ?_
    refine ⟨s1.heap.objs.size, [s1.heap.objs.size], _, _, H1, rfl, I1.kept (t' := s1.toks) fun b o e => Heap.get?_push_of_some _ e, turn_list a _, ⟨_, Heap.get?_push_size _ rfl, rfl, rfl⟩, fun b hb => ?_, q⟩
    have e : b = s1.heap.objs.size := by simpa using hb
    subst e
    exact I1.fpOk (Nat.le_refl _) (I1.hok.fresh (Nat.le_refl _))
  · subst e
    cases r1
    obtain ⟨its, rv, p, hz⟩ := I1.tuple hq
    refine wpAny_pyIter_tuple (show s1.heap.IsTuple a its.toArray from p) ?_
    refine ⟨s1.heap.objs.size, [s1.heap.objs.size], _, _, H1, rfl, I1.kept (t' := s1.toks) fun b o e => Heap.get?_push_of_some _ e, turn_tuple a _, ⟨_, Heap.get?_push_size _ rfl, rfl, rfl⟩, fun b hb => ?_, q⟩
    have e : b = s1.heap.objs.size := by simpa using hb
    subst e
    exact I1.fpOk (Nat.le_refl _) (I1.hok.fresh (Nat.le_refl _))
  · subst e
    obtain ⟨t, rfl⟩ := r1
    cases ha : z.cps.all (· < 128)
    · exact wpAny_pyIter_wide ha (pi_one (tk := s1.toks) I1 _ (turn_str _ z t "str_iterator" (.inr rfl)) ⟨_, Heap.get?_push_size _ rfl, rfl, rfl⟩ q)
    · exact wpAny_pyIter_ascii ha (pi_one (tk := s1.toks) I1 _ (turn_str _ z t "str_ascii_iterator" (.inl rfl)) ⟨_, Heap.get?_push_size _ rfl, rfl, rfl⟩ q)
theorem di_e (ha : DE X P W iter sa) : DI X P W tg iter (siE sa) := PI.imp (iList_and ha) fun σV H R ⟨m, h, σ, A, o⟩ => by
  refine A.first (rel1 := RT X.K X.mg) o fun m1 h1 t x H1 E1 r A1 o1 => ?_
  cases r with
  | @tup a vs ts hq r => exact .inr (.inl ⟨a, rfl, ⟨vs, hq⟩, o1 _ m1 H1 (Ext.refl _ _) (srcj_tup hq r) A1.hr⟩)
  | @fl a vs ts hq r => exact .inl ⟨a, rfl, ⟨vs, hq.sq⟩, o1 _ m1 H1 (Ext.refl _ _) (srcj_fl hq r) A1.hr⟩
  | @str z hz => exact .inr (.inr ⟨z, rfl, o1 _ m1 H1 (Ext.refl _ _) (srcj_str hz) A1.hr⟩)
  | @ref l a e1 =>
    have o' : Out X.K X.mg (SrcJ X.K X.mg) W σV R m1 H1 (match lstAt h1 l with | some _ => .ok (.live l) h1 | none => .stk) := o1
    split at o'
    · rename_i ts q1
      obtain ⟨vs, g1, r1⟩ := A1.hr.lst e1 q1
      exact .inl ⟨a, rfl, ⟨vs, SqL.of g1⟩, o' _ m1 H1 (Ext.refl _ _) (srcj_live e1) A1.hr⟩
    · exact False.elim o'
  | _ => exact False.elim o1
theorem di_range1 {p : Pos} (hg : Gl X "range") (hm : X.mg "range" = none) (ha : DA X P W [a] ar) (hs : starEach [a] X.env = [(false, eval a X.env)] := by rfl) : DI X P W tg (.Call (.Name "range" p) [a] [] pos) (siRange1 ar) :=
  PI.imp (pi_range1 hg hm ha hs) fun σV H R ⟨m, h, σ, A, o⟩ => by
    refine A.first (rel1 := RTs X.K X.mg) o fun m1 h1 ts x H1 E1 r A1 o1 => ?_
    unfold rngOf at o1
    split at o1
    · obtain ⟨v, rfl, r1⟩ := r.one
      cases r1 with
      | int _ =>
        rename_i j
        split at o1
        · rename_i hj
          exact ⟨j, rfl, hj.1, hj.2, o1 _ m1 H1 (Ext.refl _ _) (srcj_range 0 j.toNat) A1.hr⟩
        · exact False.elim o1
    · exact False.elim o1
def Only3 (is : List Nat) (σV σV' : L2.St) : Prop := σV'.length = σV.length ∧ ∀ j, j ∉ is → σV'[j]? = σV[j]?
def tTg (K : PySem.W.Frag) (mg : Str → Option Value) (P : Pq) (is : List Nat) (g : SG) : TG := fun v σV H Q => ∃ m h σ t, At K mg P m H σV σ h ∧ RT K mg m H t v ∧
  (match g t σ with | some σ' => ∀ σV', SR K mg m H σ' σV' → Only3 is σV σV' → Q σV' H | none => False)
def tTgs (K : PySem.W.Frag) (mg : Str → Option Value) (P : Pq) (is : List Nat) (g : SGs) : TGs := fun vs σV H Q => ∃ m h σ ts, At K mg P m H σV σ h ∧ RTs K mg m H ts vs ∧
  (match g ts σ with | some σ' => ∀ σV', SR K mg m H σ' σV' → Only3 is σV σV' → Q σV' H | none => False)
abbrev DG (X : Cx) (P : Pq) (tg : Expr) (is : List Nat) (g : SG) : Prop := PG X tg (tTg X.K X.mg P is g)
abbrev DGs (X : Cx) (P : Pq) (ts : List Expr) (is : List Nat) (g : SGs) : Prop := PGs X ts (tTgs X.K X.mg P is g)
theorem PG.imp {tg : Expr} {t t' : TG} (h : PG X tg t) (k : ∀ v σ H Q, t' v σ H Q → t v σ H Q) : PG X tg t' := ⟨fun pins s σ H v u Q I r hw => h.run pins s σ H v u Q I r (k _ _ _ _ hw)⟩
theorem PGs.imp {tg : List Expr} {t t' : TGs} (h : PGs X tg t) (k : ∀ v σ H Q, t' v σ H Q → t v σ H Q) : PGs X tg t' := ⟨fun pins s σ H v u Q I r hw => h.run pins s σ H v u Q I r (k _ _ _ _ hw)⟩
theorem SR.set {m : Mp} {H : Hp} {σ : St3} {σV : L2.St} (r : SR X.K X.mg m H σ σV) {t : T} {v : V} (q : RT X.K X.mg m H t v) (i : Nat) : SR X.K X.mg m H (σ.set i (some t)) (σV.set i (some v)) := by
  refine ⟨by rw [List.length_set, List.length_set]; exact r.1, fun j u e => ?_⟩
  by_cases hj : i = j
  · subst hj
    by_cases hi : i < σ.length
    · rw [List.getElem?_set_self hi] at e
      cases e
      exact ⟨v, by rw [List.getElem?_set_self (by rw [← r.1]; exact hi)], q⟩
    · rw [List.getElem?_eq_none (by rw [List.length_set]; omega)] at e
      cases e
  · rw [List.getElem?_set_ne hj] at e
    obtain ⟨w, e2, q2⟩ := r.2 j u e
    exact ⟨w, by rw [List.getElem?_set_ne hj]; exact e2, q2⟩
theorem dg_name {i : Nat} {x : Str} (hN : X.N.Nodup) (hi : X.N[i]? = some x) (hx : Loc X.env.scope x) (hf : X.fn x = true ∨ X.env.scope.names.lookup x = some .local := by first | exact .inl rfl | exact .inr rfl | assumption) : DG X P (.Name x pos) [i] (sgName i) :=
  PG.imp (pg_name hN hi hx hf) fun v σV H Q ⟨m, h, σ, t, A, r, q⟩ => by
    refine q (σV.set i (some v)) (A.sr.set r i) ⟨List.length_set, fun j hj => ?_⟩
    rw [List.getElem?_set_ne (fun e => hj (by simp [e]))]
theorem dgs_nil : DGs X P [] [] sgsNil := PGs.imp pgs_nil fun vs σV H Q ⟨m, h, σ, ts, A, r, q⟩ => by
  cases r with
  | nil => exact ⟨rfl, q σV A.sr ⟨rfl, fun _ _ => rfl⟩⟩
  | cons _ _ => exact False.elim q
theorem dgs_cons {e : Expr} {is js : List Nat} {g : SG} {gs : SGs} (h1 : DG X P e is g) (h2 : DGs X P es js gs) (hs : (assignEach (e :: es) X.env).map (·.2) = assign e X.env :: (assignEach es X.env).map (·.2) := by rfl) : DGs X P (e :: es) (is ++ js) (sgsCons g gs) :=
  PGs.imp (pgs_cons h1 h2 hs) fun vs σV H Q ⟨m, h, σ, ts, A, r, q⟩ => by
    cases r with
    | nil => exact False.elim q
    | @cons t ts v vs r rr =>
      refine ⟨v, vs, rfl, m, h, σ, t, A, r, ?_⟩
      have q' : (match (match g t σ with | some σ1 => gs ts σ1 | none => none) with | some σ' => ∀ σV', SR X.K X.mg m H σ' σV' → Only3 (is ++ js) σV σV' → Q σV' H | none => False) := q
      cases e1 : g t σ with
      | none => rw [e1] at q'; exact q'
      | some σ1 =>
        rw [e1] at q'
        intro σV1 s1 o1
        refine ⟨m, h, σ1, ts, ⟨s1, A.hr, A.pr⟩, rr, ?_⟩
        have q2 : (match gs ts σ1 with | some σ' => ∀ σV', SR X.K X.mg m H σ' σV' → Only3 (is ++ js) σV σV' → Q σV' H | none => False) := q'
        cases e2 : gs ts σ1 with
        | none => rw [e2] at q2; exact q2
        | some σ2 =>
          rw [e2] at q2
          intro σV2 s2 o2
          refine q2 σV2 s2 ⟨o2.1.trans o1.1, fun j hj => ?_⟩
          have hj' : j ∉ is ∧ j ∉ js := by simpa [not_or] using hj
          exact (o2.2 j hj'.2).trans (o1.2 j hj'.1)
theorem dg_tup {k n : Nat} {is : List Nat} {gs : SGs} (hc : X.calm = true) (h : DGs X P es is gs) (hn : (assignEach es X.env).length = n := by rfl) (hst : (assignEach es X.env).findIdx? (·.1) = none := by rfl) : DG X P (.Tuple es k pos) is (sgTup n gs) :=
  PG.imp (pg_tup hc h hn hst) fun v σV H Q ⟨m, h, σ, t, A, r, q⟩ => by
    cases r with
    | @tup a vs ts hq r =>
      have q' : (match (if ts.length = n then gs ts σ else none) with | some σ' => ∀ σV', SR X.K X.mg m H σ' σV' → Only3 is σV σV' → Q σV' H | none => False) := q
      split at q'
      · rename_i σ' e
        split at e
        · rename_i hl
          refine ⟨a, vs, rfl, hq, by rw [← r.length]; exact hl, m, h, σ, ts, A, r, ?_⟩
          rw [e]; exact q'
        · cases e
      · exact False.elim q'
    | _ => exact False.elim q
def relL (K : PySem.W.Frag) (mg : Str → Option Value) (H0 : Hp) (m : Mp) (H : Hp) (ts : List T) (v : V) : Prop :=
  ∃ D vs, v = .ref D ∧ H0 D = none ∧ H D = some (.lst vs) ∧ RTs K mg m H ts vs ∧ ∀ l, m l ≠ some D
def tL (K : PySem.W.Frag) (mg : Str → Option Value) (P : Pq) (W : WX) (sa : SA) : TE := fun σV H Q => tG K mg (relL K mg H) P W sa σV H Q
abbrev DL (X : Cx) (P : Pq) (W : WX) (e : Expr) (sa : SA) : Prop := PE X e (tL X.K X.mg P W sa)
abbrev DTs (X : Cx) (P : Pq) (W : WX) (es : List Expr) (se : ST) : Prop := PTs X es (tTst X.K X.mg P W se)
theorem PTs.imp {es : List Expr} {t t' : TT} (h : PTs X es t) (k : ∀ σ H Q, t' σ H Q → t σ H Q) : PTs X es t' := ⟨fun pins s σ H Q I hw => h.run pins s σ H Q I (k _ _ _ hw)⟩
theorem dts_nil : DTs X P W [] stYes := PTs.imp pts_nil fun σV H Q ⟨m, h, σ, A, o⟩ => o true m H (Ext.refl _ _) rfl A.hr
theorem dts_one (h : DT X P W c ta) : DTs X P W [c] ta := pts_one h
def WF : WX := fun _ _ _ _ => False
theorem SR.wipe {m : Mp} {H : Hp} {σ : St3} {σV : L2.St} (r : SR X.K X.mg m H σ σV) : ∀ vs : List Nat, SR X.K X.mg m H (wipeT σ vs) (L2.wipe σV vs)
  | [] => r
  | v :: vs => by
    have ih := SR.wipe r vs
    refine ⟨by unfold wipeT L2.wipe; rw [List.length_set, List.length_set]; exact ih.1, fun j u e => ?_⟩
    unfold wipeT at e
    unfold L2.wipe
    by_cases hj : v = j
    · subst hj
      by_cases hi : v < (wipeT σ vs).length
      · rw [List.getElem?_set_self hi] at e; cases e
      · rw [List.getElem?_eq_none (by rw [List.length_set]; omega)] at e; cases e
    · rw [List.getElem?_set_ne hj] at e ⊢
      exact ih.2 j u e
theorem wipe_get (σV : L2.St) : ∀ (vs : List Nat) (j : Nat), (L2.wipe σV vs)[j]? = if j ∈ vs ∧ j < σV.length then some none else σV[j]?
  | [], j => by simp [L2.wipe]
  | v :: vs, j => by
    unfold L2.wipe
    by_cases hj : v = j
    · subst hj
      by_cases hi : v < σV.length
      · rw [List.getElem?_set_self (by rw [wipe_length]; exact hi), if_pos ⟨List.mem_cons_self, hi⟩]
      · rw [List.getElem?_eq_none (by rw [List.length_set, wipe_length]; omega), if_neg (fun z => hi z.2), List.getElem?_eq_none (by omega)]
    · rw [List.getElem?_set_ne hj, wipe_get σV vs j]
      have : (j ∈ v :: vs ∧ j < σV.length) ↔ (j ∈ vs ∧ j < σV.length) := by
        simp only [List.mem_cons]
        constructor
        · rintro ⟨z | z, w⟩
          · exact absurd z.symm hj
          · exact ⟨z, w⟩
        · rintro ⟨z, w⟩; exact ⟨.inr z, w⟩
      by_cases hh : j ∈ vs ∧ j < σV.length
      · rw [if_pos hh, if_pos (this.mpr hh)]
      · rw [if_neg hh, if_neg (fun z => hh (this.mp z))]
theorem wipe_only {is vs : List Nat} {σV σV' : L2.St} (hs : ∀ i ∈ is, i ∈ vs) (o : Only3 is (L2.wipe σV vs) σV') : L2.wipe σV' vs = L2.wipe σV vs := by
  apply List.ext_getElem?
  intro j
  rw [wipe_get, wipe_get]
  have hl : σV'.length = σV.length := by rw [o.1, wipe_length]
  by_cases hj : j ∈ vs ∧ j < σV.length
  · rw [if_pos (by rw [hl]; exact hj), if_pos hj]
  · rw [if_neg (by rw [hl]; exact hj), if_neg hj]
    by_cases hj2 : j ∈ vs
    · have : ¬ j < σV.length := fun z => hj ⟨hj2, z⟩
      rw [List.getElem?_eq_none (by omega), List.getElem?_eq_none (by omega)]
    · rw [o.2 j (fun z => hj2 (hs j z)), wipe_get, if_neg (fun z => hj2 z.1)]
theorem lc_read {is vs : List Nat} {g : SG} {tt : ST} {te : SE} (his : ∀ i ∈ is, i ∈ vs) {σV : L2.St} {H : Hp} {Q : VK} (h : tL X.K X.mg P W (saLc si g tt te vs) σV H Q) :
    tLc (tG X.K X.mg (SrcJ X.K X.mg) P W si) (tTg X.K X.mg P is g) (tTst X.K X.mg P WF tt) (tI X.K X.mg P WF te) vs σV H Q := by
  obtain ⟨m, h, σ, A, o⟩ := h
  refine A.first (rel1 := SrcJ X.K X.mg) o fun m1 h1 s J H1 E1 S A1 o1 D hD => ?_
  have hD0 : H D = none := by
    cases q : H D with
    | none => rfl
    | some u =>
      obtain ⟨w, e⟩ := E1.live D u q
      rw [hD] at e; cases e
  refine ⟨fun i k H' => ∃ m' h' acc accV, Ext m1 H1 m' H' ∧ HR X.K X.mg m' h' H' ∧ H' D = some (.lst accV) ∧ RTs X.K X.mg m' H' acc accV ∧ (∀ l, m' l ≠ some D) ∧
    Out X.K X.mg (relL X.K X.mg H) W σV Q m1 H1 (lcRun s g tt te (wipeT σ vs) k i acc h'), ⟨s.len h1, m1, h1, [], [], Ext.garbage A1.hr hD, A1.hr.garbage hD, upd_same, .nil, fun l e => ?_, o1⟩, ?_⟩
  · obtain ⟨u, e2, _⟩ := A1.hr.tracked e
    rw [hD] at e2; cases e2
  rintro i k H' ⟨m', h', acc, accV, E', R', hDl, racc, nD, o'⟩
  unfold lcRun at o'
  cases es : s.at h' i with
  | none => rw [es] at o'; exact False.elim o'
  | some ox =>
    cases ox with
    | none =>
      rw [es] at o'
      exact .inl ⟨S.stop m' h' H' i E'.tr R' es, o' _ m' H' E' ⟨D, accV, rfl, hD0, hDl, racc, nD⟩ R'⟩
    | some x =>
      rw [es] at o'
      cases k with
      | zero => exact False.elim o'
      | succ k =>
        obtain ⟨jg, jy⟩ := S.go m' h' H' i x E'.tr R' es
        refine .inr ⟨jg, _, fun H'' q => ⟨k, Nat.lt_succ_self k, q⟩, fun y H2 hy => ?_⟩
        obtain ⟨E2, R2, rx⟩ := jy y H2 hy
        have A2 : At X.K X.mg P m' H2 (L2.wipe σV vs) (wipeT σ vs) h' := ⟨((A1.sr.ext (E'.trans E2)).wipe vs), R2, P.st (E'.trans E2) A1.pr⟩
        refine ⟨m', h', wipeT σ vs, x, A2, rx, ?_⟩
        have keepD : ∀ {m3 H3}, Ext m' H2 m3 H3 → H3 D = some (.lst accV) ∧ ∀ l, m3 l ≠ some D := fun {m3 H3} E3 => by
          have d2 : H2 D = some (.lst accV) := E2.keep D _ hDl nD
          refine ⟨E3.keep D _ d2 nD, fun l e => ?_⟩
          rcases E3.fresh l D e with z | z
          · exact nD l z
          · rw [d2] at z; cases z
        dsimp only at o'
        cases eg : g x (wipeT σ vs) with
        | none => rw [eg] at o'; exact False.elim o'
        | some σ1 =>
          rw [eg] at o'
          intro σV1 s1 only
          refine ⟨wipe_only his only, m', h', σ1, ⟨s1, R2, A2.pr⟩, ?_⟩
          dsimp only at o'
          cases et : tt σ1 h' with
          | exc c fs h3 => rw [et] at o'; exact False.elim o'
          | stk => rw [et] at o'; exact False.elim o'
          | ok b h3 =>
            rw [et] at o'
            dsimp only at o'
            intro b' m3 H3 E3 eb R3
            subst eb
            cases b with
            | false =>
              rw [if_neg Bool.false_ne_true] at o' ⊢
              obtain ⟨d3, n3⟩ := keepD E3
              exact ⟨m3, h3, acc, accV, (E'.trans E2).trans E3, R3, d3, (racc.ext E2).ext E3, n3, o'⟩
            | true =>
              rw [if_pos rfl] at o' ⊢
              refine ⟨m3, h3, σ1, ⟨s1.ext E3, R3, P.st E3 A2.pr⟩, ?_⟩
              cases ee : te σ1 h3 with
              | exc c fs h4 => rw [ee] at o'; exact False.elim o'
              | stk => rw [ee] at o'; exact False.elim o'
              | ok t h4 =>
                rw [ee] at o'
                dsimp only at o'
                intro y' m4 H4 E4 rt R4
                obtain ⟨d4, n4⟩ := keepD (E3.trans E4)
                split at o'
                · rename_i hz
                  refine ⟨accV, d4, by rw [← racc.length]; exact hz, m4, h4, acc ++ [t], accV ++ [y'], ?_, R4.out d4 n4, upd_same, ?_, n4, o'⟩
                  · exact Ext.out (((E'.trans E2).trans E3).trans E4) hD
                  · have r4 := (((racc.ext E2).ext E3).ext E4).append (.cons rt .nil)
                    exact r4.tr (Tr.out d4)
                · exact False.elim o'
theorem dl_lc {elt : Expr} {ifs : List Expr} {scope : Scope} {own : List (Str × Nat)} {is : List Nat} {g : SG} {tt : ST} {te : SE} (hc : X.calm = true) (hN : X.N.Nodup) (hi : DI X P W tg iter si) (ok : BlkOk X.N X.env.scope scope own)
    (hg : ∀ (s : Shared) (H : Hp) (C : Addr) (cl : List (Str × Addr)) (fp : List Addr), DG (X.blk s H scope (compEnvC scope cl C X.env) fp) P tg is g)
    (ht : ∀ (s : Shared) (H : Hp) (C : Addr) (cl : List (Str × Addr)) (fp : List Addr), DTs (X.blk s H scope (compEnvC scope cl C X.env) fp) P WF ifs tt)
    (he : ∀ (s : Shared) (H : Hp) (C : Addr) (cl : List (Str × Addr)) (fp : List Addr), DE (X.blk s H scope (compEnvC scope cl C X.env) fp) P WF elt te)
    (his : ∀ i ∈ is, i ∈ own.map (·.2) := by decide) (hs : ∀ x, foldedSetIterable iter X.env x = pure x := by intro _; rfl) :
    DL X P W (.ListComp elt [⟨tg, iter, ifs, 0⟩] scope pos) (saLc si g tt te (own.map (·.2))) := by
  exact PE.imp (pe_lc (own := own) (wi := tG X.K X.mg (SrcJ X.K X.mg) P W si) (g := tTg X.K X.mg P is g) (tt := tTst X.K X.mg P WF tt) (te := tI X.K X.mg P WF te) hc hN hi ok hg ht he hs) fun σV H Q h => lc_read his h
theorem lc_keep {sa : SA} {σV : L2.St} {H : Hp} {Q : VK} (h : tI X.K X.mg P W (sLc sa) σV H Q) : tL X.K X.mg P W sa σV H Q := by
  obtain ⟨m, h, σ, A, o⟩ := h
  refine ⟨m, h, σ, A, ?_⟩
  unfold sLc at o
  cases e : sa σ h with
  | exc c fs h1 => rw [e] at o; exact o
  | stk => rw [e] at o; exact o
  | ok ts h1 =>
    rw [e] at o
    rintro v m1 H1 E1 ⟨D, vs, rfl, hD, d1, r1, n1⟩ R1
    have o' : Out X.K X.mg (RT X.K X.mg) W σV Q m H (alloc (.lst ts) h1) := o
    have hne : ∀ l a, m1 l = some a → l ≠ h1.length := fun l a e => Nat.ne_of_lt (R1.dom l a e)
    have E2 : Ext m H (m1.put h1.length D) H1 := ⟨fun l a e => by rw [Mp.put_ne (hne l a (E1.mono l a e))]; exact E1.mono l a e, fun l a e => by
        by_cases hl : l = h1.length
        · subst hl; rw [Mp.put_same] at e; cases e; exact .inr hD
        · rw [Mp.put_ne hl] at e; exact E1.fresh l a e, E1.live, E1.keep, E1.tups, E1.frzs, E1.xds⟩
    have T2 : Tr m1 H1 (m1.put h1.length D) H1 := ⟨fun l a e => by rw [Mp.put_ne (hne l a e)]; exact e, fun _ _ q => q, fun _ _ _ q => q⟩
    refine o' _ (m1.put h1.length D) H1 E2 (.ref Mp.put_same) ⟨fun l a e => ?_, fun l l' a e e' => ?_, fun l u q => ?_⟩
    · rw [List.length_append, List.length_singleton]
      by_cases hl : l = h1.length
      · omega
      · rw [Mp.put_ne hl] at e; have := R1.dom l a e; omega
    · by_cases hl : l = h1.length
      · by_cases hl' : l' = h1.length
        · rw [hl, hl']
        · rw [hl, Mp.put_same] at e; cases e
          rw [Mp.put_ne hl'] at e'
          exact absurd e' (n1 l')
      · by_cases hl' : l' = h1.length
        · rw [hl', Mp.put_same] at e'; cases e'
          rw [Mp.put_ne hl] at e
          exact absurd e (n1 l)
        · rw [Mp.put_ne hl] at e; rw [Mp.put_ne hl'] at e'
          exact R1.inj l l' a e e'
    · by_cases hl : l < h1.length
      · rw [List.getElem?_append_left hl] at q
        obtain ⟨a, e1, r⟩ := R1.ob l u q
        exact ⟨a, T2.mono l a e1, r.moveT T2 rfl⟩
      · have : l = h1.length := by
          have := (List.getElem?_eq_some_iff.mp q).1
          rw [List.length_append, List.length_singleton] at this
          omega
        subst this
        simp at q
        subst q
        exact ⟨D, Mp.put_same, vs, d1, r1.tr T2⟩
end
end W3
end

section
namespace W3
open PySem PySem.Spec PyProof.Rows
open L2
section
variable (K : PySem.W.Frag) (mg : Str → Option Value)
def OutS (W : WX) (D : Ends) (m : Mp) (H : Hp) : Flo → Prop
  | .nx σ' h' => ∀ σV' m' H', Ext m H m' H' → SR K mg m' H' σ' σV' → HR K mg m' h' H' → D.nx σV' H'
  | .rt t h' => ∀ v m' H', Ext m H m' H' → RT K mg m' H' t v → HR K mg m' h' H' → D.rt v H'
  | .bk σ' h' => ∀ σV' m' H', Ext m H m' H' → SR K mg m' H' σ' σV' → HR K mg m' h' H' → D.bk σV' H'
  | .ct σ' h' => ∀ σV' m' H', Ext m H m' H' → SR K mg m' H' σ' σV' → HR K mg m' h' H' → D.ct σV' H'
  | .exc c fs σ' h' => ∀ cls d σV' m' H', Ext m H m' H' → SR K mg m' H' σ' σV' → XR K mg m' H' c fs cls d → HR K mg m' h' H' → W cls d σV' H'
  | .stk => False
def tS (P : Pq) (W : WX) (ss : SS) : TS := fun D σV H => ∃ m h σ, At K mg P m H σV σ h ∧ OutS K mg W D m H (ss σ h)
end
abbrev DS (X : Cx) (P : Pq) (W : WX) (st : Stmt) (ss : SS) : Prop := PS X st (tS X.K X.mg P W ss)
abbrev DSs (X : Cx) (P : Pq) (W : WX) (st : List Stmt) (ss : SS) : Prop := PSs X st (tS X.K X.mg P W ss)
section
variable {K : PySem.W.Frag} {mg : Str → Option Value} {m m' : Mp} {H H' : Hp} {h : Hh} {P : Pq} {W : WX} {σV : L2.St} {σ : St3} {D : Ends}
theorem OutS.ext {r : Flo} (E : Ext m H m' H') (o : OutS K mg W D m H r) : OutS K mg W D m' H' r := by
  cases r with
  | nx σ h => exact fun v m2 H2 E2 => o v m2 H2 (E.trans E2)
  | rt σ h => exact fun v m2 H2 E2 => o v m2 H2 (E.trans E2)
  | bk σ h => exact fun v m2 H2 E2 => o v m2 H2 (E.trans E2)
  | ct σ h => exact fun v m2 H2 E2 => o v m2 H2 (E.trans E2)
  | exc c fs σ h => exact fun c d v m2 H2 E2 => o c d v m2 H2 (E.trans E2)
  | stk => exact o
theorem At.flo {α β : Type} {rel1 : Mp → Hp → α → β → Prop} {se : St3 → Hh → Res α} {k : α → Hh → Flo} {Q1 : β → Hp → Prop} (A : At K mg P m H σV σ h) (o : OutS K mg W D m H ((se σ h).flo σ k))
    (q : ∀ m1 h1 a b H1, Ext m H m1 H1 → rel1 m1 H1 a b → At K mg P m1 H1 σV σ h1 → OutS K mg W D m1 H1 (k a h1) → Q1 b H1) : tG K mg rel1 P W se σV H Q1 := by
  refine ⟨m, h, σ, A, ?_⟩
  cases e : se σ h with
  | ok a h1 =>
    rw [e] at o
    exact fun b m1 H1 E1 r1 R1 => q m1 h1 a b H1 E1 r1 (A.ext E1 R1) (OutS.ext E1 o)
  | exc c fs h1 =>
    rw [e] at o
    exact fun cls d m1 H1 E1 x R1 => o cls d σV m1 H1 E1 (A.sr.ext E1) x R1
  | stk => rw [e] at o; exact o
end
section
variable {X : Cx} {P : Pq} {W : WX} {a b c tg iter : Expr} {sa sb sc : SE} {pos pos' : Pos} {es : List Expr} {ar : SA} {si : SI} {ta tb : ST} {st : Stmt} {rest body : List Stmt} {x1 x2 : SS}
theorem ds_nil : DSs X P W [] ssNil := PSs.imp pss_nil fun D σV H ⟨m, h, σ, A, o⟩ => o σV m H (Ext.refl _ _) A.sr A.hr
theorem ds_cons (h1 : DS X P W st x1) (h2 : DSs X P W rest x2) : DSs X P W (st :: rest) (ssCons x1 x2) := PSs.imp (pss_cons h1 h2) fun D σV H ⟨m, h, σ, A, o⟩ => by
  refine ⟨m, h, σ, A, ?_⟩
  have o' : OutS X.K X.mg W D m H ((x1 σ h).seq x2) := o
  cases e : x1 σ h with
  | nx σ1 h1 =>
    rw [e] at o'
    exact fun σV1 m1 H1 E1 s1 R1 => ⟨m1, h1, σ1, ⟨s1, R1, P.st E1 A.pr⟩, OutS.ext E1 o'⟩
  | rt t h1 => rw [e] at o'; exact o'
  | bk σ1 h1 => rw [e] at o'; exact o'
  | ct σ1 h1 => rw [e] at o'; exact o'
  | exc c fs σ1 h1 => rw [e] at o'; exact o'
  | stk => rw [e] at o'; exact o'
theorem ds_if {p q : List Stmt} (hc : DT X P W c ta) (ha : DSs X P W p x1) (hb : DSs X P W q x2) : DS X P W (.If c p q pos) (ssIf ta x1 x2) := PS.imp (ps_if hc ha hb) fun D σV H ⟨m, h, σ, A, o⟩ => by
  refine A.flo (rel1 := fun _ _ a b => a = b) o fun m1 h1 t x H1 E1 r A1 o1 => ?_
  subst r
  cases t with
  | true => exact ⟨m1, h1, σ, A1, o1⟩
  | false => exact ⟨m1, h1, σ, A1, o1⟩
theorem ds_ret (ha : DE X P W a sa) : DS X P W (.Return (some a) pos) (ssRet sa) := PS.imp (ps_ret ha) fun D σV H ⟨m, h, σ, A, o⟩ => by
  refine A.flo (rel1 := RT X.K X.mg) o fun m1 h1 t x H1 E1 r A1 o1 => ?_
  exact o1 x m1 H1 (Ext.refl _ _) r A1.hr
theorem ds_expr (ha : DE X P W a sa) (hs : swapsWith a none pos.line X.env = pure false := by rfl) : DS X P W (.Expr a pos) (ssExpr sa) := PS.imp (ps_expr ha hs) fun D σV H ⟨m, h, σ, A, o⟩ => by
  refine A.flo (rel1 := RT X.K X.mg) o fun m1 h1 t x H1 E1 r A1 o1 => ?_
  exact o1 σV m1 H1 (Ext.refl _ _) A1.sr A1.hr
theorem asg_read {is : List Nat} {g : SG} {D : Ends} {σV : L2.St} {H : Hp} (h : tS X.K X.mg P W (ssAsg sa g) D σV H) : tAsg (tI X.K X.mg P W sa) (tTg X.K X.mg P is g) D σV H := by
  obtain ⟨m, h, σ, A, o⟩ := h
  refine A.flo (rel1 := RT X.K X.mg) o fun m1 h1 t x H1 E1 r A1 o1 => ?_
  refine ⟨m1, h1, σ, t, A1, r, ?_⟩
  cases e : g t σ with
  | none => rw [e] at o1; exact o1
  | some σ' => rw [e] at o1; exact fun σV' s' _ => o1 σV' m1 H1 (Ext.refl _ _) s' A1.hr
theorem ds_asg {is : List Nat} {g : SG} (ha : DE X P W a sa) (hg : DG X P tg is g) (hs : swapsWithSole [tg] a pos.line X.env = pure false := by rfl) (hw : swappedStores [tg] a X.env = pure none := by rfl)
    (h1 : (assignEach [tg] X.env).map (·.2) = [assign tg X.env] := by rfl) : DS X P W (.Assign [tg] a pos) (ssAsg sa g) := PS.imp (ps_asg ha hg hs hw h1) fun D σV H h => asg_read h
theorem ds_set {i : Nat} {x : Str} (hN : X.N.Nodup) (hi : X.N[i]? = some x) (hx : Loc X.env.scope x) (ha : DE X P W a sa) (hs : swapsWith a (some (.Name x pos')) pos.line X.env = pure false := by rfl) (hf : X.fn x = true ∨ X.env.scope.names.lookup x = some .local := by first | exact .inl rfl | exact .inr rfl | assumption) :
    DS X P W (.Assign [.Name x pos'] a pos) (ssAsg sa (sgName i)) := PS.imp (ps_set hN hi hx ha hs hf) fun D σV H ⟨m, h, σ, A, o⟩ => by
  refine A.flo (rel1 := RT X.K X.mg) o fun m1 h1 t x H1 E1 r A1 o1 => ?_
  exact o1 _ m1 H1 (Ext.refl _ _) (A1.sr.set r i) A1.hr
theorem ds_setLc {i : Nat} {y : Str} {py : Pos} {elt : Expr} {ifs : List Expr} {scope : Scope} {own : List (Str × Nat)} {spos : Pos} {is : List Nat} {g : SG} {tt : ST} {te : SE} (hc : X.calm = true) (hN : X.N.Nodup) (hy : X.N[i]? = some y) (hyl : X.env.scope.names.lookup y = some .local)
    (hsw : swapsWith (.ListComp elt [⟨tg, iter, ifs, 0⟩] scope pos) (some (.Name y py)) spos.line X.env = pure true) (hi : DI X P W tg iter si) (ok : BlkOk X.N X.env.scope scope own)
    (hg : ∀ (s : Shared) (H : Hp) (C : Addr) (cl : List (Str × Addr)) (fp : List Addr), DG (X.blk s H scope (compEnvC scope cl C X.env) fp) P tg is g)
    (ht : ∀ (s : Shared) (H : Hp) (C : Addr) (cl : List (Str × Addr)) (fp : List Addr), DTs (X.blk s H scope (compEnvC scope cl C X.env) fp) P WF ifs tt)
    (he : ∀ (s : Shared) (H : Hp) (C : Addr) (cl : List (Str × Addr)) (fp : List Addr), DE (X.blk s H scope (compEnvC scope cl C X.env) fp) P WF elt te)
    (his : ∀ i ∈ is, i ∈ own.map (·.2) := by decide) (hs : ∀ x, foldedSetIterable iter X.env x = pure x := by intro _; rfl) :
    DS X P W (.Assign [.Name y py] (.ListComp elt [⟨tg, iter, ifs, 0⟩] scope pos) spos) (ssAsg (sLc (saLc si g tt te (own.map (·.2)))) (sgName i)) := by
  refine PS.imp (ps_setLc (own := own) (i := i) (wi := tG X.K X.mg (SrcJ X.K X.mg) P W si) (g := tTg X.K X.mg P is g) (tt := tTst X.K X.mg P WF tt) (te := tI X.K X.mg P WF te) hc hN hy hyl hsw hi ok hg ht he hs) fun D σV H h => ?_
  refine lc_read his (lc_keep ?_)
  obtain ⟨m, h, σ, A, o⟩ := h
  refine A.flo (rel1 := RT X.K X.mg) o fun m1 h1 t x H1 E1 r A1 o1 => ?_
  exact o1 _ m1 H1 (Ext.refl _ _) (A1.sr.set r i) A1.hr
theorem ds_fld {o v : Expr} {so sv : SE} {f : Str} {cs : List (Str × List Str)} (C : ClsF X.K X.mg cs) (ho : DE X P W o so) (hv : DE X P W v sv) (hs : swapsWith v (some (.Attribute o f pos')) pos.line X.env = pure false := by rfl) :
    DS X P W (.Assign [.Attribute o f pos'] v pos) (ssFldC cs so sv f) := PS.imp (ps_fld ho hv hs) fun D σV H ⟨m, h, σ, A, o⟩ => by
  refine A.flo (rel1 := RT X.K X.mg) o fun m1 h1 t1 y H1 E1 r1 A1 o1 => ?_
  refine A1.flo (rel1 := RT X.K X.mg) o1 fun m2 h2 t2 x H2 E2 r2 A2 o2 => ?_
  cases r2 with
  | @ref l a e1 =>
    have o' : OutS X.K X.mg W D m2 H2 (match insAt h2 l with
      | some (c, fs) => (match cs.lookup c with
        | some as => if as.contains f && decide (fs.length < 1000) then .nx σ (h2.set l (.ins c (putT f t1 fs))) else .stk
        | none => .stk)
      | none => .stk) := o2
    split at o'
    · rename_i c fs q1
      obtain ⟨Ca, dx, fv, g1, g2, rf⟩ := A2.hr.ins e1 q1
      split at o'
      · rename_i as q2
        split at o'
        · rename_i hc
          rw [Bool.and_eq_true, decide_eq_true_eq] at hc
          obtain ⟨k1, k2⟩ := C c as Ca (mem_of_lookup q2) g1
          refine ⟨a, Ca, dx, fv, rfl, g2, k1, k2 f (by simpa using hc.1), by rw [← rf.length]; exact hc.2, ?_⟩
          have Ew : Ext m2 H2 m2 (upd H2 a (.ins Ca dx (putF f y fv))) := Ext.write A2.hr e1
          refine o' σV m2 _ Ew (A2.sr.ext Ew) (A2.hr.write e1 ⟨Ca, dx, _, g1, upd_same, ?_⟩)
          exact (rf.put (r1.ext E2)).ext Ew
        · exact False.elim o'
      · exact False.elim o'
    · exact False.elim o'
  | _ => exact False.elim o2
end
end W3
end

section
namespace W3
open PySem PySem.Spec PyProof.Rows
open L2
section
variable {X : Cx} {P : Pq} {W : WX} {a b c tg iter : Expr} {sa sb sc : SE} {pos pos' : Pos} {es : List Expr} {ar : SA} {si : SI} {ta tb : ST} {st : Stmt} {rest body : List Stmt} {x1 x2 : SS}
theorem ds_for {is : List Nat} {g : SG} (hp : PassesOwn (model X.prog X.w) X.A X.env X.xe) (hc : X.calm = true) (hi : DI X P W tg iter si) (hg : DG X P tg is g) (hb : DSs X P W body x1)
    (hs : ∀ x, foldedSetIterable iter X.env x = pure x := by intro _; rfl) : DS X P W (.For tg iter body [] pos) (ssFor si g x1) := PS.imp (ps_for hp hc hi hg hb hs) fun D σV H ⟨m, h, σ, A, o⟩ => by
  refine A.flo (rel1 := SrcJ X.K X.mg) o fun m1 h1 s J H1 E1 S A1 o1 => ?_
  refine ⟨fun i k σV' H' => ∃ m' h' σ', Ext m1 H1 m' H' ∧ At X.K X.mg P m' H' σV' σ' h' ∧ OutS X.K X.mg W D m1 H1 (forRun s g x1 k i σ' h'), ⟨s.len h1, m1, h1, σ, Ext.refl _ _, A1, o1⟩, ?_⟩
  rintro i k σV' H' ⟨m', h', σ', E', A', o'⟩
  unfold forRun at o'
  cases es : s.at h' i with
  | none => rw [es] at o'; exact False.elim o'
  | some ox =>
    cases ox with
    | none =>
      rw [es] at o'
      exact .inl ⟨S.stop m' h' H' i E'.tr A'.hr es, o' σV' m' H' E' A'.sr A'.hr⟩
    | some x =>
      rw [es] at o'
      cases k with
      | zero => exact False.elim o'
      | succ k =>
        obtain ⟨jg, jy⟩ := S.go m' h' H' i x E'.tr A'.hr es
        refine .inr ⟨jg, _, fun σV2 H'' q => ⟨k, Nat.lt_succ_self k, q⟩, fun y H2 hy => ?_⟩
        obtain ⟨E2, R2, rx⟩ := jy y H2 hy
        have A2 : At X.K X.mg P m' H2 σV' σ' h' := A'.ext E2 R2
        refine ⟨m', h', σ', x, A2, rx, ?_⟩
        dsimp only at o'
        cases eg : g x σ' with
        | none => rw [eg] at o'; exact False.elim o'
        | some σ1 =>
          rw [eg] at o'
          intro σV1 s1 _
          refine ⟨m', h', σ1, ⟨s1, R2, A2.pr⟩, ?_⟩
          dsimp only at o'
          have up : ∀ {r : Flo}, OutS X.K X.mg W D m1 H1 r → OutS X.K X.mg W D m' H2 r := fun q => OutS.ext (E'.trans E2) q
          cases eb : x1 σ1 h' with
          | nx σ2 h2 =>
            rw [eb] at o'
            exact fun σV3 m3 H3 E3 s3 R3 => ⟨m3, h2, σ2, (E'.trans E2).trans E3, ⟨s3, R3, P.st E3 A2.pr⟩, o'⟩
          | ct σ2 h2 =>
            rw [eb] at o'
            exact fun σV3 m3 H3 E3 s3 R3 => ⟨m3, h2, σ2, (E'.trans E2).trans E3, ⟨s3, R3, P.st E3 A2.pr⟩, o'⟩
          | bk σ2 h2 => rw [eb] at o'; exact up o'
          | rt t h2 => rw [eb] at o'; exact up (r := .rt t h2) o'
          | exc c fs σ2 h2 => rw [eb] at o'; exact up (r := .exc c fs σ2 h2) o'
          | stk => rw [eb] at o'; exact o'
theorem ds_sub {o i v : Expr} {so si' sv : SE} (ho : DE X P W o so) (hi : DE X P W i si') (hv : DE X P W v sv) (hs : swapsWithSole [.Subscript o i pos'] v pos.line X.env = pure false := by rfl) (hw : swappedStores [.Subscript o i pos'] v X.env = pure none := by rfl)
    (h1 : (assignEach [.Subscript o i pos'] X.env).map (·.2) = [assign (.Subscript o i pos') X.env] := by rfl)
    (ha : ∀ v, assign (.Subscript o i pos') X.env v = (do
      let ov ← holding [v] (eval o X.env)
      let iv ← holding [v, ov] (eval i X.env)
      standAt pos'
      holding [v, ov, iv] (setItem ov iv v)
      release [v, ov, iv] []) := by intro _; rfl) : DS X P W (.Assign [.Subscript o i pos'] v pos) (ssSub so si' sv) := by
  refine PS.imp (ps_asg hv (pg_sub ho hi set_list ha) hs hw h1) fun D σV H ⟨m, h, σ, A, o⟩ => ?_
  refine A.flo (rel1 := RT X.K X.mg) o fun m1 h1 t1 y H1 E1 r1 A1 o1 => ?_
  refine A1.flo (rel1 := RT X.K X.mg) o1 fun m2 h2 t2 x H2 E2 r2 A2 o2 => ?_
  refine A2.flo (rel1 := RT X.K X.mg) o2 fun m3 h3 t3 k H3 E3 r3 A3 o3 => ?_
  have r2' := r2.ext E3
  cases r2' with
  | @ref l a e1 =>
    cases r3 with
    | int n =>
      have o' : OutS X.K X.mg W D m3 H3 (match lstAt h3 l with
        | some ts => (match L2.ixN ts.length n with | some j => .nx σ (h3.set l (.lst (ts.set j t1))) | none => .stk)
        | none => .stk) := o3
      split at o'
      · rename_i ts q1
        obtain ⟨vs, g1, rv⟩ := A3.hr.lst e1 q1
        split at o'
        · rename_i j q2
          rw [rv.length] at q2
          refine ⟨a, vs, n, j, rfl, rfl, g1, q2, ?_⟩
          have Ew : Ext m3 H3 m3 (upd H3 a (.lst (vs.set j y))) := Ext.write A3.hr e1
          exact o' σV m3 _ Ew (A3.sr.ext Ew) (A3.hr.write e1 ⟨_, upd_same, ((rv.set j ((r1.ext E2).ext E3)).ext Ew)⟩)
        · exact False.elim o'
      · exact False.elim o'
    | _ => exact False.elim o3
  | _ => exact False.elim o3
theorem nx_append : NoXM mAppend := fun x y h c fs h' e => by unfold mAppend at e; (repeat' split at e) <;> cases e
def MtS (X : Cx) (id : String) (f : T → List T → Hh → Res T) : Prop :=
  ∀ (pins : List (Addr × Obj)) (s : Shared) (σ : L2.St) (H : Hp) (x : V) (xs : List V) (v : Value) (us : List Value) (Q : VK), L2.Inv X pins σ H s → RelV x v → Vals xs us → rPM X.K X.mg f x xs H Q →
    wpAny (model X.prog X.w) X.A (call (.builtin id) (v :: us)) (EP X pins σ Q) X.xe s
theorem ms_append : MtS X "list.append" mAppend := by
  intro pins s σ H x xs v us Q I rx rs ⟨m, h, t, ts, r, rr, R, o⟩
  cases r with
  | @ref l a e1 =>
    cases rr with
    | nil => exact False.elim o
    | cons r1 r2 =>
      cases r2 with
      | cons _ _ => exact False.elim o
      | nil =>
        rename_i t1 v1
        have o' : OutP X.K X.mg Q m H (match lstAt h l with
          | some ts => if ts.length < sizeLine then .ok .non (h.set l (.lst (ts ++ [t1]))) else .stk
          | none => .stk) := o
        split at o'
        · rename_i ts q1
          obtain ⟨vs, g1, rv⟩ := R.lst e1 q1
          split at o'
          · rename_i hz
            refine mt_append pins s σ H _ _ v us Q I rx rs ⟨a, vs, v1, rfl, rfl, g1, by rw [← rv.length]; exact hz, ?_⟩
            have Ew : Ext m H m (upd H a (.lst (vs ++ [v1]))) := Ext.write R e1
            exact o' .non m _ Ew .non (R.write e1 ⟨_, upd_same, (rv.append (.cons r1 .nil)).ext Ew⟩)
          · exact False.elim o'
        · exact False.elim o'
  | _ => exact False.elim o
end
end W3
end

section
namespace W3
open PySem PySem.Spec PyProof.Rows
open L2
section
variable {X : Cx} {P : Pq} {W : WX} {a b c o e : Expr} {sa sb sc so : SE} {pos pos' apos cpos p : Pos} {es : List Expr} {ar : SA}
theorem mt_read {f : T → List T → Hh → Res T} (hf : NoXM f) {σV : L2.St} {H : Hp} {Q : VK} (h : tI X.K X.mg P W (sMtL f so ar) σV H Q) :
    tI X.K X.mg P W so σV H fun x H1 => tyV X.K "list" x H1 ∧ tAr X.K X.mg P W ar σV H1 fun xs H2 => rPM X.K X.mg f x xs H2 Q := by
  obtain ⟨m, h, σ, A, o⟩ := h
  refine A.first (rel1 := RT X.K X.mg) o fun m1 h1 t x H1 E1 r A1 o1 => ?_
  split at o1
  · rename_i hl
    refine ⟨?_, ?_⟩
    · cases r with
      | @ref l a e1 =>
        have hl' : (lstAt h1 l).isSome = true := hl
        obtain ⟨ts, q⟩ := Option.isSome_iff_exists.mp hl'
        obtain ⟨vs, g, _⟩ := A1.hr.lst e1 q
        exact .inl ⟨rfl, vs, SqL.of g⟩
      | @fl a vs ts hq _ => exact .inl ⟨rfl, vs, hq.sq⟩
      | _ => cases hl
    · refine A1.first (rel1 := RTs X.K X.mg) o1 fun m2 h2 ts xs H2 E2 r2 A2 o2 => ?_
      exact ⟨m2, h2, t, ts, r.ext E2, r2, A2.hr, o2.outP (hf _ _ _)⟩
  · exact False.elim o1
theorem de_mt {id : String} {name : Str} {f : T → List T → Hh → Res T} (hm : MtS X id f) (hf : NoXM f) (pa : PlainAttrs "list") (slot : Slot "list" name id) (hty : typeOf (.builtin id) = pure (.type "method_descriptor")) (ho : DE X P W o so) (ha : DA X P W (e :: es) ar)
    (hbase : attributeBase o name X.env (eval o X.env) = eval o X.env := by rfl)
    (hfew : ((backTo cpos (starEach (e :: es) X.env)).all (fun x => !x.1) && (backToKw cpos (keywordEach [] X.env)).all (fun x => x.1.isSome)
      && decide ((e :: es).length + ([] : List Keyword).length + (if ([] : List Keyword).isEmpty then 0 else 1) < 30)) = true := by rfl)
    (hline : (apos.endLine == cpos.line) = true := by rfl) (hs : starEach (e :: es) X.env = (false, eval e X.env) :: starEach es X.env := by rfl) (hplain : (backTo cpos (starEach es X.env)).any (·.1) = false := by rfl) :
    DE X P W (.Call (.Attribute o name apos) (e :: es) [] cpos) (sMtL f so ar) :=
  PE.imp (pe_bm (r := rPM X.K X.mg f) pa slot hty hm ho ha hbase hfew hline hs hplain) fun σV H Q h => mt_read hf h
def spT (K : PySem.W.Frag) (mg : Str → Option Value) (n : Nat) (f : List T → Hh → Res T) : Sp := fun vs H Q E => vs.length = n ∧ ∃ m h ts, RTs K mg m H ts vs ∧ HR K mg m h H ∧
  (match f ts h with
    | .ok t h' => ∀ v m' H', Ext m H m' H' → RT K mg m' H' t v → HR K mg m' h' H' → Q v H'
    | .exc c fs h' => ∀ cls d m' H', Ext m H m' H' → XR K mg m' H' c fs cls d → HR K mg m' h' H' → E cls d H'
    | .stk => False)
theorem SR.start {K : PySem.W.Frag} {mg : Str → Option Value} {m : Mp} {H : Hp} {ts : List T} {vs : List V} (N : List Str) (r : RTs K mg m H ts vs) : SR K mg m H (startT N.length ts) (L2.start N vs) := by
  unfold startT L2.start
  rw [r.length]
  refine ⟨by rw [List.length_append, List.length_append, List.length_map, List.length_map, List.length_replicate, List.length_replicate, r.length], fun i t e => ?_⟩
  by_cases hi : i < vs.length
  · have hi' : i < ts.length := by rw [r.length]; exact hi
    rw [List.getElem?_append_left (by rw [List.length_map]; exact hi'), List.getElem?_map] at e
    cases q : ts[i]? with
    | none => rw [q] at e; cases e
    | some u =>
      rw [q] at e
      have e2 : u = t := Option.some.inj (Option.some.inj e)
      subst e2
      obtain ⟨v, q2, rv⟩ := r.get q
      exact ⟨v, by rw [List.getElem?_append_left (by rw [List.length_map]; exact hi), List.getElem?_map, q2]; rfl, rv⟩
  · rw [List.getElem?_append_right (by rw [List.length_map, r.length]; omega), List.getElem?_replicate] at e
    split at e
    · cases e
    · cases e
abbrev cxD (P : Program) (w : World) (K : PySem.W.Frag) (mg : Str → Option Value) (base : Heap) (N : List Str) (qual : Str) (sc : Scope) (f : Addr) (cdv : Value) (A : Around) (outer : List Env) (s : Shared) (H : Hp) (E : XK) : Cx :=
  cxOf (L2.CX P w) P w K mg base N qual sc f cdv A outer s H E
abbrev wD (E : XK) : WX := fun cls d _ H => E cls d H
theorem def_read {K : PySem.W.Frag} {mg : Str → Option Value} {N ps : List Str} {ss : SS} {vs : List V} {H : Hp} {Q : VK} {E : XK} (h : spT K mg ps.length (defRun N.length ss) vs H Q E) : tS K mg PqT (wD E) ss { nx := fun _ H' => Q .non H', rt := Q } (L2.start N vs) H := by
  obtain ⟨_, m, h, ts, r, R, o⟩ := h
  refine ⟨m, h, startT N.length ts, ⟨SR.start N r, R, trivial⟩, ?_⟩
  unfold defRun at o
  cases e : ss (startT N.length ts) h with
  | nx σ1 h1 => rw [e] at o; exact fun σV' m' H' E' _ R' => o .non m' H' E' .non R'
  | rt t h1 => rw [e] at o; exact o
  | exc c fs σ1 h1 => rw [e] at o; exact fun cls d _ m' H' E' _ x R' => o cls d m' H' E' x R'
  | bk σ1 h1 => rw [e] at o; exact False.elim o
  | ct σ1 h1 => rw [e] at o; exact False.elim o
  | stk => rw [e] at o; exact False.elim o
theorem fn_T {P : Program} {w : World} {K : PySem.W.Frag} {mg : Str → Option Value} {base : Heap} {x qual : Str} {st : Stmt} {f : Addr} {fd : FuncData} {N ps : List Str} {k : Nat} {ss : SS} (F : Fun K x qual st f fd) (S : FnScope N ps (defScope st))
    (hbody : ∀ (cdv : Value) (A : Around) (outer : List Env) (s : Shared) (H : Hp) (E : XK), Room k (cxD P w K mg base N qual (defScope st) f cdv A outer s H E).A → Takes (cxD P w K mg base N qual (defScope st) f cdv A outer s H E) (wD E) →
      PassesOwn (model P w) (cxD P w K mg base N qual (defScope st) f cdv A outer s H E).A (cxD P w K mg base N qual (defScope st) f cdv A outer s H E).env (cxD P w K mg base N qual (defScope st) f cdv A outer s H E).xe →
      DSs (cxD P w K mg base N qual (defScope st) f cdv A outer s H E) PqT (wD E) (defBody st) ss) : FnOk P w K mg base (L2.CX P w) (k + 1) f fd ps (spT K mg ps.length (defRun N.length ss)) :=
  F.okX S (fun vs H Q E h => h.1) fun cdv A outer s H vs Q E hr h => ⟨_, hbody cdv A outer s H E hr (takes_of rfl rfl rfl rfl) (passes_of rfl), def_read h⟩
theorem fn_TD {P : Program} {w : World} {K : PySem.W.Frag} {mg : Str → Option Value} {base : Heap} {x qual : Str} {params : Arguments} {body : List Stmt} {sc : Scope} {dvs : List V} {kws : List (Str × V)} {f : Addr} {fd : FuncData} {N ps : List Str} {k : Nat} {ss : SS}
    (F : FunD K x qual params body sc dvs kws f fd) (S : FnScope N ps sc)
    (hbody : ∀ (cdv : Value) (A : Around) (outer : List Env) (s : Shared) (H : Hp) (E : XK), Room k (cxD P w K mg base N qual sc f cdv A outer s H E).A → Takes (cxD P w K mg base N qual sc f cdv A outer s H E) (wD E) →
      PassesOwn (model P w) (cxD P w K mg base N qual sc f cdv A outer s H E).A (cxD P w K mg base N qual sc f cdv A outer s H E).env (cxD P w K mg base N qual sc f cdv A outer s H E).xe →
      DSs (cxD P w K mg base N qual sc f cdv A outer s H E) PqT (wD E) body ss) : FnOk P w K mg base (L2.CX P w) (k + 1) f fd ps (spT K mg ps.length (defRun N.length ss)) :=
  F.ok S (fun vs H Q E h => h.1) fun cdv A outer s H vs Q E hr h => ⟨_, hbody cdv A outer s H E hr (takes_of rfl rfl rfl rfl) (passes_of rfl), def_read h⟩
theorem de_call {x : Str} {k : Nat} {f : Addr} {fd : FuncData} {ps : List Str} {ff : List T → Hh → Res T} (F : FnOk X.prog X.w X.K X.mg X.base (L2.CX X.prog X.w) k f fd ps (spT X.K X.mg ps.length ff)) (hr : Room k X.A) (hg : Gl X x) (hm : X.mg x = some (.ref f))
    (hk : PySem.W.keepIn X.K (.ref f) = true) (hb : Binds X.K fd ps []) (tk : Takes X W) (ha : DA X P W (a :: es) ar) (hdb : (x == ("__debug__" : Str)) = false := by decide)
    (he : starEach (a :: es) X.env = (false, eval a X.env) :: starEach es X.env := by rfl) (hpl : (backTo pos (starEach es X.env)).any (·.1) = false := by rfl) :
    DE X P W (.Call (.Name x p) (a :: es) [] pos) (sCl (arN ps.length ff) ar) :=
  PE.imp (pe_callS F hr hg hm hk hb (fun σ => passAt tk σ) ha hdb he hpl) fun σV H Q ⟨m, h, σ, A, o⟩ => by
    refine A.first (rel1 := RTs X.K X.mg) o fun m1 h1 ts xs H1 E1 r A1 o1 => ?_
    unfold arN at o1
    split at o1
    · rename_i hl
      refine ⟨by rw [← r.length]; exact hl, m1, h1, ts, r, A1.hr, ?_⟩
      cases e : ff ts h1 with
      | ok t h2 => rw [e] at o1; exact o1
      | exc c fs h2 => rw [e] at o1; exact o1
      | stk => rw [e] at o1; exact o1
    · exact False.elim o1
theorem call_end {pins : List (Addr × Obj)} {σ : L2.St} {H : Hp} {s s' : Shared} {Q : VK} {r : Result} (I : L2.Inv X pins σ H s) (tk : Takes X W)
    (hq : CR (L2.CX X.prog X.w) X.stack X.prog X.w H s Q (WE W σ) r s') : match r with | .ok (.ret u) => EP X pins σ Q u s' | .error e => X.xe e s' | .ok _ => False := by
  cases r with
  | error e => exact passAt tk σ pins H s e s' I hq
  | ok fl =>
    cases fl with
    | ret u => exact I.after hq
    | next => exact hq
    | brk => exact hq
    | cont => exact hq
theorem spT_of {m : Mp} {H : Hp} {h : Hh} {σV : L2.St} {Q : VK} {ff : List T → Hh → Res T} {ts : List T} {vs : List V} {n : Nat} (hl : vs.length = n) (r : RTs X.K X.mg m H ts vs) (R : HR X.K X.mg m h H)
    (o : Out X.K X.mg (RT X.K X.mg) W σV Q m H (ff ts h)) : spT X.K X.mg n ff vs H Q (WE W σV) := by
  refine ⟨hl, m, h, ts, r, R, ?_⟩
  cases e : ff ts h with
  | ok t h2 => rw [e] at o; exact o
  | exc c fs h2 => rw [e] at o; exact o
  | stk => rw [e] at o; exact o
theorem RTs.weave {K : PySem.W.Frag} {mg : Str → Option Value} {m : Mp} {H : Hp} : ∀ (pat : List Bool) {ds zs : List T} {dv zv : List V}, RTs K mg m H ds dv → RTs K mg m H zs zv → RTs K mg m H (weave pat ds zs) (weave pat dv zv)
  | [], _, _, _, _, _, _ => .nil
  | true :: r, _, _, _, _, d, .cons q z => .cons q (RTs.weave r d z)
  | true :: _, _, _, _, _, _, .nil => .nil
  | false :: r, _, _, _, _, .cons q d, z => .cons q (RTs.weave r d z)
  | false :: _, _, _, _, _, .nil, _ => .nil
theorem Vals.weave : ∀ (pat : List Bool) {ds zs : List V} {dv zv : List Value}, Vals ds dv → Vals zs zv → Vals (W3.weave pat ds zs) (W3.weave pat dv zv)
  | [], _, _, _, _, _, _ => .nil
  | true :: r, _, _, _, _, d, .cons q z => .cons q (Vals.weave r d z)
  | true :: _, _, _, _, _, _, .nil => .nil
  | false :: r, _, _, _, _, .cons q d, z => .cons q (Vals.weave r d z)
  | false :: _, _, _, _, _, .nil, _ => .nil
abbrev DK (X : Cx) (P : Pq) (W : WX) (kws : List Keyword) (se : SA) : Prop := PK X kws (tAr X.K X.mg P W se)
theorem PK.imp {kws : List Keyword} {t t' : TA} (h : PK X kws t) (k : ∀ σ H Q, t' σ H Q → t σ H Q) : PK X kws t' := ⟨fun pos pins s σ H Q I hw => h.run pos pins s σ H Q I (k _ _ _ hw)⟩
theorem dk_nil : DK X P W [] saNil := PK.imp pk_nil fun σV H Q ⟨m, h, σ, A, o⟩ => o [] m H (Ext.refl _ _) .nil A.hr
theorem dk_cons {kws : List Keyword} {nm : Option Str} {kpos : Pos} (ha : DE X P W a sa) (hr : DK X P W kws ar) : DK X P W (⟨nm, a, kpos⟩ :: kws) (saCons sa ar) :=
  PK.imp (pk_cons ha hr) fun σV H Q ⟨m, h, σ, A, o⟩ => by
    refine A.first (rel1 := RT X.K X.mg) o fun m1 h1 t1 x H1 E1 r1 A1 o1 => ?_
    refine A1.first (rel1 := RTs X.K X.mg) o1 fun m2 h2 t2 y H2 E2 r2 A2 o2 => ?_
    exact o2 _ m2 H2 (Ext.refl _ _) (.cons (r1.ext E2) r2) A2.hr
def KBw (K : PySem.W.Frag) (fd : FuncData) (ps : List Str) (n : Nat) (ks : List Str) (pat : List Bool) (dv : List V) : Prop :=
  ∃ mv : List Value, KBn K fd ps n ks (fun us ws => us ++ weave pat mv ws) (fun vs zs => vs ++ weave pat dv zs)
end
end W3
end

section
namespace W3
open PySem PySem.Spec PyProof.Rows
open L2
section
variable {X : Cx} {P : Pq} {W : WX} {a b c o e : Expr} {sa sb sc so : SE} {pos pos' apos cpos p : Pos} {es : List Expr} {ar : SA}
theorem make_read {m : Mp} {H : Hp} {h : Hh} {σV : L2.St} {Q : VK} {ff : List T → Hh → Res T} {ts : List T} {vs : List V} {n : Nat} {cn : Str} {C : Addr} (hC : X.mg cn = some (.ref C)) (r : RTs X.K X.mg m H ts vs) (R : HR X.K X.mg m h H)
    (o : Out X.K X.mg (RT X.K X.mg) W σV Q m H (bMake cn n ff ts h)) {x dx : Addr} (nx : H x = none) (nd : H dx = none) (ne : dx ≠ x) :
    spT X.K X.mg n ff (.ref x :: vs) (upd (upd H dx (.own x)) x (.ins C dx [])) (fun v H2 => v = .non ∧ Q (.ref x) H2) (WE W σV) := by
  have R1 : HR X.K X.mg m h (upd H dx (.own x)) := R.garbage nd
  have nx1 : upd H dx (.own x) x = none := by rw [upd_ne ne.symm]; exact nx
  have E1 : Ext m H m (upd H dx (.own x)) := Ext.garbage R nd
  have E2 : Ext m (upd H dx (.own x)) (m.put h.length x) (upd (upd H dx (.own x)) x (.ins C dx [])) := Ext.alloc R1 nx1
  have R2 : HR X.K X.mg (m.put h.length x) (h ++ [.ins cn []]) (upd (upd H dx (.own x)) x (.ins C dx [])) := R1.alloc nx1 ⟨C, dx, [], hC, upd_same, .nil⟩
  have E12 := E1.trans E2
  unfold bMake arN at o
  by_cases hl : (T.ref h.length :: ts).length = n
  · rw [if_pos hl] at o
    have r2 : RTs X.K X.mg (m.put h.length x) (upd (upd H dx (.own x)) x (.ins C dx [])) (.ref h.length :: ts) (.ref x :: vs) := .cons (.ref Mp.put_same) (r.ext E12)
    refine ⟨by rw [← r2.length]; exact hl, m.put h.length x, h ++ [.ins cn []], .ref h.length :: ts, r2, R2, ?_⟩
    cases e : ff (.ref h.length :: ts) (h ++ [.ins cn []]) with
    | stk => rw [e] at o; exact o
    | exc c fs h2 => rw [e] at o; exact fun cls d m' H' E' xr R' => o cls d m' H' (E12.trans E') xr R'
    | ok t h2 =>
      rw [e] at o
      intro v m' H' E' rv R'
      cases rv with
      | non => exact ⟨rfl, o (.ref x) m' H' (E12.trans E') (.ref (E'.mono _ _ Mp.put_same)) R'⟩
      | _ => exact False.elim o
  · rw [if_neg hl] at o; exact False.elim o
def bMakeK (c : Str) (q n : Nat) (pat : List Bool) (ds : List T) (f : List T → Hh → Res T) (a kw : SA) : SE := fun σ h => (a σ h).bind fun xs h1 => (kw σ h1).bind fun zs h2 => if xs.length = n ∧ zs.length = q then bMake c (n + 1 + pat.length) f (xs ++ weave pat ds zs) h2 else .stk
theorem de_makeK {x : Str} {k n : Nat} {f C : Addr} {fd : FuncData} {ps ks : List Str} {pat : List Bool} {dv : List V} {dt : List T} {kws : List Keyword} {kw : SA} {ff : List T → Hh → Res T} (M : Mk X.K C f)
    (F : FnOk X.prog X.w X.K X.mg X.base (L2.CX X.prog X.w) k f fd ps (spT X.K X.mg ps.length ff)) (hr : Room (k + 1) X.A) (hg : Gl X x) (hm : X.mg x = some (.ref C))
    (hb : KBw X.K fd ps (n + 1) ks pat dv) (hd : ∀ m H, RTs X.K X.mg m H dt dv) (tk : Takes X W) (ha : DA X P W (a :: es) ar) (hkw : DK X P W kws kw) (hn : n + 1 + pat.length = ps.length)
    (hall : (backToKw pos (keywordEach kws X.env)).all (·.1.isSome) = true := by rfl) (hks : (backToKw pos (keywordEach kws X.env)).filterMap (·.1) = ks := by rfl)
    (hdb : (x == ("__debug__" : Str)) = false := by decide) (he : starEach (a :: es) X.env = (false, eval a X.env) :: starEach es X.env := by rfl)
    (hpl : ((backTo pos (starEach (a :: es) X.env)).any (·.1) || (backToKw pos (keywordEach kws X.env)).any (·.1.isNone)) = false := by rfl) :
    DE X P W (.Call (.Name x p) (a :: es) kws pos) (bMakeK x ks.length n pat dt ff ar kw) := by
  obtain ⟨mv, hb⟩ := hb
  refine ⟨fun pins s σV H Q I ⟨m, h, σ, A, o⟩ => ?_⟩
  refine wpAny_Call_Name_kw (ld_glob I hg hm ?_ hdb)
  have first := A.first (rel1 := RTs X.K X.mg) o fun m1 h1 ts vs H1 E1 r1 A1 o1 =>
    (⟨m1, h1, ts, r1, A1, o1⟩ : ∃ m1 h1 ts, RTs X.K X.mg m1 H1 ts vs ∧ At X.K X.mg P m1 H1 σV σ h1 ∧ Out X.K X.mg (RT X.K X.mg) W σV Q m1 H1 ((kw σ h1).bind fun zs h2 => if ts.length = n ∧ zs.length = ks.length then bMake x (n + 1 + pat.length) ff (ts ++ weave pat dt zs) h2 else .stk))
  refine PySem.W.callWith_KW (h₀ := X.base) I.ok.mod.kin M.kp hall (thn (ha.run pos pins s σV H _ I first) fun us s1 ⟨vs, H1, I1, r, m1, h1, ts, r1, A1, o1⟩ => ?_) hpl he
  have second := A1.first (rel1 := RTs X.K X.mg) o1 fun m2 h2 zt zv H2 E2 r2 A2 o2 =>
    (⟨m2, h2, zt, r1.ext E2, r2, A2, o2⟩ : ∃ m2 h2 zt, RTs X.K X.mg m2 H2 ts vs ∧ RTs X.K X.mg m2 H2 zt zv ∧ At X.K X.mg P m2 H2 σV σ h2 ∧ Out X.K X.mg (RT X.K X.mg) W σV Q m2 H2 (if ts.length = n ∧ zt.length = ks.length then bMake x (n + 1 + pat.length) ff (ts ++ weave pat dt zt) h2 else .stk))
  refine thn (hkw.run pos pins s1 σV H1 _ I1 second) fun ws s2 ⟨zv, H2, I2, rz, m2, h2, zt, r1, r2, A2, o2⟩ => ⟨I2.kIn, ?_⟩
  rw [hks]
  split at o2
  · rename_i hl
    have l1 : vs.length = n := by rw [← r1.length]; exact hl.1
    have l2 : zv.length = ks.length := by rw [← r2.length]; exact hl.2
    rw [hn] at o2
    have hq := make_read hm (r1.append (RTs.weave pat (hd m2 H2) r2)) A2.hr o2 (I2.hok.fresh (Nat.le_succ _)) (I2.hok.fresh (Nat.le_refl _)) (Nat.ne_of_lt (Nat.lt_succ_self s2.heap.objs.size))
    have I3 := Inv.made (C := C) I2
    have rr := hb.rel (Paired.cons (show RelV (V.ref (s2.heap.objs.size + 1)) (Value.ref (s2.heap.objs.size + 1)) from rfl) r) rz
    have bt := hb.to _ (Value.ref (s2.heap.objs.size + 1) :: us) ws I3.kIn (by rw [List.length_cons, ← r.length, l1]) (rz.length.symm.trans l2)
    refine wpAny_call (make_map (f := f) I2.kIn M.makes M.init (beq_iff_eq.mp M.fn) (codeAny_mono (F.run _ X.stack _ _ ⟨Value.ref (s2.heap.objs.size + 1) :: us, ks.zip ws⟩ _ _ _ (WE W σV) (hr.make C us (ks.zip ws))
      (I3.env0.make C us (ks.zip ws)) bt rr hq) fun res s' hq' => ?_))
    have fin := call_end I3 tk hq'
    cases res with
    | error e => exact fin
    | ok fl =>
      cases fl with
      | ret u =>
        obtain ⟨v, H', I4, rv, ev, q3⟩ := fin
        subst ev
        exact ⟨rv, ⟨V.ref (s2.heap.objs.size + 1), H', I4, rfl, q3⟩⟩
      | next => exact fin
      | brk => exact fin
      | cont => exact fin
  · exact False.elim o2
end
end W3
end

section
namespace W3
open PySem PySem.Spec PyProof.Rows
open L2
def Kd.nm : Kd → String
  | .int => "int" | .bool => "bool" | .str => "str" | .tuple => "tuple" | .list => "list" | .dict => "dict"
section
variable {X : Cx} {P : Pq} {W : WX} {a b c o e : Expr} {sa sb sc so : SE} {pos pos' apos cpos p p2 : Pos} {es : List Expr} {ar : SA}
theorem ty_of {m : Mp} {H : Hp} {h : Hh} {t : T} {v : V} {k : Kd} {r : Bool} (R : HR X.K X.mg m h H) (q : RT X.K X.mg m H t v) (e : isK k t h = some r) : ∃ n : String, TyX X.K H v (.type n) ∧ kitB n k.nm = some r := by
  cases q with
  | non => exact ⟨_, .base .non, by cases e; cases k <;> decide +kernel⟩
  | bl b => exact ⟨_, .base (.bl b), by cases e; cases k <;> decide +kernel⟩
  | int b => exact ⟨_, .base (.int b), by cases e; cases k <;> decide +kernel⟩
  | str b => exact ⟨_, .base (.str _), by cases e; cases k <;> decide +kernel⟩
  | @tup a vs ts hq _ =>
    refine ⟨"tuple", ?_, by cases e; cases k <;> decide +kernel⟩
    rcases hq with ⟨ob, z, _⟩ | ⟨ob, its, n, hk, hc, _⟩
    · exact .fTuple z
    · exact .kTuple hk hc
  | @fl a vs ts hq _ =>
    refine ⟨"list", ?_, by cases e; cases k <;> decide +kernel⟩
    rcases hq with ⟨ob, z⟩ | ⟨ob, its, n, hk, hc, _⟩
    · exact .base (.frz z)
    · exact .kList hk hc
  | @ref l a e1 =>
    have e' : (match h[l]? with
      | some (.lst _) => some (k == .list)
      | some (.dic _) => some (k == .dict)
      | some (.ins _ _) => none
      | none => none) = some r := e
    split at e'
    · rename_i ts q1
      obtain ⟨b, e2, vs, g, _⟩ := R.ob l _ q1
      rw [e1] at e2; cases e2
      exact ⟨"list", .base (.lst g), by cases e'; cases k <;> decide +kernel⟩
    · rename_i ts q1
      obtain ⟨b, e2, _, g, _⟩ := R.ob l _ q1
      rw [e1] at e2; cases e2
      exact ⟨"dict", .base (.dK g), by cases e'; cases k <;> decide +kernel⟩
    · cases e'
    · cases e'
  | cls _ => cases e
theorem nx_isk (k : Kd) : NoX1 (oIsK k) := fun x h c fs h' e => by unfold oIsK at e; (repeat' split at e) <;> cases e
theorem de_isk (k : Kd) {x : Str} (hx : bootBuiltins x = some (.type k.nm)) (hg : Gl X "isinstance") (hm : X.mg "isinstance" = none) (hgx : Gl X x) (hmx : X.mg x = none) (ha : DE X P W a sa) (hn : x ≠ "__name__" := by decide) (hdx : (x == ("__debug__" : Str)) = false := by decide)
    (he : starEach [a, .Name x p2] X.env = (false, eval a X.env) :: starEach [.Name x p2] X.env := by rfl) (hpl : (backTo pos (starEach [.Name x p2] X.env)).any (·.1) = false := by rfl) (hs2 : starEach [.Name x p2] X.env = (false, eval (.Name x p2) X.env) :: starEach [] X.env := by rfl) :
    DE X P W (.Call (.Name "isinstance" p) [a, .Name x p2] [] pos) (s1 (oIsK k) sa) :=
  PE.imp (pe_callB call_isi hg hm boot_isinstance (pa_cons ha (pa_cons (pe_bltn (v := .ty k.nm) hgx hmx hx rfl hn hdx) pa_nil hs2) he) (by decide) (by decide) he hpl) fun σV H Q h => by
    refine tG.mono (fun v H1 hq => ?_) (one (nx_isk k) h)
    obtain ⟨m, h, t, r, R, o⟩ := hq
    unfold oIsK at o
    split at o
    · rename_i b e
      obtain ⟨n, ty, kb⟩ := ty_of R r e
      exact ⟨v, .ty k.nm, .type n, .type k.nm, b, rfl, .ty _, ty, kit_ty kb, o _ m H1 (Ext.refl _ _) (.bl _) R⟩
    · exact False.elim o
def sDic0 : SE := fun _ h => alloc (.dic []) h
def rLst (K : PySem.W.Frag) (mg : Str → Option Value) (f : List T → Hh → Res T) : List V → Hp → VK → Prop := fun xs H Q => ∃ m h ts D vs, xs = [.ref D] ∧ H D = some (.lst vs) ∧ RTs K mg m H ts vs ∧ HR K mg m h H ∧ OutP K mg Q m H (f ts h)
theorem over_read {f : List T → Hh → Res T} (hf : NoXL f) {σV : L2.St} {H : Hp} {Q : VK} (h : tI X.K X.mg P W (sOver f ar) σV H Q) : tL X.K X.mg P W ar σV H fun x H1 => rLst X.K X.mg f [x] H1 Q := by
  obtain ⟨m, h, σ, A, o⟩ := h
  refine A.first (rel1 := relL X.K X.mg H) o fun m1 h1 ts x H1 E1 r1 A1 o1 => ?_
  obtain ⟨D, vs, rfl, _, hD, rr, _⟩ := r1
  exact ⟨m1, h1, ts, D, vs, rfl, hD, rr, A1.hr, o1.outP (hf _ _)⟩
theorem de_overB {id : String} {x : Str} {f : List T → Hh → Res T} (hc : CallR X (.builtin id) (rLst X.K X.mg f)) (hf : NoXL f) (hg : Gl X x) (hm : X.mg x = none) (hv : bootBuiltins x = some (.builtin id)) (ha : DL X P W a ar) (hn : x ≠ "__name__" := by decide) (hdb : (x == ("__debug__" : Str)) = false := by decide)
    (he : starEach [a] X.env = (false, eval a X.env) :: starEach [] X.env := by rfl) (hpl : (backTo pos (starEach [] X.env)).any (·.1) = false := by rfl) : DE X P W (.Call (.Name x p) [a] [] pos) (sOver f ar) :=
  PE.imp (pe_callB hc hg hm hv (pa_cons ha pa_nil he) hn hdb he hpl) fun σV H Q h => over_read hf h
theorem de_overTy {T' : String} {x : Str} {f : List T → Hh → Res T} (hc : CallR X (.type T') (rLst X.K X.mg f)) (hf : NoXL f) (hg : Gl X x) (hm : X.mg x = none) (hv : bootBuiltins x = some (.type T')) (ha : DL X P W a ar) (hn : x ≠ "__name__" := by decide) (hdb : (x == ("__debug__" : Str)) = false := by decide)
    (he : starEach [a] X.env = (false, eval a X.env) :: starEach [] X.env := by rfl) (hpl : (backTo pos (starEach [] X.env)).any (·.1) = false := by rfl) : DE X P W (.Call (.Name x p) [a] [] pos) (sOver f ar) :=
  PE.imp (pe_callTy hc hg hm hv (pa_cons ha pa_nil he) hn hdb he hpl) fun σV H Q h => over_read hf h
theorem bls_of {m : Mp} {H : Hp} : ∀ {ts : List T} {vs : List V} {bs : List Bool}, RTs X.K X.mg m H ts vs → blsOf ts = some bs → vs = bs.map V.bl
  | _, _, _, .nil, e => by cases e; rfl
  | _, _, bs, .cons (t := t) (ts := ts) r q, e => by
    cases r with
    | bl b =>
      have e' : (blsOf ts).map (b :: ·) = some bs := e
      cases z : blsOf ts with
      | none => rw [z] at e'; cases e'
      | some cs =>
        rw [z] at e'; cases e'
        rw [bls_of q z]; rfl
    | _ => cases e
theorem nx_all : NoXL bAll := fun x h c fs h' e => by unfold bAll at e; (repeat' split at e) <;> cases e
theorem nx_tup : NoXL bTup := fun x h c fs h' e => by unfold bTup at e; cases e
theorem cl_all (hc : X.calm = true) : CallR X (.builtin "all") (rLst X.K X.mg bAll) := by
  intro pins s σ H xs us Q I ru hq
  obtain ⟨m, h, ts, D, vs, rfl, hD, r, R, o⟩ := hq
  unfold bAll at o
  split at o
  · rename_i bs e
    have := bls_of r e
    subst this
    exact cr_all hc pins s σ H _ us Q I ru ⟨D, bs, rfl, SqL.of hD, o _ m H (Ext.refl _ _) (.bl _) R⟩
  · exact False.elim o
theorem cl_tup : CallR X (.type "tuple") (rLst X.K X.mg bTup) := by
  intro pins s σ H xs us Q I ru hq
  obtain ⟨m, h, ts, D, vs, rfl, hD, r, R, o⟩ := hq
  exact call_tupleN pins s σ H _ us Q I ru ⟨D, vs, rfl, .inl ⟨SqL.of hD, fun p ob hp hd => OutP.newTup R r o hp hd⟩⟩
theorem de_meth {m : Str} {cn : Str} {C f : Addr} {k : Nat} {fd : FuncData} {ps : List Str} {ff : List T → Hh → Res T} {pl : Sem Bool} (hC : X.mg cn = some (.ref C)) (cc : Cls X.K C) (hm : Meth X.K C m f)
    (F : FnOk X.prog X.w X.K X.mg X.base (L2.CX X.prog X.w) k f fd ps (spT X.K X.mg ps.length ff)) (hr : Room k X.A) (hb : Binds X.K fd ps []) (tk : Takes X W) (ho : DE X P W o so) (ha : DA X P W (e :: es) ar)
    (hst : starEach (e :: es) X.env = (false, eval e X.env) :: starEach es X.env := by rfl) (hpl : (backTo pos (starEach es X.env)).any (·.1) = false := by rfl)
    (ht : eval (.Call (.Attribute o m apos) (e :: es) [] pos) X.env = (do
      let ov ← eval o X.env
      standAt apos.atName
      let (f, first) ← holding [ov] (getMethod ov m pl)
      callWith pos f first (backTo pos (starEach (e :: es) X.env)) (backToKw pos (keywordEach [] X.env))) := by rfl) :
    DE X P W (.Call (.Attribute o m apos) (e :: es) [] pos) (sMeth cn m ps.length ff so ar) := by
  refine ⟨fun pins s σV H Q I ⟨m0, h, σ, A, o0⟩ => ?_⟩
  have first := A.first (rel1 := RT X.K X.mg) o0 fun m1 h1 t v H1 E1 r1 A1 o1 =>
    (⟨m1, h1, t, r1, A1, o1⟩ : ∃ m1 h1 t, RT X.K X.mg m1 H1 t v ∧ At X.K X.mg P m1 H1 σV σ h1 ∧ Out X.K X.mg (RT X.K X.mg) W σV Q m1 H1 (match t with
      | .ref l => (match insAt h1 l with
        | some (d, fs) => if d = cn ∧ fs.lookup m = none then (ar σ h1).bind fun xs h2 => arN ps.length ff (t :: xs) h2 else .stk
        | none => .stk)
      | _ => .stk))
  refine PySem.W.methodCall_KW (pl := pl) (thn (ho.run pins s σV H _ I first) fun u s1 ⟨v, H1, I1, rv, m1, h1, t, r1, A1, o1⟩ => ?_) ht
  cases r1 with
  | @ref l a e1 =>
    dsimp only at o1
    split at o1
    · rename_i d fs q1
      split at o1
      · rename_i hd
        obtain ⟨hd1, hd2⟩ := hd
        subst hd1
        obtain ⟨Ca, dx, fv, g1, g2, rf⟩ := A1.hr.ins e1 q1
        rw [hC] at g1; cases g1
        obtain rfl : u = Value.ref a := rv
        have hno : fv.lookup m = none := by
          cases z : fv.lookup m with
          | none => rfl
          | some w =>
            exfalso
            have back : ∀ {fs : List (Str × T)} {fv : List (Str × V)} {w : V}, RF X.K X.mg m1 H1 fs fv → fv.lookup m = some w → fs.lookup m ≠ none := by
              intro fs fv w r
              induction r with
              | nil => intro q; simp [List.lookup] at q
              | @cons g t v fs fv _ _ ih =>
                intro q
                simp only [List.lookup] at q ⊢
                split at q
                · simp
                · exact ih q
            exact back rf z hd2
        refine getmeth_ok I1 g2 cc hm hno ?_
        have second := A1.first (rel1 := RTs X.K X.mg) o1 fun m2 h2 ts vs H2 E2 r2 A2 o2 =>
          (⟨m2, h2, ts, .ref (E2.mono _ _ e1), r2, A2, o2⟩ : ∃ m2 h2 ts, RT X.K X.mg m2 H2 (.ref l) (.ref a) ∧ RTs X.K X.mg m2 H2 ts vs ∧ At X.K X.mg P m2 H2 σV σ h2 ∧ Out X.K X.mg (RT X.K X.mg) W σV Q m2 H2 (arN ps.length ff (.ref l :: ts) h2))
        refine PySem.W.callWith_K (first := [.ref a]) (h₀ := X.base) I.ok.mod.kin hm.kp (thn (ha.run pos pins s1 σV H1 _ I1 second) fun us s2 ⟨vs, H2, I2, r, m2, h2, ts, ra, r2, A2, o2⟩ => ⟨I2.kIn, ?_⟩) hst hpl
        unfold arN at o2
        split at o2
        · rename_i hl
          exact run_fnS (us := .ref a :: us) (vs := .ref a :: vs) F hr hb (passAt tk σV) I2 (.cons rfl r) (spT_of (by rw [← hl, List.length_cons, List.length_cons, r2.length]) (.cons ra r2) A2.hr o2)
        · exact False.elim o2
      · exact False.elim o1
    · exact False.elim o1
  | _ => exact False.elim o1
theorem de_meth0 {m : Str} {cn : Str} {C f : Addr} {k : Nat} {fd : FuncData} {ps : List Str} {ff : List T → Hh → Res T} {pl : Sem Bool} (hC : X.mg cn = some (.ref C)) (cc : Cls X.K C) (hm : Meth X.K C m f)
    (F : FnOk X.prog X.w X.K X.mg X.base (L2.CX X.prog X.w) k f fd ps (spT X.K X.mg ps.length ff)) (hr : Room k X.A) (hb : Binds X.K fd ps []) (tk : Takes X W) (ho : DE X P W o so)
    (ht : eval (.Call (.Attribute o m apos) [] [] pos) X.env = (do
      let ov ← eval o X.env
      standAt apos.atName
      let (f, first) ← holding [ov] (getMethod ov m pl)
      callWith pos f first (backTo pos (starEach [] X.env)) (backToKw pos (keywordEach [] X.env))) := by rfl) :
    DE X P W (.Call (.Attribute o m apos) [] [] pos) (sMeth cn m ps.length ff so saNil) := by
  refine ⟨fun pins s σV H Q I ⟨m0, h, σ, A, o0⟩ => ?_⟩
  have first := A.first (rel1 := RT X.K X.mg) o0 fun m1 h1 t v H1 E1 r1 A1 o1 =>
    (⟨m1, h1, t, r1, A1, o1⟩ : ∃ m1 h1 t, RT X.K X.mg m1 H1 t v ∧ At X.K X.mg P m1 H1 σV σ h1 ∧ Out X.K X.mg (RT X.K X.mg) W σV Q m1 H1 (match t with
      | .ref l => (match insAt h1 l with
        | some (d, fs) => if d = cn ∧ fs.lookup m = none then (saNil σ h1).bind fun xs h2 => arN ps.length ff (t :: xs) h2 else .stk
        | none => .stk)
      | _ => .stk))
  refine PySem.W.methodCall_KW (pl := pl) (thn (ho.run pins s σV H _ I first) fun u s1 ⟨v, H1, I1, rv, m1, h1, t, r1, A1, o1⟩ => ?_) ht
  cases r1 with
  | @ref l a e1 =>
    dsimp only at o1
    split at o1
    · rename_i d fs q1
      split at o1
      · rename_i hd
        obtain ⟨hd1, hd2⟩ := hd
        subst hd1
        obtain ⟨Ca, dx, fv, g1, g2, rf⟩ := A1.hr.ins e1 q1
        rw [hC] at g1; cases g1
        obtain rfl : u = Value.ref a := rv
        have hno : fv.lookup m = none := by
          cases z : fv.lookup m with
          | none => rfl
          | some w =>
            exfalso
            have back : ∀ {fs : List (Str × T)} {fv : List (Str × V)} {w : V}, RF X.K X.mg m1 H1 fs fv → fv.lookup m = some w → fs.lookup m ≠ none := by
              intro fs fv w r
              induction r with
              | nil => intro q; simp [List.lookup] at q
              | @cons g t v fs fv _ _ ih =>
                intro q
                simp only [List.lookup] at q ⊢
                split at q
                · simp
                · exact ih q
            exact back rf z hd2
        refine getmeth_ok I1 g2 cc hm hno ?_
        have o2 : Out X.K X.mg (RT X.K X.mg) W σV Q m1 H1 (arN ps.length ff [.ref l] h1) := o1
        unfold arN at o2
        split at o2
        · rename_i hl
          exact PySem.W.callWith_K0 (first := [.ref a]) I1.kIn hm.kp (run_fnS (us := [.ref a]) (vs := [.ref a]) F hr hb (passAt tk σV) I1 (.cons rfl .nil) (spT_of hl (.cons (.ref e1) .nil) A1.hr o2))
        · exact False.elim o2
      · exact False.elim o1
    · exact False.elim o1
  | _ => exact False.elim o1
end
end W3
end

section
namespace W3
open PySem PySem.Spec PyProof.Rows
open L2
instance decMemK (k : Key) (l : List Key) : Decidable (k ∈ l) := decidable_of_iff (l.any (fun j => decide (j = k)) = true) (by simp [List.any_eq_true])
def uq : List Key → List Key := fun ks => ks.foldl (fun acc k => if k ∈ acc then acc else acc ++ [k]) []
theorem uq_snoc (ks : List Key) (k : Key) : uq (ks ++ [k]) = if k ∈ uq ks then uq ks else uq ks ++ [k] := by
  unfold uq; rw [List.foldl_append]; rfl
theorem uq_mem (ks : List Key) : ∀ k, k ∈ uq ks ↔ k ∈ ks := by
  intro k
  suffices h : ∀ (l acc : List Key), (k ∈ l.foldl (fun acc k => if k ∈ acc then acc else acc ++ [k]) acc ↔ k ∈ acc ∨ k ∈ l) by
    have := h ks []
    simpa [uq] using this
  intro l
  induction l with
  | nil => intro acc; simp
  | cons x l ih =>
    intro acc
    rw [List.foldl_cons, ih]
    by_cases hx : x ∈ acc
    · rw [if_pos hx]
      constructor
      · rintro (h | h)
        · exact .inl h
        · exact .inr (List.mem_cons_of_mem _ h)
      · rintro (h | h)
        · exact .inl h
        · rcases List.mem_cons.mp h with e | e
          · subst e; exact .inl hx
          · exact .inr e
    · rw [if_neg hx]
      simp only [List.mem_append, List.mem_cons, List.mem_singleton, List.not_mem_nil, or_false]
      constructor
      · rintro ((h | h) | h)
        · exact .inl h
        · exact .inr (.inl h)
        · exact .inr (.inr h)
      · rintro (h | h | h)
        · exact .inl (.inl h)
        · exact .inl (.inr h)
        · exact .inr h
def keyT : T → Option Key
  | .int i => some (.inl i)
  | .str x => some (.inr x)
  | _ => none
def keysT : List T → Option (List Key)
  | [] => some []
  | t :: ts => match keyT t, keysT ts with | some k, some ks => some (k :: ks) | _, _ => none
def bLenSet (ts : List T) (h : Hh) : Res T := match keysT ts with
  | some ks => if ks.length + 1 < scanBound then .ok (.int (uq ks).length) h else .stk
  | none => .stk
def SetA (P : Program) (w : World) (a : Addr) (acc : List Key) : HO := SetK P w a (fun k => decide (k ∈ acc)) (uq acc).length
theorem setA_snoc (P : Program) (w : World) (a : Addr) (acc : List Key) (k : Key) :
    SetK P w a (fun j => (fun k => decide (k ∈ acc)) j || decide (j = k)) (if (fun k => decide (k ∈ acc)) k = true then (uq acc).length else (uq acc).length + 1) = SetA P w a (acc ++ [k]) := by
  unfold SetA
  have e1 : (fun j => (decide (j ∈ acc) || decide (j = k))) = fun j => decide (j ∈ acc ++ [k]) := by
    funext j
    by_cases h1 : j ∈ acc <;> by_cases h2 : j = k <;> simp [h1, h2]
  have e2 : (if decide (k ∈ acc) = true then (uq acc).length else (uq acc).length + 1) = (uq (acc ++ [k])).length := by
    rw [uq_snoc]
    by_cases h : k ∈ acc
    · rw [if_pos (decide_eq_true h), if_pos ((uq_mem acc k).mpr h)]
    · rw [if_neg (by simpa using h), if_neg (fun z => h ((uq_mem acc k).mp z)), List.length_append, List.length_singleton]
  rw [← e1, ← e2]
section
variable {X : Cx}
theorem kv_of {m : Mp} {H : Hp} {t : T} {v : V} {k : Key} (r : RT X.K X.mg m H t v) (e : keyT t = some k) : v = kV k := by
  cases r with
  | int i => cases e; rfl
  | str h => cases e; rfl
  | _ => cases e
def tSk (P : Program) (w : World) (wi : TI) (g : TG) (tt : TT) (te : TE) (vs : List Nat) : TE := fun σ H Q => wi σ H fun J H1 => ∀ D, H1 D = none →
  ∃ V : Nat → Nat → Hp → Prop, (∃ m, V 0 m (upd H1 D (SetA P w D []))) ∧ ∀ i m H, V i m H →
    (J.stop i H ∧ Q (.ref D) H) ∨ (J.go i H ∧ ∃ Nx : Hp → Prop, (∀ H', Nx H' → ∃ m', m' < m ∧ V (i + 1) m' H') ∧ ∀ x H', J.yld i H x H' →
      g x (wipe σ vs) H' fun σ2 H2 => wipe σ2 vs = wipe σ vs ∧ tt σ2 H2 fun b H3 => if b = true then te σ2 H3 fun y H4 =>
        ∃ (k : Key) (acc : List Key), y = kV k ∧ H4 D = some (SetA P w D acc) ∧ acc.length + 1 < scanBound ∧ Nx (upd H4 D (SetA P w D (acc ++ [k]))) else Nx H3)
theorem uq_len (ks : List Key) : (uq ks).length ≤ ks.length := by
  suffices h : ∀ (l acc : List Key), (l.foldl (fun acc k => if k ∈ acc then acc else acc ++ [k]) acc).length ≤ acc.length + l.length by
    have := h ks []
    simpa [uq] using this
  intro l
  induction l with
  | nil => intro acc; simp
  | cons x l ih =>
    intro acc
    rw [List.foldl_cons]
    refine Nat.le_trans (ih _) ?_
    by_cases hx : x ∈ acc
    · rw [if_pos hx, List.length_cons]; omega
    · rw [if_neg hx, List.length_append, List.length_singleton, List.length_cons]; omega
theorem setA_fresh {h : Heap} {P : Program} {w : World} {H : Hp} :
    ObjOk P w H (h.push { cls := .type "set", dict := none, data := .set #[] 0 (.fresh 0 0 (!w.params.followText "set-order")) }) h.objs.size (SetA P w h.objs.size []) :=
  setK_new ⟨_, #[], 0, _, Heap.get?_push_size _ rfl, ⟨rfl, rfl, rfl⟩, rfl, fun e he => by simp at he, fun k => by simp, by decide, rfl, rfl⟩
theorem setA_add {pins : List (Addr × Obj)} {σ : L2.St} {H : Hp} {s : Shared} {D : Addr} {acc : List Key} {k : Key} {v : Value} {Q : Value → Shared → Prop} (I : L2.Inv X pins σ H s) (hD : H D = some (SetA X.prog X.w D acc)) (rv : RelV (kV k) v)
    (room : acc.length + 1 < scanBound) (q : ∀ s', L2.Inv X pins σ (upd H D (SetA X.prog X.w D (acc ++ [k]))) s' → Q .none s') : wpAny (model X.prog X.w) X.A (call (.builtin "set.add") [.ref D, v]) Q X.xe s := by
  refine thn (mt_saddK pins s σ H (.ref D) [kV k] (.ref D) [v] (fun v H' => v = .non ∧ H' = upd H D (SetA X.prog X.w D (acc ++ [k]))) I rfl (.cons rv .nil) ⟨D, k, _, _, rfl, rfl, hD, by have := uq_len acc; omega, rfl, ?_⟩) fun u s' hu => ?_
  · exact congrArg (upd H D) (setA_snoc X.prog X.w D acc k)
  · obtain ⟨v', H', I', r', e1, e2⟩ := hu
    subst e1; subst e2
    obtain rfl : u = Value.none := r'
    exact q s' I'
open PpSet in
theorem pe_sk {elt tg iter : Expr} {ifs : List Expr} {scope : Scope} {own : List (PySem.Str × Nat)} {pos : Pos} {wi : TI} {g : TG} {tt : TT} {te : TE} (hc : X.calm = true) (hN : X.N.Nodup) (hi : PI X tg iter wi) (ok : BlkOk X.N X.env.scope scope own)
    (hg : ∀ (z : Shared) (L : Hp) (C : Addr) (cl : List (PySem.Str × Addr)) (fp : List Addr), PG (X.blk z L scope (compEnvC scope cl C X.env) fp) tg g)
    (ht : ∀ (z : Shared) (L : Hp) (C : Addr) (cl : List (PySem.Str × Addr)) (fp : List Addr), PTs (X.blk z L scope (compEnvC scope cl C X.env) fp) ifs tt)
    (he : ∀ (z : Shared) (L : Hp) (C : Addr) (cl : List (PySem.Str × Addr)) (fp : List Addr), PE (X.blk z L scope (compEnvC scope cl C X.env) fp) elt te) (hs : ∀ x, foldedSetIterable iter X.env x = pure x) :
    PE X (.SetComp elt [⟨tg, iter, ifs, 0⟩] scope pos) (tSk X.prog X.w wi g tt te (own.map (·.2))) := by
  refine ⟨fun pins s σ H Q I hw => ?_⟩
  rw [eval_SetComp]
  have fr : ∀ y ∈ scope.names, y.2 = .free → ∃ c, X.env.cells.lookup y.1 = some c := by
    intro y hy e
    cases ok.free y hy e with
    | inl k => exact I.ok.has _ (.inl k)
    | inr k => exact I.ok.has _ (.inr k)
  refine wpAny_comprehension_free (use := none) rfl hs (closure_ok fr) ok.kind (fun y hy e => (ok.uniq y hy).trans (congrArg some e)) ?_
  refine thn (hi.run pins s σ H _ I hw) fun xv s1 hx => thn hx fun itv s2 hz => ?_
  obtain ⟨it, fp, tn, J, L2', e, J2, Tn, a2, b2, q⟩ := hz
  subst e
  refine newSet_ok (newEnv_comp ?_)
  generalize hD : s2.heap.objs.size = D
  have nD : L2' D = none := J2.hok.fresh (Nat.le_of_eq hD)
  obtain ⟨V, ⟨m0, w0⟩, turn⟩ := q D nD
  generalize hs3 : ({ s2 with heap := s2.heap.push { cls := .type "set", dict := none, data := .set #[] 0 (.fresh 0 0 (!X.w.params.followText "set-order")) } } : Shared) = s3
  have kp3 : ∀ b o, s2.heap.get? b = some o → s3.heap.get? b = some o := by
    intro b o e
    rw [← hs3]
    exact Heap.get?_push_of_some _ e
  generalize hL3 : upd L2' D (SetA X.prog X.w D []) = L3 at w0
  have J3 : L2.Inv X pins σ L3 s3 := by
    rw [← hL3, ← hs3]
    refine J2.laid (t' := s2.toks) (fun b o e => Heap.get?_push_of_some _ e) (Nat.le_of_eq hD) ?_
    rw [← hD]
    exact setA_fresh
  have old : ∀ b ∈ fp, b < s2.heap.objs.size := fun b hb => (Tn.obj _ _ a2 b hb).elim fun o z => Heap.lt_size z.1
  have b3 : ∀ b ∈ fp, FpOk X pins L3 b ∧ b < s3.heap.objs.size := by
    intro b hb
    have lt := old b hb
    refine ⟨⟨?_, (b2 b hb).2⟩, ?_⟩
    · rw [← hL3, upd_ne (by rw [← hD]; exact Nat.ne_of_lt lt)]
      exact (b2 b hb).1
    · rw [← hs3]
      show b < (Heap.push _ _).objs.size
      rw [Heap.size_push]
      exact Nat.lt_succ_of_lt lt
  have a3 : tn 0 s3.heap := Tn.keep _ _ _ a2 fun b _ o e => kp3 b o e
  have J4 := block_start J3 ok hN b3
  generalize hcl : cellsFrom (s3.heap.objs.size + 1) scope.names (cloFrom X.env.cells scope.names []) = cl at J4 ⊢
  have pg := hg s3 L3 s3.heap.objs.size cl fp
  have pt := ht s3 L3 s3.heap.objs.size cl fp
  have pe := he s3 L3 s3.heap.objs.size cl fp
  show codeAny _ _ (.compStart (.SetComp elt [⟨tg, iter, ifs, 0⟩] scope pos) 0 (.ref it) (.ref D) (compEnvC scope cl s3.heap.objs.size X.env))
    (compPost (model X.prog X.w) X.A X.xe none (EP X pins σ Q) (.ref D) s3.heap.objs.size) _
  generalize hce : compEnvC scope cl s3.heap.objs.size X.env = ce at J4 pg pt pe ⊢
  have cL : ce.locals = s3.heap.objs.size := by rw [← hce]; rfl
  have n3 : ∀ b ∈ fp, L3 b = none := fun b hb => (b3 b hb).1.1
  generalize hs4 : ({ s3 with heap := pushCells (s3.heap.push { cls := .type "dict", data := .dict #[] }) scope.names } : Shared) = s4 at J4 ⊢
  have a4 : tn 0 s4.heap := Tn.keep _ _ _ a3 fun b _ o e => by
    rw [← hs4]
    exact pushCells_keeps _ _ _ _ (Heap.get?_push_of_some _ e)
  have stat : ∀ {τ : L2.St} {L : Hp} {z : Shared}, L2.Inv (X.blk s3 L3 scope ce fp) [] τ L z → (∀ b ∈ fp, L b = none) → ∀ b ∈ fp, FpOk (X.blk s3 L3 scope ce fp) [] L b := by
    intro τ L z J' hn b hb
    refine ⟨hn b hb, (J'.ok.exf b hb).1, J'.ok.exfs b hb, .inl hb, (J'.ok.exf b hb).2, fun p hp => ?_⟩
    have : p ∈ ([] : List (Addr × Obj)) := hp
    cases this
  have loop : codeAny (model X.prog X.w) X.A (.compLoop (.SetComp elt [⟨tg, iter, ifs, 0⟩] scope pos) 0 (.ref it) (.ref D) ce)
      (compPost (model X.prog X.w) X.A X.xe none (EP X pins σ Q) (.ref D) s3.heap.objs.size) s4 := by
    refine compLoopS_any (fun n z => ∃ i L, L2.Inv (X.blk s3 L3 scope ce fp) [] (wipe σ (own.map (·.2))) L z ∧ tn i z.heap ∧ (∀ b ∈ fp, L b = none) ∧ V i n L) ?_ m0 ⟨0, L3, J4, a4, n3, w0⟩
    intro n s5 h5
    obtain ⟨i, L5, J5, a5, n5, w5⟩ := h5
    cases turn i n L5 w5 with
    | inl hstop =>
      refine thnF (Tn.done (X.blk s3 L3 scope ce fp) rfl rfl rfl hc i [] s5 _ L5 (fun _ _ => False) J5 (stat J5 n5) a5 hstop.1) fun r s6 h6 => ?_
      obtain ⟨hr, J6⟩ := h6
      subst hr
      have J7 : L2.Inv X pins σ L5 s6 := J3.call' (ch := fp) J6.os J6.base J6.hok J6.bare fun b hb => by
        have z := (b3 b hb).1.2
        exact ⟨z.2.2.1, z.1, z.2.2.2.1, z.2.2.2.2⟩
      have nC : L5 s3.heap.objs.size = none := by rw [← cL]; exact J6.free
      obtain ⟨mm, hn, _⟩ := J6.loc
      have hn' : s6.heap.Ns s3.heap.objs.size mm := by rw [← cL]; exact hn
      have fC := J3.fpOk (Nat.le_refl s3.heap.objs.size) nC
      obtain ⟨c0, c1, _, c3, c4, c5⟩ := fC
      exact ⟨mm, hn', fun h'' sb => ⟨.ref D, L5, J7.turned (t' := s6.toks) (fun b o hb e => (sb.2 b hb).trans e) c0 c1 c3 c4 c5, rfl, hstop.2⟩⟩
    | inr hgo =>
      obtain ⟨go, Nx, hNx, step⟩ := hgo
      refine thnF (Tn.item (X.blk s3 L3 scope ce fp) rfl rfl rfl hc i [] s5 _ L5 (fun _ _ => False) J5 (stat J5 n5) a5 go) fun r s6 h6 => ?_
      obtain ⟨u, hr, h6⟩ := h6
      subst hr
      refine thnF h6 fun _ s7 h7 => ?_
      obtain ⟨x, L7, J7, r7, y7, a7, n7⟩ := h7
      refine thnF (pg.run _ s7 _ L7 x u _ (J7.pinned (stat J7 n7) (Tn.obj _ _ a7)) r7 (step x L7 y7)) fun _ s8 h8 => ?_
      obtain ⟨σ8, L8, J8, hw8, q8⟩ := h8
      refine thnF (pt.run _ s8 σ8 L8 _ J8 q8) fun b s9 h9 => ?_
      obtain ⟨L9, J9, q9⟩ := h9
      have fin : ∀ {z : Shared} {L : Hp}, L2.Inv (X.blk s3 L3 scope ce fp) ([] ++ pinsAt fp s7.heap) σ8 L z → Nx L →
          ∃ m, m < n ∧ ∃ i L, L2.Inv (X.blk s3 L3 scope ce fp) [] (wipe σ (own.map (·.2))) L z ∧ tn i z.heap ∧ (∀ b ∈ fp, L b = none) ∧ V i m L := by
        intro z L J' nx
        obtain ⟨m', hm, w'⟩ := hNx L nx
        have held : ∀ b ∈ fp, ∀ o, s7.heap.get? b = some o → z.heap.get? b = some o ∧ L b = none := by
          intro b hb o e
          have k := J'.pin (b, o) (List.mem_append_right _ (List.mem_append_right _ (mem_pinsAt hb e)))
          exact ⟨k.1, k.2.1⟩
        refine ⟨m', hm, i + 1, L, (J'.unpinned (pins := [])).weak (by rw [← hw8, wipe_length]) (fun j v e => ?_), Tn.keep _ _ _ a7 fun b hb o e => (held b hb o e).1, fun b hb => ?_, w'⟩
        · rw [← hw8] at e
          exact (wipe_some e).1
        · obtain ⟨o, e, _⟩ := Tn.obj _ _ a7 b hb
          exact (held b hb o e).2
      cases b with
      | false => exact fin J9 q9
      | true =>
        refine thnF (pe.run _ s9 σ8 L9 _ J9 q9) fun z s10 h10 => ?_
        obtain ⟨yv, L10, J10, r10, k, acc, ey, hD10, room, nx⟩ := h10
        subst ey
        exact thnF (setA_add (X := X.blk s3 L3 scope ce fp) (Q := fun u z => u = .none ∧ L2.Inv (X.blk s3 L3 scope ce fp) ([] ++ pinsAt fp s7.heap) σ8 (upd L10 D (SetA X.prog X.w D (acc ++ [k]))) z) J10 hD10 r10 room fun s11 J11 => ⟨rfl, J11⟩) fun _ s11 h11 => fin h11.2 nx
  exact codeAny_compStart_set loop (Tn.self X.A 0 _ _ _ a4 loop)
end
end W3
end

section
namespace W3
open PySem PySem.Spec PyProof.Rows
open L2
section
variable {P : Program} {w : World} {A : Around} {E : Value → Shared → Prop} {s : Shared}
abbrev KeysAre (P : Program) (w : World) (ks : List Key) (vs : List Value) : Prop := Paired (fun k v => RelV (kV k) v) ks vs
theorem KeysAre.get {ks : List Key} {vs : List Value} (r : KeysAre P w ks vs) : ∀ {i : Nat} {v : Value}, vs[i]? = some v → ∃ k, ks[i]? = some k ∧ RelV (kV k) v := by
  induction r with
  | nil => intro i v e; simp at e
  | cons r _ ih =>
    intro i v e
    cases i with
    | zero => simp at e; subst e; exact ⟨_, rfl, r⟩
    | succ i => exact ih (by simpa using e)
abbrev freshSet (w : World) : Obj := { cls := .type "set", dict := none, data := .set #[] 0 (.fresh 0 0 (!w.params.followText "set-order")) }
abbrev SetI (P : Program) (w : World) (h : Heap) (a : Addr) (acc : List Key) : Prop := h.SetOf (mixKind P w) a (fun k => decide (k ∈ acc)) (uq acc).length
theorem setI_fresh {h : Heap} {a : Addr} (e : h.get? a = some (freshSet w)) : SetI P w h a [] :=
  ⟨_, #[], 0, _, e, ⟨rfl, rfl, rfl⟩, rfl, fun e he => by simp at he, fun k => by simp, by decide, rfl, rfl⟩
theorem setI_snoc {h : Heap} {a : Addr} {acc : List Key} {k : Key} (R : h.SetOf (mixKind P w) a (fun j => (fun k => decide (k ∈ acc)) j || decide (j = k)) (if (fun k => decide (k ∈ acc)) k = true then (uq acc).length else (uq acc).length + 1)) :
    SetI P w h a (acc ++ [k]) := by
  have e1 : (fun j => (decide (j ∈ acc) || decide (j = k))) = fun j => decide (j ∈ acc ++ [k]) := by
    funext j
    by_cases h1 : j ∈ acc <;> by_cases h2 : j = k <;> simp [h1, h2]
  have e2 : (if decide (k ∈ acc) = true then (uq acc).length else (uq acc).length + 1) = (uq (acc ++ [k])).length := by
    rw [uq_snoc]
    by_cases h : k ∈ acc
    · rw [if_pos (decide_eq_true h), if_pos ((uq_mem acc k).mpr h)]
    · rw [if_neg (by simpa using h), if_neg (fun z => h ((uq_mem acc k).mp z)), List.length_append, List.length_singleton]
  show h.SetOf (mixKind P w) a (fun j => decide (j ∈ acc ++ [k])) (uq (acc ++ [k])).length
  rw [← e1, ← e2]
  exact R
theorem loopK {I : Addr} {fp wr : List Addr} {G : Array GenState → Array GenState → Prop} {n : Nat} {Pv : Nat → Value → Prop} {St : Nat → Shared → Prop} {R : Result → Shared → Prop}
    (Wk : WalksS P w A.in1 I fp wr G n Pv St) (D : Addr) (nD : D ∉ fp) (ks : List Key) (hn : n = ks.length) (room : ks.length + 1 < scanBound) (hv : ∀ i v, Pv i v → ∃ k, ks[i]? = some k ∧ RelV (kV k) v) :
    ∀ (left i : Nat) (z : Shared), n - i = left → i ≤ n → St i z → SetI P w z.heap D (ks.take i) → (∀ z', Moved (D :: wr) G z z' → SetI P w z'.heap D ks → R (.ok (.ret .none)) z') →
      codeAny (model P w) A (.builtin "set.update.loop" ⟨[.ref D, .ref I], []⟩) R z := by
  have nW : D ∉ wr := fun q => nD (Wk.sub _ q)
  have more : ∀ b ∈ wr, b ∈ D :: wr := fun b q => List.mem_cons_of_mem _ q
  intro left
  induction left with
  | zero =>
    intro i z e1 e2 st S fin
    have hi : i = n := by omega
    subst hi
    refine codeAny_builtin PyProof.Rows.F.entry_set_update_loop ?_
    rw [Around.under_plainId PyProof.Rows.F.plain_set_update_loop _]
    show wpAny _ A.in1 (pyNext (.ref I) >>= _) _ _ z
    refine wpAny_bind (Wk.done z _ _ st fun z' mv => ?_)
    show wpAny _ A.in1 (ret Value.none) _ _ z'
    rw [List.take_of_length_le (by omega)] at S
    exact wpAny_pure (fin z' (mv.mono more) (setOf_at S fun o q => mv.heap D o nW q))
  | succ left ih =>
    intro i z e1 e2 st S fin
    have lt : i < n := by omega
    refine codeAny_builtin PyProof.Rows.F.entry_set_update_loop ?_
    rw [Around.under_plainId PyProof.Rows.F.plain_set_update_loop _]
    show wpAny _ A.in1 (pyNext (.ref I) >>= _) _ _ z
    refine wpAny_bind (Wk.item i z _ _ lt st fun v z' pv st' mv => ?_)
    obtain ⟨k, hk, rk⟩ := hv i v pv
    have S' : SetI P w z'.heap D (ks.take i) := setOf_at S fun o q => mv.heap D o nW q
    have hlen : (uq (ks.take i)).length + 1 < scanBound := by
      have := uq_len (ks.take i)
      rw [List.length_take] at this
      omega
    show wpAny _ A.in1 (holding [v] (setAdd D v) >>= _) _ _ z'
    refine wpAny_bind (wpAny_holding ?_)
    unfold setAdd
    refine wpAny_holding (wpAny_bind ((mixKind P w).pyHash (k := k) (kV_is rk) ?_))
    refine wpAny_setAddHashed_of (knd := mixKind P w) (s := { z' with toks := z'.toks + 1 }) (kV_is rk) (key_scan rk) S' hlen fun h' sb S2 => ?_
    have S3 : SetI P w h' D (ks.take (i + 1)) := by
      rw [List.take_add_one, hk]
      exact setI_snoc S2
    refine wpAny_pure ⟨plainId_quiet PyProof.Rows.F.plain_set_update_loop _, ih (i + 1) _ (by omega) (by omega) (Wk.frame _ z' _ _ st' (Nat.le_succ _) fun b hb o q => ?_) S3 fun z'' mv'' S'' => ?_⟩
    · rw [sb.2 b (fun q : b = D => nD (q ▸ hb))]; exact q
    · refine fin z'' (Moved.trans Wk.gtrans ((mv.mono more).then_heap (Nat.le_succ _) fun b o hb q => ?_) mv'') S''
      rw [sb.2 b (fun q : b = D => hb (by rw [q]; exact List.mem_cons_self))]; exact q
set_option maxHeartbeats 3200000 in
theorem call_setK {l : Addr} {items : Array Value} (ks : List Key) {Q : Value → Shared → Prop} (hh : A.handled = none) (hl : s.heap.IsTuple l items) (hit : KeysAre P w ks items.toList) (room : ks.length + 1 < scanBound)
    (h : ∀ (h' : Heap) (tk : Nat), SetI P w h' s.heap.objs.size ks → (∀ b o, s.heap.get? b = some o → h'.get? b = some o) → Q (.ref s.heap.objs.size) { s with heap := h', toks := tk }) :
    wpAny (model P w) A (call (.type "set") [.ref l]) Q E s := by
  have hisz : items.size = ks.length := by
    have q : ks.length = items.toList.length := Paired.length hit
    rw [Array.length_toList] at q
    exact q.symm
  obtain ⟨c, tl, hmro⟩ := PySem.F.called_set.mro
  have hmade := PySem.F.called_set.made
  have hsub := PySem.F.called_set.sub
  refine wpAny_call (codeAny_of_tree ?_)
  show wpAny _ _ (callAny (.type "set") _) _ _ _
  refine wpAny_pure ⟨Code.quiet_builtin _ (by decide +kernel), codeAny_builtin PySem.F.entry_type_call ?_⟩
  rw [Around.under_plain (weight_type_call_type "set" [.ref l] []) rfl]
  have h1 := PySem.F.called_set.notType
  have h2 := PySem.F.called_set.canCreate
  have hct := PySem.F.typeCall_set_1 (.ref l)
  repeat (any_goals (first | assumption | wp_step))
  refine codeAny_mono (code_set_led1 (.ref l) (E := E) (Q₁ := fun obj z => obj = .ref s.heap.objs.size ∧ z = { s with heap := s.heap.push (freshSet w) }) ⟨rfl, rfl⟩) fun r z hr => ?_
  cases r with
  | error e => exact hr
  | ok fl =>
    cases fl with
    | next => exact hr.elim
    | brk => exact hr.elim
    | cont => exact hr.elim
    | ret obj =>
      obtain ⟨rfl, rfl⟩ := hr
      have hS : (s.heap.push (freshSet w)).get? s.heap.objs.size = some (freshSet w) := Heap.get?_push_size _ rfl
      have hT : Shared.TypeIs { s with heap := s.heap.push (freshSet w) } (.ref s.heap.objs.size) "set" := ⟨_, hS, rfl⟩
      have hli := PySem.F.called_set.init.lookup
      have hbi := PySem.F.called_set.init.bind (.ref s.heap.objs.size)
      repeat (any_goals (first | assumption | wp_step))
      refine codeAny_mono (codeAny_call_builtin (R := wants (fun r z => r = .none ∧ ∃ h' tk, z = { s with heap := h', toks := tk } ∧ SetI P w h' s.heap.objs.size ks ∧ ∀ b o, s.heap.get? b = some o → h'.get? b = some o) E)
        PySem.F.called_set.init.plain PySem.F.entry_set_init (check_set_init_1 hT ?_)) fun r2 z2 hr2 => ?_
      · obtain ⟨⟨oc, od, odat, osl⟩, hol, hcl, nl, hdl⟩ := hl
        simp only at hcl hdl
        subst hcl
        subst hdl
        have hol' : (s.heap.push (freshSet w)).get? l = some { cls := .type "tuple", dict := od, data := .seq items nl, slots := osl } := Heap.get?_push_of_some _ hol
        have hsls := PySem.F.sub_tuple_set
        have hslf := PySem.F.sub_tuple_frozenset
        have hne : (Value.type "tuple" == Value.type "dict") = false := by decide
        have hl1 : (s.heap.push (freshSet w)).IsTuple l items := ⟨_, hol', rfl, nl, rfl⟩
        unfold Builtin.«set.__init__» noKeywords Builtin.Frozenset.updateFrom
        generalize hPI : pyIter = PI
        wp_walk
        subst hPI
        refine wpAny_pyIter_tuple hl1 (wpAny_bind (wpAny_runValue ?_))
        have lS : l < s.heap.objs.size := Heap.lt_size hol
        have hh3 : A.in1.in1.in1.handled = none := by simp [hh]
        have neI : l ≠ (s.heap.push (freshSet w)).objs.size := by
          rw [Heap.size_push]
          exact Nat.ne_of_lt (Nat.lt_succ_of_lt lS)
        have nSf : s.heap.objs.size ∉ [(s.heap.push (freshSet w)).objs.size, l] := by
          rw [Heap.size_push]
          simp only [List.mem_cons, List.not_mem_nil, or_false, not_or]
          exact ⟨Nat.ne_of_lt (Nat.lt_succ_self _), Nat.ne_of_gt lS⟩
        refine loopK ((Walks.tuple hh3 _ l neI items).toS) s.heap.objs.size nSf ks hisz room (fun i v q => hit.get (by rw [Array.getElem?_toList]; exact q)) items.size 0 _ (by omega) (Nat.zero_le _) ⟨⟨_, Heap.get?_push_size _ rfl, rfl, rfl⟩, hl1.push _⟩ ?_ ?_
        · exact setI_fresh (Heap.get?_push_of_some _ hS)
        · intro z' mv S'
          obtain ⟨h', g2, d', tk', os'⟩ := z'
          have eg : g2 = s.gens := mv.gens
          have ed : d' = s.drawn := mv.drawn
          have eo : os' = s.os := mv.os
          subst eg; subst ed; subst eo
          refine wpAny_pure ?_
          show wpAny _ _ (ret Value.none) _ _ _
          refine wpAny_pure ⟨rfl, h', tk', rfl, S', fun b o q => ?_⟩
          have lb : b < s.heap.objs.size := Heap.lt_size q
          refine mv.heap b o ?_ (Heap.get?_push_of_some _ (Heap.get?_push_of_some _ q))
          rw [Heap.size_push]
          simp only [List.mem_cons, List.not_mem_nil, or_false, not_or]
          exact ⟨Nat.ne_of_lt lb, Nat.ne_of_lt (Nat.lt_succ_of_lt lb)⟩
      · cases r2 with
        | error e => exact hr2
        | ok fl2 =>
          cases fl2 with
          | next => exact hr2.elim
          | brk => exact hr2.elim
          | cont => exact hr2.elim
          | ret r =>
            obtain ⟨rfl, h', tk, rfl, S', kk⟩ := hr2
            repeat (any_goals (first | assumption | wp_step))
            exact h _ _ S' kk
end
end W3
end

section
namespace W3
open PySem PySem.Spec PyProof.Rows
open L2
section
variable {X : Cx} {P : Pq} {W : WX} {a b c o e tg iter : Expr} {sa sb sc so : SE} {pos pos' apos cpos p p2 q2 : Pos} {es : List Expr} {ar : SA} {si : SI}
theorem HR.outA {K : PySem.W.Frag} {mg : Str → Option Value} {m : Mp} {H : Hp} {h : Hh} (R : HR K mg m h H) {D : Addr} {Pr : Program} {w : World} {as bs : List Key} (e : H D = some (SetA Pr w D as)) (n : ∀ l, m l ≠ some D) : HR K mg m h (upd H D (SetA Pr w D bs)) where
  dom := R.dom
  inj := R.inj
  ob := fun l u q => by
    obtain ⟨a, e1, r⟩ := R.ob l u q
    have T : Tr m H m (upd H D (SetA Pr w D bs)) := ⟨fun _ _ q => q, fun a us q => by rw [upd_ne (ne_of q e (by intro z; cases z))]; exact q, fun a o u q => by rw [upd_ne (ne_of q e (by intro z; cases z))]; exact q⟩
    exact ⟨a, e1, r.moveT T (upd_ne (fun z => n l (by rw [← z]; exact e1)))⟩
def rLenK (P : Program) (w : World) : List V → Hp → VK → Prop := fun xs H Q => ∃ D acc, xs = [.ref D] ∧ H D = some (SetA P w D acc) ∧ Q (.int (uq acc).length) H
theorem cr_lenK : CallR X (.builtin "len") (rLenK X.prog X.w) := by
  intro pins s σ H xs us Q I ru hq
  obtain ⟨D, acc, rfl, hD, q⟩ := hq
  cases ru with
  | cons r1 r2 =>
    cases r2
    obtain rfl : _ = Value.ref D := r1
    obtain ⟨ob, es, ep, t, ho, hex, hd, _, _, hb, hf, hn⟩ := setK_get I hD
    have hb' : es.size < 2 ^ 63 := Nat.lt_trans hb (by decide)
    refine call_len_set ho hex hd hf (by exact_mod_cast hb') ⟨.int (uq acc).length, H, I.tok _, ⟨_, by rw [hn]⟩, q⟩
def rSetT (K : PySem.W.Frag) (P : Program) (w : World) : List V → Hp → VK → Prop := fun xs H Q => ∃ l ks, xs = [.ref l] ∧ SqT K H l (ks.map kV) ∧ ks.length + 1 < scanBound ∧ ∀ D, H D = none → Q (.ref D) (upd H D (SetA P w D ks))
theorem cr_setT (hc : X.calm = true) : CallR X (.type "set") (rSetT X.K X.prog X.w) := by
  intro pins s σ H xs us Q I ru hq
  obtain ⟨l, ks, rfl, hl, room, q⟩ := hq
  cases ru with
  | cons r1 r2 =>
    cases r2
    obtain rfl : _ = Value.ref l := r1
    obtain ⟨its, rv, ht, _⟩ := I.tuple hl
    have hk : KeysAre X.prog X.w ks its.toArray.toList := by
      have go : ∀ (ks : List Key) (us : List Value), Vals (ks.map kV) us → KeysAre X.prog X.w ks us := by
        intro ks
        induction ks with
        | nil => intro us r; cases r; exact .nil
        | cons k ks ih =>
          intro us r
          cases r with
          | cons r rr => exact .cons r (ih _ rr)
      simpa using go ks its rv
    refine call_setK ks (I.ok.hd hc) ht hk room fun h' tk S kk => ?_
    exact ⟨.ref s.heap.objs.size, upd H s.heap.objs.size (SetA X.prog X.w s.heap.objs.size ks), I.laid (t' := tk) kk (Nat.le_refl _) (setK_new S), rfl, q _ (I.hok.fresh (Nat.le_refl _))⟩
theorem keys_of {m : Mp} {H : Hp} : ∀ {ts : List T} {vs : List V} {ks : List Key}, RTs X.K X.mg m H ts vs → keysT ts = some ks → vs = ks.map kV
  | _, _, _, .nil, e => by cases e; rfl
  | _, _, _, .cons (t := t) (ts := ts) r q, e => by
    unfold keysT at e
    cases h1 : keyT t with
    | none => rw [h1] at e; simp at e
    | some k =>
      cases h2 : keysT ts with
      | none => rw [h1, h2] at e; simp at e
      | some ks =>
        rw [h1, h2] at e
        cases e
        rw [kv_of r h1, keys_of q h2]; rfl
def oLenSet (x : T) (h : Hh) : Res T := match x with | .tup ts => bLenSet ts h | _ => .stk
theorem nx_olenset : NoX1 oLenSet := fun x h c fs h' e => by unfold oLenSet bLenSet at e; (repeat' split at e) <;> cases e
theorem de_lenSet (hc : X.calm = true) (hg : Gl X "len") (hm : X.mg "len" = none) (hg2 : Gl X "set") (hm2 : X.mg "set" = none) (ha : DE X P W a sa)
    (he : starEach [a] X.env = (false, eval a X.env) :: starEach [] X.env := by rfl) (hpl : (backTo p2 (starEach [] X.env)).any (·.1) = false := by rfl)
    (he2 : starEach [.Call (.Name "set" q2) [a] [] p2] X.env = (false, eval (.Call (.Name "set" q2) [a] [] p2) X.env) :: starEach [] X.env := by rfl) (hpl2 : (backTo pos (starEach [] X.env)).any (·.1) = false := by rfl) :
    DE X P W (.Call (.Name "len" p) [.Call (.Name "set" q2) [a] [] p2] [] pos) (s1 oLenSet sa) :=
  PE.imp (pe_callB cr_lenK hg hm boot_len (pa_cons (pe_callTy (cr_setT hc) hg2 hm2 boot_set (pa_cons ha pa_nil he) (by decide) (by decide) he hpl) pa_nil he2) (by decide) (by decide) he2 hpl2) fun σV H Q h => by
    refine tG.mono (fun v H1 hq => ?_) (one nx_olenset h)
    obtain ⟨m, h, t, r, R, o⟩ := hq
    cases r with
    | @tup l vs ts hl rr =>
      have o' : OutP X.K X.mg Q m H1 (match keysT ts with
        | some ks => if ks.length + 1 < scanBound then .ok (.int (uq ks).length) h else .stk
        | none => .stk) := o
      split at o'
      · rename_i ks hk
        split at o'
        · rename_i room
          have e := keys_of rr hk
          subst e
          refine ⟨l, ks, rfl, hl, room, fun D hD => ⟨D, ks, rfl, upd_same, ?_⟩⟩
          exact o' _ m _ (Ext.garbage R hD) (.int _) (R.garbage hD)
        · exact False.elim o'
      · exact False.elim o'
    | _ => exact False.elim o
theorem lcRun_pre {s : Src} {g : SG} {tt : ST} {te : SE} {σ : St3} : ∀ (k i : Nat) (acc : List T) (h : Hh) (ts : List T) (h' : Hh), lcRun s g tt te σ k i acc h = .ok ts h' → ∃ r, ts = acc ++ r := by
  intro k
  induction k with
  | zero =>
    intro i acc h ts h' e
    unfold lcRun at e
    split at e
    · cases e
    · cases e; exact ⟨[], by simp⟩
    · cases e
  | succ k ih =>
    intro i acc h ts h' e
    unfold lcRun at e
    split at e
    · cases e
    · cases e; exact ⟨[], by simp⟩
    · dsimp only at e
      split at e
      · cases e
      · split at e
        · split at e
          · split at e
            · split at e
              · obtain ⟨r, e2⟩ := ih _ _ _ _ _ e
                rename_i t _ _ _
                exact ⟨t :: r, by rw [e2]; simp⟩
              · cases e
            · cases e
          · exact ih _ _ _ _ _ e
        · cases e
theorem keys_pre : ∀ {as bs : List T} {ks : List Key}, keysT (as ++ bs) = some ks → ∃ k1 k2, keysT as = some k1 ∧ keysT bs = some k2 ∧ ks = k1 ++ k2
  | [], bs, ks, e => ⟨[], ks, rfl, e, rfl⟩
  | t :: as, bs, ks, e => by
    have e' : (match keyT t, keysT (as ++ bs) with | some k, some ks => some (k :: ks) | _, _ => none) = some ks := e
    cases h1 : keyT t with
    | none => rw [h1] at e'; simp at e'
    | some k =>
      cases h2 : keysT (as ++ bs) with
      | none => rw [h1, h2] at e'; simp at e'
      | some k2 =>
        rw [h1, h2] at e'
        cases e'
        obtain ⟨x1, x2, y1, y2, y3⟩ := keys_pre h2
        exact ⟨k :: x1, x2, by unfold keysT; rw [h1, y1], y2, by rw [y3]; rfl⟩
theorem lcRun_nx {s : Src} {g : SG} {tt : ST} {te : SE} {σ : St3} : ∀ (k i : Nat) (acc : List T) (h : Hh) (c : Str) (fs : List (Str × T)) (h' : Hh), lcRun s g tt te σ k i acc h ≠ .exc c fs h' := by
  intro k
  induction k with
  | zero =>
    intro i acc h c fs h' e
    unfold lcRun at e
    split at e <;> cases e
  | succ k ih =>
    intro i acc h c fs h' e
    unfold lcRun at e
    split at e
    · cases e
    · cases e
    · dsimp only at e
      split at e
      · cases e
      · split at e
        · split at e
          · split at e
            · split at e
              · exact ih _ _ _ _ _ _ e
              · cases e
            · cases e
          · exact ih _ _ _ _ _ _ e
        · cases e
theorem sk_read {is vs : List Nat} {g : SG} {tt : ST} {te : SE} (his : ∀ i ∈ is, i ∈ vs) {σV : L2.St} {H : Hp} {Q : VK} (h : tI X.K X.mg P W (sOver bLenSet (saLc si g tt te vs)) σV H Q) :
    tSk X.prog X.w (tG X.K X.mg (SrcJ X.K X.mg) P W si) (tTg X.K X.mg P is g) (tTst X.K X.mg P WF tt) (tI X.K X.mg P WF te) vs σV H (fun v H1 => rLenK X.prog X.w [v] H1 Q) := by
  obtain ⟨m, h, σ, A, o⟩ := h
  have o : Out X.K X.mg (RT X.K X.mg) W σV Q m H ((si σ h).bind fun s h1 => (lcRun s g tt te (wipeT σ vs) (s.len h1) 0 [] h1).bind bLenSet) := by
    have e : sOver bLenSet (saLc si g tt te vs) σ h = ((si σ h).bind fun s h1 => (lcRun s g tt te (wipeT σ vs) (s.len h1) 0 [] h1).bind bLenSet) := by
      unfold sOver saLc
      cases si σ h <;> rfl
    rw [e] at o; exact o
  refine A.first (rel1 := SrcJ X.K X.mg) o fun m1 h1 s J H1 E1 S A1 o1 D hD => ?_
  refine ⟨fun i k H' => ∃ m' h' acc accK, Ext m1 H1 m' H' ∧ HR X.K X.mg m' h' H' ∧ H' D = some (SetA X.prog X.w D accK) ∧ keysT acc = some accK ∧ (∀ l, m' l ≠ some D) ∧
    Out X.K X.mg (RT X.K X.mg) W σV Q m1 H1 ((lcRun s g tt te (wipeT σ vs) k i acc h').bind bLenSet), ⟨s.len h1, m1, h1, [], [], Ext.garbage A1.hr hD, A1.hr.garbage hD, upd_same, rfl, fun l e => ?_, o1⟩, ?_⟩
  · obtain ⟨u, e2, _⟩ := A1.hr.tracked e
    rw [hD] at e2; cases e2
  rintro i k H' ⟨m', h', acc, accK, E', R', hDl, hK, nD, o'⟩
  unfold lcRun at o'
  cases es : s.at h' i with
  | none => rw [es] at o'; exact False.elim o'
  | some ox =>
    cases ox with
    | none =>
      rw [es] at o'
      refine .inl ⟨S.stop m' h' H' i E'.tr R' es, D, accK, rfl, hDl, ?_⟩
      have o2 : Out X.K X.mg (RT X.K X.mg) W σV Q m1 H1 (bLenSet acc h') := o'
      unfold bLenSet at o2
      rw [hK] at o2
      dsimp only at o2
      split at o2
      · exact o2 _ m' H' E' (.int _) R'
      · exact False.elim o2
    | some x =>
      rw [es] at o'
      cases k with
      | zero => exact False.elim o'
      | succ k =>
        obtain ⟨jg, jy⟩ := S.go m' h' H' i x E'.tr R' es
        refine .inr ⟨jg, _, fun H'' q => ⟨k, Nat.lt_succ_self k, q⟩, fun y H2 hy => ?_⟩
        obtain ⟨E2, R2, rx⟩ := jy y H2 hy
        have A2 : At X.K X.mg P m' H2 (L2.wipe σV vs) (wipeT σ vs) h' := ⟨((A1.sr.ext (E'.trans E2)).wipe vs), R2, P.st (E'.trans E2) A1.pr⟩
        refine ⟨m', h', wipeT σ vs, x, A2, rx, ?_⟩
        have keepD : ∀ {m3 H3}, Ext m' H2 m3 H3 → H3 D = some (SetA X.prog X.w D accK) ∧ ∀ l, m3 l ≠ some D := fun {m3 H3} E3 => by
          have d2 : H2 D = some (SetA X.prog X.w D accK) := E2.keep D _ hDl nD
          refine ⟨E3.keep D _ d2 nD, fun l e => ?_⟩
          rcases E3.fresh l D e with z | z
          · exact nD l z
          · rw [d2] at z; cases z
        dsimp only at o'
        cases eg : g x (wipeT σ vs) with
        | none => rw [eg] at o'; exact False.elim o'
        | some σ1 =>
          rw [eg] at o'
          intro σV1 s1 only
          refine ⟨wipe_only his only, m', h', σ1, ⟨s1, R2, A2.pr⟩, ?_⟩
          dsimp only at o'
          cases et : tt σ1 h' with
          | exc c fs h3 => rw [et] at o'; exact False.elim o'
          | stk => rw [et] at o'; exact False.elim o'
          | ok b h3 =>
            rw [et] at o'
            dsimp only at o'
            intro b' m3 H3 E3 eb R3
            subst eb
            cases b with
            | false =>
              rw [if_neg Bool.false_ne_true] at o' ⊢
              obtain ⟨d3, n3⟩ := keepD E3
              exact ⟨m3, h3, acc, accK, (E'.trans E2).trans E3, R3, d3, hK, n3, o'⟩
            | true =>
              rw [if_pos rfl] at o' ⊢
              refine ⟨m3, h3, σ1, ⟨s1.ext E3, R3, P.st E3 A2.pr⟩, ?_⟩
              cases ee : te σ1 h3 with
              | exc c fs h4 => rw [ee] at o'; exact False.elim o'
              | stk => rw [ee] at o'; exact False.elim o'
              | ok t h4 =>
                rw [ee] at o'
                dsimp only at o'
                intro y' m4 H4 E4 rt R4
                obtain ⟨d4, n4⟩ := keepD (E3.trans E4)
                split at o'
                · 
                  have key : ∃ kt, keyT t = some kt ∧ accK.length + 1 < scanBound := by
                    cases el : lcRun s g tt te (wipeT σ vs) k (i + 1) (acc ++ [t]) h4 with
                    | exc c fs h5 => exact absurd el (lcRun_nx _ _ _ _ _ _ _)
                    | stk => rw [el] at o'; exact False.elim o'
                    | ok ts h5 =>
                      rw [el] at o'
                      obtain ⟨r, er⟩ := lcRun_pre _ _ _ _ _ _ el
                      have o2 : Out X.K X.mg (RT X.K X.mg) W σV Q m1 H1 (bLenSet ts h5) := o'
                      unfold bLenSet at o2
                      cases eks : keysT ts with
                      | none => rw [eks] at o2; exact False.elim o2
                      | some ks =>
                        rw [eks] at o2
                        dsimp only at o2
                        split at o2
                        · rename_i room
                          rw [er] at eks
                          obtain ⟨k1, k2, e1, _, e3⟩ := keys_pre eks
                          obtain ⟨k3, k4, e4, e5, e6⟩ := keys_pre e1
                          rw [hK] at e4; cases e4
                          have e7 : (match keyT t, keysT [] with | some k, some ks => some (k :: ks) | _, _ => none) = some k4 := e5
                          cases hkt : keyT t with
                          | none => rw [hkt] at e7; simp at e7
                          | some kt =>
                            refine ⟨kt, rfl, ?_⟩
                            rw [e3, e6, List.length_append, List.length_append] at room
                            omega
                        · exact False.elim o2
                  obtain ⟨kt, hkt, room⟩ := key
                  have ey := kv_of rt hkt
                  refine ⟨kt, accK, ey, d4, room, m4, h4, acc ++ [t], accK ++ [kt], ?_, ?_, upd_same, ?_, n4, o'⟩
                  · exact Ext.out (((E'.trans E2).trans E3).trans E4) hD
                  · exact R4.outA d4 n4
                  · have app : ∀ (as : List T) (ks : List Key), keysT as = some ks → keysT (as ++ [t]) = some (ks ++ [kt]) := by
                      intro as
                      induction as with
                      | nil => intro ks e; cases e; show (match keyT t, keysT [] with | some k, some ks => some (k :: ks) | _, _ => none) = _; rw [hkt]; rfl
                      | cons u as ih =>
                        intro ks e
                        unfold keysT at e
                        cases h1 : keyT u with
                        | none => rw [h1] at e; simp at e
                        | some ku =>
                          cases h2 : keysT as with
                          | none => rw [h1, h2] at e; simp at e
                          | some kas =>
                            rw [h1, h2] at e; cases e
                            show (match keyT u, keysT (as ++ [t]) with | some k, some ks => some (k :: ks) | _, _ => none) = _
                            rw [h1, ih kas h2]; rfl
                    exact app acc accK hK
                · exact False.elim o'
theorem de_lenSc {elt : Expr} {ifs : List Expr} {scope : Scope} {own : List (Str × Nat)} {is : List Nat} {g : SG} {tt : ST} {te : SE} (hc : X.calm = true) (hN : X.N.Nodup) (hg' : Gl X "len") (hm : X.mg "len" = none) (hi : DI X P W tg iter si) (ok : BlkOk X.N X.env.scope scope own)
    (hg : ∀ (s : Shared) (H : Hp) (C : Addr) (cl : List (Str × Addr)) (fp : List Addr), DG (X.blk s H scope (compEnvC scope cl C X.env) fp) P tg is g)
    (ht : ∀ (s : Shared) (H : Hp) (C : Addr) (cl : List (Str × Addr)) (fp : List Addr), DTs (X.blk s H scope (compEnvC scope cl C X.env) fp) P WF ifs tt)
    (he : ∀ (s : Shared) (H : Hp) (C : Addr) (cl : List (Str × Addr)) (fp : List Addr), DE (X.blk s H scope (compEnvC scope cl C X.env) fp) P WF elt te)
    (his : ∀ i ∈ is, i ∈ own.map (·.2) := by decide) (hs : ∀ x, foldedSetIterable iter X.env x = pure x := by intro _; rfl)
    (he2 : starEach [.SetComp elt [⟨tg, iter, ifs, 0⟩] scope p2] X.env = (false, eval (.SetComp elt [⟨tg, iter, ifs, 0⟩] scope p2) X.env) :: starEach [] X.env := by rfl) (hpl2 : (backTo pos (starEach [] X.env)).any (·.1) = false := by rfl) :
    DE X P W (.Call (.Name "len" p) [.SetComp elt [⟨tg, iter, ifs, 0⟩] scope p2] [] pos) (sOver bLenSet (saLc si g tt te (own.map (·.2)))) :=
  PE.imp (pe_callB cr_lenK hg' hm boot_len (pa_cons (pe_sk (own := own) (wi := tG X.K X.mg (SrcJ X.K X.mg) P W si) (g := tTg X.K X.mg P is g) (tt := tTst X.K X.mg P WF tt) (te := tI X.K X.mg P WF te) hc hN hi ok hg ht he hs) pa_nil he2) (by decide) (by decide) he2 hpl2)
    fun σV H Q h => sk_read his h
end
end W3
end

section
namespace W3
open PySem PySem.Spec PyProof.Rows
open L2
theorem hu65 {k : Nat} {A : Around} (hr : Room k A) : A.units + 65 < cLine := by have := hr.un; omega
section
variable {X : Cx} {P : Pq} {W : WX} {a b c o e : Expr} {sa sb sc so : SE} {pos pos' : Pos} {st : Stmt}
theorem dv (i : Nat) {x : Str} (hN : X.N[i]? = some x := by rfl) (hv : Vis X.env.scope x := by first | exact Or.inl rfl | exact Or.inr (Or.inl rfl) | exact Or.inr (Or.inr rfl)) (hd : (x == ("__debug__" : Str)) = false := by decide) (hcd : (x == ("__classdict__" : Str)) = false := by decide) :
    DE X P W (.Name x pos) (sVar i) := de_var hN hv hd hcd
theorem dgs {x s : Str} (hm : ∃ t, X.mg x = some (.str s t)) (hs : PyData.strOk s = true) (hg : Gl X x := by rfl) (hd : (x == ("__debug__" : Str)) = false := by decide) : DE X P W (.Name x pos) (sC (.str s)) := by
  obtain ⟨t, hm⟩ := hm
  exact de_glob (v := .str s) hg hm ⟨_, rfl⟩ (fun _ _ => .str hs) hd
def ssStk : SS := fun _ _ => .stk
end
theorem sqF_of {K : PySem.W.Frag} {H : Hp} {a : Addr} {xs : List V} (hO : Only H) (h : SqL K H a xs) : SqF K H a xs := by
  rcases h with (h | ⟨o, h⟩) | h
  · rcases hO a with z | ⟨o, ys, z⟩
    · rw [z] at h; cases h
    · rw [z] at h; cases h
  · exact .inl ⟨o, h⟩
  · exact .inr h
theorem rts_ints {K : PySem.W.Frag} {mg : Str → Option Value} {m : Mp} {H : Hp} : ∀ ns : List Int, RTs K mg m H (ns.map T.int) (ns.map V.int)
  | [] => .nil
  | n :: ns => .cons (.int n) (rts_ints ns)
theorem sp_law {K : PySem.W.Frag} {mg : Str → Option Value} {f : List T → Hh → Res T} (hf : ∀ ns : List Int, ns.length ≤ 63 → ∃ h', f [.fl (ns.map T.int)] [] = .ok (.bl true) h') {H : Hp} {a : Addr} {ns : List Int} (hl : ns.length ≤ 63) (hO : Only H)
    (hS : SqL K H a (ns.map V.int)) : spT K mg 1 f [.ref a] H (fun v _ => v = .bl true) fun _ _ _ => False := by
  refine ⟨rfl, fun _ => none, [], [.fl (ns.map T.int)], .cons (.fl (sqF_of hO hS) (rts_ints ns)) .nil, ⟨fun l a e => (by cases e), fun l l' a e => (by cases e), fun l o e => by simp at e⟩, ?_⟩
  obtain ⟨h', e⟩ := hf ns hl
  rw [e]
  intro v m' H' _ r _
  cases r
  rfl
end W3
namespace W3
open PySem PySem.Spec PyProof.Rows
open L2
def spL (K : PySem.W.Frag) (f : List T → Hh → Res T) : Sp := fun vs H Q E => ∀ mg, spT K mg 1 f vs H Q E
theorem fnL {P : Program} {w : World} {K : PySem.W.Frag} {mg : Str → Option Value} {base : Heap} {CX : CXT} {k : Nat} {fa : Addr} {fd : FuncData} {ps : List Str} {f : List T → Hh → Res T} (F : FnOk P w K mg base CX k fa fd ps (spT K mg 1 f)) : FnOk P w K mg base CX k fa fd ps (spL K f) :=
  F.imp fun _ _ _ _ h => h mg
end W3
namespace W3
open PySem PySem.Spec PyProof.Rows
open L2
end W3
end

section
namespace W3
open PySem PySem.Spec PyProof.Rows
open L2
def lc2Run (s : Src) (g : SG) (tt : ST) (si1 : SI) (g1 : SG) (tt1 : ST) (te : SE) (vs1 : List Nat) (σ : St3) : Nat → Nat → List T → Hh → Res (List T)
  | k, i, acc, h => match s.at h i with
    | none => .stk
    | some none => .ok acc h
    | some (some x) => match k with
      | 0 => .stk
      | k + 1 => match g x σ with
        | none => .stk
        | some σ1 => match tt σ1 h with
          | .ok b h1 => if b = true then (match si1 σ1 h1 with
              | .ok s1 h2 => (match lcRun s1 g1 tt1 te (wipeT σ1 vs1) (s1.len h2) 0 acc h2 with
                | .ok acc' h3 => lc2Run s g tt si1 g1 tt1 te vs1 σ k (i + 1) acc' h3
                | _ => .stk)
              | _ => .stk) else lc2Run s g tt si1 g1 tt1 te vs1 σ k (i + 1) acc h1
          | _ => .stk
def saLc2 (si : SI) (g : SG) (tt : ST) (si1 : SI) (g1 : SG) (tt1 : ST) (te : SE) (vs vs1 : List Nat) : SA := fun σ h => (si σ h).bind fun s h1 => lc2Run s g tt si1 g1 tt1 te vs1 (wipeT σ vs) (s.len h1) 0 [] h1
section
variable {X : Cx} {P : Pq} {W : WX} {a b c tg iter tg1 iter1 : Expr} {sa sb sc : SE} {pos : Pos} {es : List Expr} {ar : SA} {si si1 : SI} {ta tb : ST} {rest : List Expr}
end
section
variable {X : Cx} {P : Pq} {W : WX} {a b c o e : Expr} {sa sb sc so : SE} {pos pos' apos cpos tpos p p2 p3 : Pos} {es : List Expr} {ar : SA}
end
end W3
end

section
namespace PySem
open Builtin
open AutoSeq1 (wpAny_loadPart')
end PySem
namespace W3
open PySem PySem.Spec PyProof.Rows
open L2
def enumL : Nat → List T → List T
  | _, [] => []
  | i, t :: ts => .tup [.int i, t] :: enumL (i + 1) ts
section
variable {K : PySem.W.Frag} {mg : Str → Option Value} {m : Mp} {H : Hp}
end
def enumOf (xs : List T) (h : Hh) : Res Src := match xs with | [.tup ts] => .ok (.its (enumL 0 ts)) h | _ => .stk
def siEnum (a : SA) : SI := fun σ h => (a σ h).bind enumOf
section
variable {X : Cx} {P : Pq} {W : WX} {a b c : Expr} {ar : SA} {pos : Pos}
end
theorem RTs.two {K : PySem.W.Frag} {mg : Str → Option Value} {m : Mp} {H : Hp} {t u : T} {vs : List V} (r : RTs K mg m H [t, u] vs) : ∃ v w, vs = [v, w] ∧ RT K mg m H t v ∧ RT K mg m H u w := by
  cases r with
  | cons r1 rr =>
    cases rr with
    | cons r2 rn => cases rn; exact ⟨_, _, rfl, r1, r2⟩
end W3
end

section
namespace W3
open PySem PySem.Spec PyProof.Rows PySem.W
open L2
structure ExF (prog : Program) (K : PySem.W.Frag) (C f c cc : Addr) (fd : FuncData) : Prop where
  oex : OexC K C
  fn : ∃ oc od osl, K.lookup f = some ⟨oc, od, .func fd, osl⟩
  code : ∃ ccl cdd vs ccs file tf, K.lookup c = some ⟨ccl, cdd, .fields vs, ccs⟩ ∧ vs[2]? = some (.str file tf) ∧ ((prog.main.file : Str) == file) = true
  cell : ∃ cl cld csl, K.lookup cc = some ⟨cl, cld, .cell (some (.ref C)), csl⟩
  sup : PySem.W.ks_superIn K C C "__init__" = some (some (.builtin "ValueError.__init__"))
  subV : PySem.W.subIn K (.ref C) (.type "ValueError") = some true
  subC : PySem.W.mroIn K C (.ref C) = some true
  opq : PySem.W.nsIn K cStatics "thirdparty.any" = some none
  top : (prog.main.scope.names.lookup ("super" : Str)).isSome = false
theorem boot_super : bootBuiltins "super" = some (.type "super") := by decide +kernel
theorem clsIn_of {K : PySem.W.Frag} {C : Addr} (T : OexC K C) : ∃ cd, PySem.W.clsIn K C = some cd := by
  obtain ⟨nm, q, N, bs, bm, sn, sub, ab, col, dd, k0, k1, k2, k3, k5, hC, hbm⟩ := T.cls
  unfold PySem.W.clsIn
  rw [hC]
  exact ⟨_, rfl⟩
theorem call_mwV {prog : Program} {w : World} {A : Around} {E : Value → Shared → Prop} {h : Heap} {g : Array GenState} {d : Drawn} {t : Nat} {os : OsState} {nm q : Str} {C N : Addr} {bs bm : List Value} {hdct : Bool} {sn : List Str} {sub : List Value} {ab : Bool} {col : Option Bool} {dd : Option Addr} {k0 k1 k2 k3 k5 : Option Value}
    {u e t0 : Addr} {rest : List Value} {Q : Value → Shared → Prop} (hC : h.get? C = some (excClassObj nm q C N bs bm hdct sn sub ab col dd k0 k1 k2 k3 k5 "ValueError.__new__")) (he : h.get? e = some (HandSPX.excO C t0)) (hu : h.get? u = some (kxs_mw "ValueError.__init__" e)) (hrest : rest.length ≤ sizeLine)
    (hq : ∀ h' t1, (∀ b o, b ≠ e → h.get? b = some o → h'.get? b = some o) → h'.get? e = some (HandSPX.excO C t1) → Q .none ⟨h', g, d, t, os⟩) : wpAny (model prog w) A (call (.ref u) rest) Q E ⟨h, g, d, t, os⟩ := by
  refine wpAny_call (codeAny_of_tree ?_)
  show wpAny _ A.in1 (callAny (.ref u) ⟨rest, []⟩) _ _ _
  simp only [callAny]
  refine wpAny_bind (wpAny_load hu ?_)
  simp only [kxs_mw, show (Value.type "method-wrapper" == Value.type "method" || Value.type "method-wrapper" == Value.type "builtin_function_or_method" || Value.type "method-wrapper" == Value.type "method-wrapper") = true by decide, if_true]
  refine W.KFB.if_so (by decide) ?_
  refine wpAny_bind (ESX.check_bound F.excBase_ValueError hC he rfl ?_)
  refine wpAny_bind (wpAny_pure (wpAny_pure ?_))
  refine ⟨Code.quiet_builtin _ (by decide +kernel), codeAny_builtin F.excBase_ValueError.initEntry ?_⟩
  rw [Around.under_plainId F.excBase_ValueError.init.plain _]
  wp_walk
  refine hq _ h.objs.size (fun b o hb ho => ?_) ?_
  · rw [Heap.get?_update_other _ _ (Ne.symm hb)]
    exact Heap.get?_push_of_some _ ho
  · rw [Heap.get?_update_self _ (Heap.get?_push_of_some _ he) rfl]
    rfl
section
variable {X : Cx} {pins : List (Addr × Obj)} {σ : L2.St} {H : Hp} {s : Shared}
theorem exc_first {C f c cc a : Addr} {fd : FuncData} {body : List Stmt} {p0 p1 p2 apos cpos pos : Pos} {j : Nat} {txt : Str} {ar : Arg} {pl : Sem Bool} (F : ExF X.prog X.K C f c cc fd) (I : L2.Inv X pins σ H s)
    (hfu : X.env.func = some f) (hco : X.env.code = .ref c) (hcl : X.env.cells.lookup ("__class__" : Str) = some cc) (hks : X.env.kindOf "super" = some .globalImplicit) (hkc : X.env.kindOf "__class__" = some .free)
    (hp : (fd.params.posonlyargs ++ fd.params.args).head? = some ar) (hN : X.N[0]? = some ar.arg) (hka : X.env.kindOf ar.arg = some .local) (h0 : σ[0]? = some (some (.ref a))) (hm : X.mg "super" = none) (ea : H a = some (exo a C none))
    (hi : interactive X.env = false) (hs : swapsWith (.Call (.Attribute (.Call (.Name "super" p0) [] [] p1) "__init__" apos) [.Constant (.str txt) j p2] [] cpos) none pos.line X.env = pure false)
    (hmc : eval (.Call (.Attribute (.Call (.Name "super" p0) [] [] p1) "__init__" apos) [.Constant (.str txt) j p2] [] cpos) X.env = (do
      let ov ← attributeBase (.Call (.Name "super" p0) [] [] p1) "__init__" X.env (eval (.Call (.Name "super" p0) [] [] p1) X.env)
      standAt apos.atName
      let (f, first) ← holding [ov] (getMethod ov "__init__" pl)
      callWith cpos f first (backTo cpos (starEach [.Constant (.str txt) j p2] X.env)) []))
    (he : starEach [.Constant (.str txt) j p2] X.env = (false, eval (.Constant (.str txt) j p2) X.env) :: starEach [] X.env) (hpl : (backTo cpos (starEach [] X.env)).any (·.1) = false) :
    _root_.PySem.wpAt (model X.prog X.w) X.A (.func body X.env) (exec (.Expr (.Call (.Attribute (.Call (.Name "super" p0) [] [] p1) "__init__" apos) [.Constant (.str txt) j p2] [] cpos) pos) X.env) (fun fl s' => fl = .next ∧ L2.Inv X pins σ H s') X.xe s := by
  obtain ⟨oc, od, osl, hf⟩ := F.fn
  obtain ⟨ccl, cdd, vs, ccs, file, tf, hcode, hvs, hfile⟩ := F.code
  obtain ⟨cl, cld, csl, hcell⟩ := F.cell
  obtain ⟨nm, q, N, bs, bm, sn, sub, ab, col, dd, k0, k1, k2, k3, k5, hC, hbm⟩ := F.oex.cls
  have K1 := I.kIn
  refine ks_wpAt_Expr_any ?_ hi hs
  refine ks_wpAt_MethodCall (pl := pl) ?_ hmc
  refine ks_wpAt_super_base hks hkc (by decide) hfu (K1 _ _ hf) rfl hp hco (K1 _ _ hcode) rfl hvs hfile F.top ?_
  obtain ⟨mb, b1, b2⟩ := I.mod.blt
  refine ks_loadName_global I.ok.kind hks (Calls.loadGlobal_builtin (by rw [I.ok.glob]; exact I.mod.glob.keeps I.bk) hm (by rw [I.ok.blt]; exact b1.keeps I.bk) ((b2 "super" (by decide)).trans boot_super) ⟨rfl, ?_⟩)
  refine wpAny_loadName_free I.ok.kind hkc hcl ⟨_, K1 _ _ hcell, rfl⟩ ?_
  obtain ⟨m, hn, hl⟩ := I.loc
  obtain ⟨u, ru, lk⟩ := hl 0 ar.arg (.ref a) hN h0 (.inl hka)
  obtain rfl : u = .ref a := ru
  have hmv : m ar.arg = some (.ref a) := by
    rcases lk with ⟨_, z⟩ | ⟨z | z, _⟩
    · exact z
    · rw [hka] at z; cases z
    · rw [hka] at z; cases z
  refine wpAny_loadName_local I.ok.kind hka hn hmv ?_
  obtain ⟨hp', g, d, t, os⟩ := s
  obtain ⟨t1, hx⟩ := exo_at I.hok ea
  have hC' := K1 _ _ hC
  refine ks_wpAny_isType_cls hC' rfl ⟨rfl, ?_⟩
  refine ks_wpAny_call_super hC' rfl hx rfl (fun _ z => by cases z) (looks_mroIn K1 F.subC) fun h1 e1 k1 => ?_
  have I1 : L2.Inv X pins σ H ⟨h1, g, d, t, os⟩ := I.kept (t' := t) k1
  have K2 := I1.kIn
  obtain ⟨cd, hcd⟩ := clsIn_of F.oex
  have hsup := F.sup
  unfold ks_superIn at hsup
  rw [hcd] at hsup
  have hInst : Looks (model X.prog X.w) h1 (isInstance (.ref a) (.type "ValueError")) true := by
    have LT : Looks (model X.prog X.w) h1 (typeOf (.ref a)) (.ref C) := fun A Q E s k q => wpAny_typeOf_ref (k _ _ (k1 _ _ hx)) q
    exact LT.andThen (looks_subIn K2 F.subV)
  have hne : a ≠ C := fun z => by
    rw [z, hC'] at hx
    cases hx
  refine kxs_getMethod kxs_ValueError e1 (looks_opaque K2 F.opq) (l₀ := cd.mro) (fun A Q E s k q => wpAny_bind ((looks_clsIn K2 hcd) A _ E s k (wpAny_pure q))) rfl K2 hsup hInst hne (by decide) ?_
  have k2 : ∀ b o, h1.get? b = some o → (h1.push (kxs_mw "ValueError.__init__" a)).get? b = some o := fun b o e => Heap.get?_push_of_some _ e
  have I2 : L2.Inv X pins σ H ⟨h1.push (kxs_mw "ValueError.__init__" a), g, d, t + 1, os⟩ := I1.kept (t' := t + 1) k2
  have hu : (h1.push (kxs_mw "ValueError.__init__" a)).get? h1.objs.size = some (kxs_mw "ValueError.__init__" a) := Heap.get?_push_at rfl rfl
  refine kxs_callWith (i := "ValueError.__init__") (x := a) ?_ ?_
  · rw [he]
    show (false || (backTo cpos (starEach [] X.env)).any (·.1)) = false
    rw [hpl]; rfl
  rw [he]
  refine Calls.evalArgs_plain ?_
  refine Calls.spliced_cons (Calls.Constant_str (k := j) (pos := p2) (Calls.spliced_nil ⟨hu, ?_⟩))
  obtain ⟨t2, hx2⟩ := exo_at (I2.tok (t + 2)).hok ea
  refine call_mwV (I2.kIn _ _ hC) hx2 hu (by show 1 ≤ sizeLine; decide) fun h' t3 k3 hx3 => ⟨rfl, ?_⟩
  have J := (I2.tok (t + 2)).write (t' := t + 2) (x := a) (e := a) (o := exo a C none) (by rw [ea]; exact True.intro) (.inl rfl) k3 ⟨_, hx3⟩ (exo_ok hx3)
  have eu : upd H a (exo a C none) = H := by
    funext b
    by_cases hb : b = a
    · rw [hb, upd_same, ea]
    · rw [upd_ne hb]
  rw [eu] at J
  exact J
end
abbrev nfE (name qual : Str) (params : Arguments) (body : List Stmt) (scope : Scope) (cc c : Addr) : NdefX.NF := ⟨name, qual, params, body, scope, [("__class__", cc)], c⟩
abbrev fdE (name qual : Str) (params : Arguments) (body : List Stmt) (scope : Scope) (cc c : Addr) (doc pm ct : Value) (an : Option Addr) : FuncData := PySem.W.fnX name qual params body scope [("__class__", cc)] .none .none doc pm an (.ref c) ct
theorem fn_exc {CX : CXT} {P : Program} {w : World} {K : PySem.W.Frag} {mg : Str → Option Value} {base : Heap} {k : Nat} {f c cc C : Addr} {name qual : Str} {params : Arguments} {rest : List Stmt} {scope : Scope} {doc pm ct : Value} {an : Option Addr} {N ps : List Str} {sp : Sp} {ar : Arg} {pl : Sem Bool}
    {p0 p1 p2 apos cpos pos : Pos} {j : Nat} {txt : Str}
    (F : ExF P K C f c cc (fdE name qual params (.Expr (.Call (.Attribute (.Call (.Name "super" p0) [] [] p1) "__init__" apos) [.Constant (.str txt) j p2] [] cpos) pos :: rest) scope cc c doc pm ct an))
    (hcd : PySem.W.codeIn K (.ref c) qual = true) (S : NdefX.NScope N ps ["__class__"] scope) (len : ∀ vs H Q E, sp vs H Q E → vs.length = ps.length) (hks : scope.names.lookup ("super" : Str) = some .globalImplicit)
    (hp : (params.posonlyargs ++ params.args).head? = some ar) (hN : N[0]? = some ar.arg) (hka : scope.names.lookup ar.arg = some .local) (hm : mg "super" = none)
    (hline : ∀ L : Addr, interactive (NdefX.envF (nfE name qual params (.Expr (.Call (.Attribute (.Call (.Name "super" p0) [] [] p1) "__init__" apos) [.Constant (.str txt) j p2] [] cpos) pos :: rest) scope cc c) f L) = false ∧ swapsWith (.Call (.Attribute (.Call (.Name "super" p0) [] [] p1) "__init__" apos) [.Constant (.str txt) j p2] [] cpos) none pos.line (NdefX.envF (nfE name qual params (.Expr (.Call (.Attribute (.Call (.Name "super" p0) [] [] p1) "__init__" apos) [.Constant (.str txt) j p2] [] cpos) pos :: rest) scope cc c) f L) = pure false ∧
      eval (.Call (.Attribute (.Call (.Name "super" p0) [] [] p1) "__init__" apos) [.Constant (.str txt) j p2] [] cpos) (NdefX.envF (nfE name qual params (.Expr (.Call (.Attribute (.Call (.Name "super" p0) [] [] p1) "__init__" apos) [.Constant (.str txt) j p2] [] cpos) pos :: rest) scope cc c) f L) = (do
        let ov ← attributeBase (.Call (.Name "super" p0) [] [] p1) "__init__" (NdefX.envF (nfE name qual params (.Expr (.Call (.Attribute (.Call (.Name "super" p0) [] [] p1) "__init__" apos) [.Constant (.str txt) j p2] [] cpos) pos :: rest) scope cc c) f L) (eval (.Call (.Name "super" p0) [] [] p1) (NdefX.envF (nfE name qual params (.Expr (.Call (.Attribute (.Call (.Name "super" p0) [] [] p1) "__init__" apos) [.Constant (.str txt) j p2] [] cpos) pos :: rest) scope cc c) f L))
        standAt apos.atName
        let (g, first) ← holding [ov] (getMethod ov "__init__" pl)
        callWith cpos g first (backTo cpos (starEach [.Constant (.str txt) j p2] (NdefX.envF (nfE name qual params (.Expr (.Call (.Attribute (.Call (.Name "super" p0) [] [] p1) "__init__" apos) [.Constant (.str txt) j p2] [] cpos) pos :: rest) scope cc c) f L))) []))
    (hbody : ∀ (A : Around) (outer : List Env) (s : Shared) (H : Hp) (vs : List V) (Q : VK) (E : XK), sp vs H Q E → ∃ a, vs[0]? = some (.ref a) ∧ H a = some (exo a C none) ∧
      ∃ t, PSs (NdefX.ncx CX P w K mg base N (nfE name qual params (.Expr (.Call (.Attribute (.Call (.Name "super" p0) [] [] p1) "__init__" apos) [.Constant (.str txt) j p2] [] cpos) pos :: rest) scope cc c) f A outer s H E) rest t ∧ t { nx := fun _ H' => Q .non H', rt := Q } (NdefX.startF N vs [none]) H) :
    FnOk P w K mg base CX (k + 1) f (fdE name qual params (.Expr (.Call (.Attribute (.Call (.Name "super" p0) [] [] p1) "__init__" apos) [.Constant (.str txt) j p2] [] cpos) pos :: rest) scope cc c doc pm ct an) ps sp := by
  refine ⟨len, fun A outer s H args us vs Q E hr e0 hb r hsp => ?_⟩
  obtain ⟨oc, od, osl, lk⟩ := F.fn
  obtain ⟨cl, cld, csl, hcell⟩ := F.cell
  have hl := len _ _ _ _ hsp
  have KX : K.In s.heap := e0.mod.kin.keeps fun b o e => (e0.bs b o e).1
  have lim : s.heap.NoLimit := e0.mod.nolimit.keeps fun b o e => (e0.bs b o e).1
  obtain ⟨a, h0, ea, t, ht, hq⟩ := hbody A outer s H vs Q E hsp
  have hcc := e0.mod.kin _ _ hcell
  have CA : NdefX.CellsAt [(("__class__" : Str), cc)] ["__class__"] [none] s.heap H := by
    have one : ∀ (y : Str) (c' : Addr), ([(("__class__" : Str), cc)] : List (Str × Addr)).lookup y = some c' → c' = cc ∧ y = "__class__" := fun y c' e => by
      simp only [List.lookup] at e
      split at e
      · rename_i q
        cases e
        exact ⟨rfl, by simpa using q⟩
      · cases e
    refine ⟨rfl, fun y c' e => ?_, fun x y c' e1 e2 => ?_, fun i y e => ?_⟩
    · obtain ⟨rfl, _⟩ := one y c' e
      exact ⟨(e0.bs _ _ hcc).2, _, _, (e0.bs _ _ hcc).1, rfl⟩
    · rw [(one x c' e1).2, (one y c' e2).2]
    · cases i with
      | zero =>
        simp at e
        subst e
        exact ⟨cc, by simp [List.lookup], fun v z => by simp at z⟩
      | succ i => simp at e
  refine ks_codeAny_call_defAt hr.depth (KX _ _ lk) rfl lim (PySem.W.codeRec_of KX hcd) rfl hb S.nocell (fun ⟨n, v⟩ hy => S.par n (List.of_mem_zip hy).1) (fun h₁ hns hk => ?_) S.co S.gen S.kind
  have I : L2.Inv (NdefX.ncx CX P w K mg base N (nfE name qual params (.Expr (.Call (.Attribute (.Call (.Name "super" p0) [] [] p1) "__init__" apos) [.Constant (.str txt) j p2] [] cpos) pos :: rest) scope cc c) f A outer s H E) [] (NdefX.startF N vs [none]) H { s with heap := h₁, toks := s.toks + (ps.zip us).length } := NdefX.inv_startN S hr.hd e0 hl r CA hns hk
  obtain ⟨hi, hs, hmc⟩ := hline s.heap.objs.size
  have hs0 : (NdefX.startF N vs [none])[0]? = some (some (.ref a)) := by
    unfold NdefX.startF
    cases vs with
    | nil => simp at h0
    | cons v vs => simp at h0; subst h0; simp
  refine ks_wpAt_execs_cons (ks_wpAt_mono (exc_first (X := NdefX.ncx CX P w K mg base N (nfE name qual params (.Expr (.Call (.Attribute (.Call (.Name "super" p0) [] [] p1) "__init__" apos) [.Constant (.str txt) j p2] [] cpos) pos :: rest) scope cc c) f A outer s H E) F I rfl rfl (by simp [NdefX.ncx, List.lookup]) hks (S.frk _ (by simp)) hp hN hka hs0 hm ea hi hs hmc rfl rfl) (fun fl s' z => ?_) fun e s' z => z)
  obtain ⟨rfl, J⟩ := z
  refine wpAt_of_wpAny (wpAny_mono (ht.run [] s' _ H _ J hq) (fun fl s2 hs2 => ?_) fun e s2 z => z)
  have fin : ∀ {σ' : L2.St} {H' : Hp} {v : V} {u : Value}, L2.Inv (NdefX.ncx CX P w K mg base N (nfE name qual params (.Expr (.Call (.Attribute (.Call (.Name "super" p0) [] [] p1) "__init__" apos) [.Constant (.str txt) j p2] [] cpos) pos :: rest) scope cc c) f A outer s H E) [] σ' H' s2 → L2.RelV v u → Q v H' → CE outer P w H s Q u s2 :=
    fun {σ' H' v u} J rv q => ⟨v, H', J.os, J.bare, J.base, J.hok, rv, q⟩
  cases fl with
  | ret u =>
    obtain ⟨v, σ', H', J, rv, q⟩ := hs2
    exact fin J rv q
  | next =>
    obtain ⟨σ', H', J, q⟩ := hs2
    exact fin (v := V.non) (u := Value.none) J rfl q
  | brk =>
    obtain ⟨_, _, _, q⟩ := hs2
    exact False.elim q
  | cont =>
    obtain ⟨_, _, _, q⟩ := hs2
    exact False.elim q
end W3
end

section
namespace W3
open PySem PySem.Spec PyProof.Rows PySem.W
open L2
def spE1 (C : Addr) (f1 : Str) : Sp := fun vs H Q E => ∃ (a : Addr) (y1 : V), vs = [.ref a, y1] ∧ H a = some (exo a C none) ∧ ∀ dx, H dx = none → dx ≠ a → Q .non (upd (upd H dx (exd dx [(f1, y1)])) a (exo a C (some dx)))
def spE2 (C : Addr) (f1 f2 : Str) : Sp := fun vs H Q E => ∃ (a : Addr) (y1 y2 : V), vs = [.ref a, y1, y2] ∧ H a = some (exo a C none) ∧ ∀ dx, H dx = none → dx ≠ a → Q .non (upd (upd (upd H dx (exd dx [(f1, y1)])) a (exo a C (some dx))) dx (exd dx [(f2, y2), (f1, y1)]))
section
variable {X : Cx} {q1 q2 q3 q4 r1 r2 r3 r4 : Pos} {sf a1 a2 f1 f2 : Str} {C : Addr}
theorem body1 {σ : L2.St} {H : Hp} {D : Ends} (T : OexC X.K C) (n1 : PySem.W.findIn X.K (.ref C) f1 = some none) (hN0 : X.N[0]? = some sf) (hN1 : X.N[1]? = some a1) (v0 : Vis X.env.scope sf) (v1 : Vis X.env.scope a1) (hd0 : (sf == ("__debug__" : Str)) = false) (hc0 : (sf == ("__classdict__" : Str)) = false) (hd1 : (a1 == ("__debug__" : Str)) = false) (hc1 : (a1 == ("__classdict__" : Str)) = false)
    (hs : swapsWith (.Name a1 q3) (some (.Attribute (.Name sf q1) f1 q2)) q4.line X.env = pure false) {a : Addr} {y1 : V} (e0 : σ[0]? = some (some (.ref a))) (e1 : σ[1]? = some (some y1)) (ea : H a = some (exo a C none)) (q : ∀ dx, H dx = none → dx ≠ a → D.nx σ (upd (upd H dx (exd dx [(f1, y1)])) a (exo a C (some dx)))) :
    ∃ t, PSs X [.Assign [.Attribute (.Name sf q1) f1 q2] (.Name a1 q3) q4] t ∧ t D σ H :=
  ⟨_, pss_one (ps_ost (pe_var (i := 0) hN0 v0 hd0 hc0) (pe_var (i := 1) hN1 v1 hd1 hc1) hs), ⟨y1, e1, .ref a, e0, a, C, rfl, T, n1, .inl ⟨ea, q⟩⟩⟩
theorem body2 {σ : L2.St} {H : Hp} {D : Ends} (T : OexC X.K C) (n1 : PySem.W.findIn X.K (.ref C) f1 = some none) (n2 : PySem.W.findIn X.K (.ref C) f2 = some none) (hN0 : X.N[0]? = some sf) (hN1 : X.N[1]? = some a1) (hN2 : X.N[2]? = some a2) (v0 : Vis X.env.scope sf) (v1 : Vis X.env.scope a1) (v2 : Vis X.env.scope a2)
    (hd0 : (sf == ("__debug__" : Str)) = false) (hc0 : (sf == ("__classdict__" : Str)) = false) (hd1 : (a1 == ("__debug__" : Str)) = false) (hc1 : (a1 == ("__classdict__" : Str)) = false) (hd2 : (a2 == ("__debug__" : Str)) = false) (hc2 : (a2 == ("__classdict__" : Str)) = false)
    (hs : swapsWith (.Name a1 q3) (some (.Attribute (.Name sf q1) f1 q2)) q4.line X.env = pure false) (hs2 : swapsWith (.Name a2 r3) (some (.Attribute (.Name sf r1) f2 r2)) r4.line X.env = pure false) {a : Addr} {y1 y2 : V} (e0 : σ[0]? = some (some (.ref a))) (e1 : σ[1]? = some (some y1)) (e2 : σ[2]? = some (some y2)) (ea : H a = some (exo a C none))
    (q : ∀ dx, H dx = none → dx ≠ a → D.nx σ (upd (upd (upd H dx (exd dx [(f1, y1)])) a (exo a C (some dx))) dx (exd dx [(f2, y2), (f1, y1)]))) :
    ∃ t, PSs X [.Assign [.Attribute (.Name sf q1) f1 q2] (.Name a1 q3) q4, .Assign [.Attribute (.Name sf r1) f2 r2] (.Name a2 r3) r4] t ∧ t D σ H := by
  refine ⟨_, pss_cons (ps_ost (pe_var (i := 0) hN0 v0 hd0 hc0) (pe_var (i := 1) hN1 v1 hd1 hc1) hs) (pss_one (ps_ost (pe_var (i := 0) hN0 v0 hd0 hc0) (pe_var (i := 2) hN2 v2 hd2 hc2) hs2)), ⟨y1, e1, .ref a, e0, a, C, rfl, T, n1, .inl ⟨ea, fun dx hn hne => ?_⟩⟩⟩
  refine ⟨y2, e2, .ref a, e0, a, C, rfl, T, n2, .inr ⟨dx, [(f1, y1)], upd_same, ?_, by simp, q dx hn hne⟩⟩
  rw [upd_ne hne, upd_same]
end
def ssRaiseX (c : Str) (ns : List Str) (a : SA) : SS := fun σ h => (a σ h).flo σ fun xs h1 => if xs.length = ns.length then .exc c (ns.zip xs).reverse σ h1 else .stk
section
variable {X : Cx} {P : Pq} {W : WX} {e : Expr} {es : List Expr} {ar : SA} {x : Str} {C fI : Addr} {k : Nat} {fd : FuncData} {ps : List Str} {p pos pos' : Pos}
theorem exc_out {m : Mp} {H : Hp} {h : Hh} {σV : L2.St} {σ : St3} {D : Ends} {fs : List (Str × T)} {fv : List (Str × V)} {c : Str} (A : At X.K X.mg P m H σV σ h) (hm : X.mg c = some (.ref C)) (o : OutS X.K X.mg W D m H (.exc c fs σ h)) (r : RF X.K X.mg m H fs fv) {d : Addr} (hd : H d = none) : W (.ref C) (some d) σV (upd H d (.xd fv)) := by
  have E := Ext.garbage (o := .xd fv) A.hr hd
  exact o (.ref C) (some d) σV m _ E (A.sr.ext E) ⟨hm, .inr ⟨d, fv, rfl, upd_same, r.ext E⟩⟩ (A.hr.garbage hd)
theorem ds_raise1 {f1 : Str} (hc : X.calm = true) (tk : Takes X W) (T : OexC X.K C) (iC : PySem.W.findIn X.K (.ref C) "__init__" = some (some (.ref fI))) (tI : PySem.W.typeIn X.K (.ref fI) = some (.type "function"))
    (F1 : FnOk X.prog X.w X.K X.mg X.base (L2.CX X.prog X.w) k fI fd ps (spE1 C f1)) (hr : Room (k + 1) X.A) (hb : Binds X.K fd ps []) (hg : Gl X x) (hm : X.mg x = some (.ref C)) (ha : DA X P W (e :: es) ar)
    (hdb : (x == ("__debug__" : Str)) = false := by decide) (he : starEach (e :: es) X.env = (false, eval e X.env) :: starEach es X.env := by rfl) (hpl : (backTo pos (starEach es X.env)).any (·.1) = false := by rfl) :
    DS X P W (.Raise (some (.Call (.Name x p) (e :: es) [] pos)) none pos') (ssRaiseX x [f1] ar) := by
  refine PS.imp (ps_raise hc tk (pmk_oex T iC tI F1 hr hb .nil (passes_call tk fun _ _ _ _ z => z.elim) hg hm ha hdb he hpl)) fun D σV H ⟨m, h, σ, A, o⟩ => ?_
  refine A.flo (rel1 := RTs X.K X.mg) o fun m1 h1 ts vs H1 E1 r A1 o1 => ?_
  split at o1
  · rename_i hl
    match ts, hl with
    | [t], _ =>
      obtain ⟨v, rfl, rv⟩ := r.one
      refine ⟨by simp, fun a hn => ⟨a, v, rfl, upd_same, fun dx hdx hne => ⟨rfl, dx, [(f1, v)], upd_same, ?_, ?_, ?_⟩⟩⟩
      · rw [upd_ne hne, upd_same]
      · rw [upd_ne hne] at hdx; exact hdx
      · have hdx' : H1 dx = none := by rw [upd_ne hne] at hdx; exact hdx
        have eq : upd (del (upd (upd (upd H1 a (exo a C none)) dx (exd dx [(f1, v)])) a (exo a C (some dx))) a) dx (.xd [(f1, v)]) = upd H1 dx (.xd [(f1, v)]) := by
          funext b
          by_cases hb : b = dx
          · rw [hb, upd_same, upd_same]
          · rw [upd_ne hb, upd_ne hb]
            by_cases hb2 : b = a
            · rw [hb2, del_same, hn]
            · rw [del_ne hb2, upd_ne hb2, upd_ne hb, upd_ne hb2]
        rw [eq]
        exact exc_out A1 hm o1 (.cons rv .nil) hdx'
  · exact False.elim o1
theorem ds_raise2 {f1 f2 : Str} (hc : X.calm = true) (tk : Takes X W) (T : OexC X.K C) (iC : PySem.W.findIn X.K (.ref C) "__init__" = some (some (.ref fI))) (tI : PySem.W.typeIn X.K (.ref fI) = some (.type "function"))
    (F1 : FnOk X.prog X.w X.K X.mg X.base (L2.CX X.prog X.w) k fI fd ps (spE2 C f1 f2)) (hr : Room (k + 1) X.A) (hb : Binds X.K fd ps []) (hg : Gl X x) (hm : X.mg x = some (.ref C)) (ha : DA X P W (e :: es) ar)
    (hdb : (x == ("__debug__" : Str)) = false := by decide) (he : starEach (e :: es) X.env = (false, eval e X.env) :: starEach es X.env := by rfl) (hpl : (backTo pos (starEach es X.env)).any (·.1) = false := by rfl) :
    DS X P W (.Raise (some (.Call (.Name x p) (e :: es) [] pos)) none pos') (ssRaiseX x [f1, f2] ar) := by
  refine PS.imp (ps_raise hc tk (pmk_oex T iC tI F1 hr hb .nil (passes_call tk fun _ _ _ _ z => z.elim) hg hm ha hdb he hpl)) fun D σV H ⟨m, h, σ, A, o⟩ => ?_
  refine A.flo (rel1 := RTs X.K X.mg) o fun m1 h1 ts vs H1 E1 r A1 o1 => ?_
  split at o1
  · rename_i hl
    match ts, hl with
    | [t, t2], _ =>
      obtain ⟨v, v2, rfl, rv, rv2⟩ := r.two
      refine ⟨by simp, fun a hn => ⟨a, v, v2, rfl, upd_same, fun dx hdx hne => ⟨rfl, dx, [(f2, v2), (f1, v)], ?_, upd_same, ?_, ?_⟩⟩⟩
      · rw [upd_ne (Ne.symm hne), upd_same]
      · rw [upd_ne hne] at hdx; exact hdx
      · have hdx' : H1 dx = none := by rw [upd_ne hne] at hdx; exact hdx
        have eq : upd (del (upd (upd (upd (upd H1 a (exo a C none)) dx (exd dx [(f1, v)])) a (exo a C (some dx))) dx (exd dx [(f2, v2), (f1, v)])) a) dx (.xd [(f2, v2), (f1, v)]) = upd H1 dx (.xd [(f2, v2), (f1, v)]) := by
          funext b
          by_cases hb : b = dx
          · rw [hb, upd_same, upd_same]
          · rw [upd_ne hb, upd_ne hb]
            by_cases hb2 : b = a
            · rw [hb2, del_same, hn]
            · rw [del_ne hb2, upd_ne hb, upd_ne hb2, upd_ne hb, upd_ne hb2]
        rw [eq]
        exact exc_out A1 hm o1 (.cons rv2 (.cons rv .nil)) hdx'
  · exact False.elim o1
end
end W3
end

section
namespace W3
open PySem PySem.Spec PyProof.Rows
open L2
abbrev Tsu := Addr → Value → Option Addr → TS
inductive HdsA (X : Cx) : List ExceptHandler → List (Value × Option Nat × Tsu) → Prop
  | nil : HdsA X [] []
  | cons {x : Str} {c : Value} {ts : Tsu} {b₀ : Stmt} {suite : List Stmt} {np pos' : Pos} {hds : List ExceptHandler} {l : List (Value × Option Nat × Tsu)} (hc : Names X x c)
      (hsu : ∀ (a : Addr) (oe : Obj) (cls : Value) (d : Option Addr) (pn : List (Addr × Obj)), Zc cls d oe → (∃ vs, oe.data = .fields vs) → PSs (X.suite a ((a, oe) :: pn)) (b₀ :: suite) (ts a cls d)) (r : HdsA X hds l) :
      HdsA X (.ExceptHandler (some (.Name x np)) none (b₀ :: suite) pos' :: hds) ((c, none, ts) :: l)
  | cas {x n : Str} {i : Nat} {c : Value} {ts : Tsu} {b₀ : Stmt} {suite : List Stmt} {np pos' : Pos} {hds : List ExceptHandler} {l : List (Value × Option Nat × Tsu)} (hi : X.N[i]? = some n) (hln : X.env.kindOf n = some .local) (hc : Names X x c)
      (hsu : ∀ (a : Addr) (oe : Obj) (cls : Value) (d : Option Addr) (pn : List (Addr × Obj)), Zc cls d oe → (∃ vs, oe.data = .fields vs) → PSs (X.suite a ((a, oe) :: pn)) (b₀ :: suite) (ts a cls d)) (r : HdsA X hds l) :
      HdsA X (.ExceptHandler (some (.Name x np)) (some n) (b₀ :: suite) pos' :: hds) ((c, some i, ts) :: l)
section
variable {X : Cx} {body : List Stmt} {h₀ : ExceptHandler} {hds : List ExceptHandler} {l : List (Value × Option Nat × Tsu)} {pos : Pos} {tb : WX → TS} {Wout : WX}
end
abbrev XSub := List (Str × List Str)
structure Hdl where
  x : Str
  sl : Option Nat
  k : Str → List (Str × T) → SS
def clrF : Option Nat → Flo → Flo
  | none, .exc _ _ _ _ => .stk
  | none, r => r
  | some i, .nx σ h => .nx (σ.set i none) h
  | some i, .bk σ h => .bk (σ.set i none) h
  | some i, .ct σ h => .ct (σ.set i none) h
  | some _, .rt t h => .rt t h
  | some _, _ => .stk
def slSet : Option Nat → St3 → St3 | none, σ => σ | some i, σ => σ.set i none
def tryGo (XS : XSub) : List Hdl → Str → List (Str × T) → SS
  | [], c, fs => fun σ h => .exc c fs σ h
  | hd :: r, c, fs => fun σ h => match XS.lookup c with
    | none => .stk
    | some ss => if ss.contains hd.x then clrF hd.sl (hd.k c fs (slSet hd.sl σ) h) else tryGo XS r c fs σ h
def ssTryX (XS : XSub) (a : SS) (hs : List Hdl) : SS := fun σ h => match a σ h with
  | .exc c fs σ1 h1 => tryGo XS hs c fs σ1 h1
  | r => r
def tH (K : PySem.W.Frag) (mg : Str → Option Value) (sl : Option Nat) (a : Addr) (c : Str) (fs : List (Str × T)) (cls : Value) (d : Option Addr) (ss : SS) : TS := fun D σV H =>
  ∃ m h σ, At K mg PqT m H σV σ h ∧ (∀ i, sl = some i → i < σV.length → σV[i]? = some (some (.ref a))) ∧ XR K mg m H c fs cls d ∧ OutS K mg WF D m H (ss σ h)
def HOk (X : Cx) (XS : XSub) (sl : Option Nat) (suite : List Stmt) (k : Str → List (Str × T) → SS) : Prop := ∀ (a : Addr) (oe : Obj) (cls : Value) (d : Option Addr) (pn : List (Addr × Obj)) (c : Str) (ss : List Str) (fs : List (Str × T)), Zc cls d oe → (∃ vs, oe.data = .fields vs) → XS.lookup c = some ss → X.mg c = some cls →
  PSs (X.suite a ((a, oe) :: pn)) suite (tH X.K X.mg sl a c fs cls d (k c fs))
def Catches (X : Cx) (XS : XSub) (x : Str) (cv : Value) : Prop := ∀ c ss cls, XS.lookup c = some ss → X.mg c = some cls → PySem.W.exmOne X.K cls cv = some (ss.contains x)
inductive DHs (X : Cx) (XS : XSub) : List ExceptHandler → List Hdl → Prop
  | nil : DHs X XS [] []
  | cons {x : Str} {cv : Value} {b₀ : Stmt} {suite : List Stmt} {np pos' : Pos} {hds : List ExceptHandler} {l : List Hdl} {k : Str → List (Str × T) → SS} (hc : Names X x cv) (hx : Catches X XS x cv) (hk : HOk X XS none (b₀ :: suite) k) (r : DHs X XS hds l) :
      DHs X XS (.ExceptHandler (some (.Name x np)) none (b₀ :: suite) pos' :: hds) (⟨x, none, k⟩ :: l)
  | cas {x n : Str} {i : Nat} {cv : Value} {b₀ : Stmt} {suite : List Stmt} {np pos' : Pos} {hds : List ExceptHandler} {l : List Hdl} {k : Str → List (Str × T) → SS} (hi : X.N[i]? = some n) (hln : X.env.kindOf n = some .local) (hc : Names X x cv) (hx : Catches X XS x cv)
      (hk : HOk X XS (some i) (b₀ :: suite) k) (r : DHs X XS hds l) :
      DHs X XS (.ExceptHandler (some (.Name x np)) (some n) (b₀ :: suite) pos' :: hds) (⟨x, some i, k⟩ :: l)
section
variable {X : Cx} {P : Pq} {W : WX}
end
end W3
end

section
namespace PySem.W
open PySem PySem.Spec PySem.Calls PyProof.Rows
section
variable {prog : Program} {w : World} {A : Around} {E : Value → Shared → Prop} {s : Shared} {K : Frag} {x D : Addr} {ox : Obj} {od : Option Obj}
end
end PySem.W
namespace W3
open PySem PySem.Spec PyProof.Rows
open L2
def sXf (fs : List (Str × T)) (f : Str) : SE := fun _ h => match fs.lookup f with | some t => .ok t h | none => .stk
section
variable {X : Cx} {a : Addr} {oe : Obj} {pn : List (Addr × Obj)} {sl : Option Nat} {c : Str} {fs : List (Str × T)} {cls : Value} {d : Option Addr} {e : Expr} {es : List Expr} {se : SE} {ar : SA} {pos p p1 p2 : Pos}
theorem XR.ext {m m' : Mp} {H H' : Hp} (x : XR X.K X.mg m H c fs cls d) (E : Ext m H m' H') : XR X.K X.mg m' H' c fs cls d := by
  refine ⟨x.1, ?_⟩
  rcases x.2 with z | ⟨dd, fv, h1, h2, h3⟩
  · exact .inl z
  · exact .inr ⟨dd, fv, h1, E.xds _ _ h2, h3.ext E⟩
end
section
variable {X : Cx} {XS : XSub} {sl : Option Nat} {e : Expr} {pos py : Pos}
end
end W3
end

section
namespace W3
open PySem PySem.Spec PyProof.Rows
open L2
theorem bindsE {K : PySem.W.Frag} {fd : FuncData} {ps : List Str} (h : ∀ us : List Value, us.length = ps.length → bindArgs fd ⟨us, []⟩ = pure (ps.zip us)) : Binds K fd ps [] := by
  intro s us _ hl
  rw [List.append_nil] at hl ⊢
  exact .of_eq (h us hl)
abbrev envE (name qual : Str) (st : Stmt) (cc c f L : Addr) : Env := NdefX.envF (nfE name qual (defArgs st) (defBody st) (defScope st) cc c) f L
abbrev supS (p0 p1 p2 apos cpos pos : Pos) (j : Nat) (txt : Str) : Stmt := .Expr (.Call (.Attribute (.Call (.Name "super" p0) [] [] p1) "__init__" apos) [.Constant (.str txt) j p2] [] cpos) pos
abbrev stoS (sf f1 a1 : Str) (q1 q2 q3 q4 : Pos) : Stmt := .Assign [.Attribute (.Name sf q1) f1 q2] (.Name a1 q3) q4
def LineE (name qual : Str) (st : Stmt) (cc c f : Addr) (p0 p1 p2 apos cpos pos : Pos) (j : Nat) (txt : Str) (pl : Sem Bool) : Prop := ∀ L : Addr, interactive (envE name qual st cc c f L) = false ∧
  swapsWith (.Call (.Attribute (.Call (.Name "super" p0) [] [] p1) "__init__" apos) [.Constant (.str txt) j p2] [] cpos) none pos.line (envE name qual st cc c f L) = pure false ∧
  eval (.Call (.Attribute (.Call (.Name "super" p0) [] [] p1) "__init__" apos) [.Constant (.str txt) j p2] [] cpos) (envE name qual st cc c f L) = (do
    let ov ← attributeBase (.Call (.Name "super" p0) [] [] p1) "__init__" (envE name qual st cc c f L) (eval (.Call (.Name "super" p0) [] [] p1) (envE name qual st cc c f L))
    standAt apos.atName
    let (g, first) ← holding [ov] (getMethod ov "__init__" pl)
    callWith cpos g first (backTo cpos (starEach [.Constant (.str txt) j p2] (envE name qual st cc c f L))) [])
theorem exc_ok1 {P : Program} {w : World} {K : PySem.W.Frag} {mg : Str → Option Value} {base : Heap} {f c cc C : Addr} {st : Stmt} {name qual sf a1 f1 txt : Str} {doc pm ct : Value} {an : Option Addr} {ar : Arg} {pl : Sem Bool} {p0 p1 p2 apos cpos pos q1 q2 q3 q4 : Pos} {j : Nat}
    (F : ExF P K C f c cc (fdE name qual (defArgs st) (defBody st) (defScope st) cc c doc pm ct an)) (hb : defBody st = [supS p0 p1 p2 apos cpos pos j txt, stoS sf f1 a1 q1 q2 q3 q4]) (hcd : PySem.W.codeIn K (.ref c) qual = true)
    (S : NdefX.NScope [sf, a1, "__class__"] [sf, a1] ["__class__"] (defScope st)) (hks : (defScope st).names.lookup ("super" : Str) = some .globalImplicit) (hp : ((defArgs st).posonlyargs ++ (defArgs st).args).head? = some ar) (har : ar.arg = sf) (hm : mg "super" = none) (hline : LineE name qual st cc c f p0 p1 p2 apos cpos pos j txt pl)
    (n1 : PySem.W.findIn K (.ref C) f1 = some none) (hs1 : ∀ L, swapsWith (.Name a1 q3) (some (.Attribute (.Name sf q1) f1 q2)) q4.line (envE name qual st cc c f L) = pure false)
    (hd0 : (sf == ("__debug__" : Str)) = false := by decide) (hc0 : (sf == ("__classdict__" : Str)) = false := by decide) (hd1 : (a1 == ("__debug__" : Str)) = false := by decide) (hc1 : (a1 == ("__classdict__" : Str)) = false := by decide) :
    FnOk P w K mg base (L2.CX P w) 1 f (fdE name qual (defArgs st) (defBody st) (defScope st) cc c doc pm ct an) [sf, a1] (spE1 C f1) := by
  unfold LineE at hline
  simp only [hb] at F hline hs1 ⊢
  refine fn_exc (k := 0) (pl := pl) F hcd S (fun vs H Q E ⟨a, y1, e, _⟩ => by rw [e]; rfl) hks hp (by rw [har]; rfl) (by rw [har]; exact S.par _ (by simp)) hm hline ?_
  rintro A outer s H vs Q E ⟨a, y1, rfl, ea, q⟩
  exact ⟨a, rfl, ea, body1 F.oex n1 rfl rfl (.inl (S.par _ (by simp))) (.inl (S.par _ (by simp))) hd0 hc0 hd1 hc1 (hs1 _) rfl rfl ea q⟩
theorem exc_ok2 {P : Program} {w : World} {K : PySem.W.Frag} {mg : Str → Option Value} {base : Heap} {f c cc C : Addr} {st : Stmt} {name qual sf a1 f1 a2 f2 txt : Str} {doc pm ct : Value} {an : Option Addr} {ar : Arg} {pl : Sem Bool} {p0 p1 p2 apos cpos pos q1 q2 q3 q4 r1 r2 r3 r4 : Pos} {j : Nat}
    (F : ExF P K C f c cc (fdE name qual (defArgs st) (defBody st) (defScope st) cc c doc pm ct an)) (hb : defBody st = [supS p0 p1 p2 apos cpos pos j txt, stoS sf f1 a1 q1 q2 q3 q4, stoS sf f2 a2 r1 r2 r3 r4]) (hcd : PySem.W.codeIn K (.ref c) qual = true)
    (S : NdefX.NScope [sf, a1, a2, "__class__"] [sf, a1, a2] ["__class__"] (defScope st)) (hks : (defScope st).names.lookup ("super" : Str) = some .globalImplicit) (hp : ((defArgs st).posonlyargs ++ (defArgs st).args).head? = some ar) (har : ar.arg = sf) (hm : mg "super" = none) (hline : LineE name qual st cc c f p0 p1 p2 apos cpos pos j txt pl)
    (n1 : PySem.W.findIn K (.ref C) f1 = some none) (n2 : PySem.W.findIn K (.ref C) f2 = some none) (hs1 : ∀ L, swapsWith (.Name a1 q3) (some (.Attribute (.Name sf q1) f1 q2)) q4.line (envE name qual st cc c f L) = pure false) (hs2 : ∀ L, swapsWith (.Name a2 r3) (some (.Attribute (.Name sf r1) f2 r2)) r4.line (envE name qual st cc c f L) = pure false)
    (hd0 : (sf == ("__debug__" : Str)) = false := by decide) (hc0 : (sf == ("__classdict__" : Str)) = false := by decide) (hd1 : (a1 == ("__debug__" : Str)) = false := by decide) (hc1 : (a1 == ("__classdict__" : Str)) = false := by decide) (hd2 : (a2 == ("__debug__" : Str)) = false := by decide) (hc2 : (a2 == ("__classdict__" : Str)) = false := by decide) :
    FnOk P w K mg base (L2.CX P w) 1 f (fdE name qual (defArgs st) (defBody st) (defScope st) cc c doc pm ct an) [sf, a1, a2] (spE2 C f1 f2) := by
  unfold LineE at hline
  simp only [hb] at F hline hs1 hs2 ⊢
  refine fn_exc (k := 0) (pl := pl) F hcd S (fun vs H Q E ⟨a, y1, y2, e, _⟩ => by rw [e]; rfl) hks hp (by rw [har]; rfl) (by rw [har]; exact S.par _ (by simp)) hm hline ?_
  rintro A outer s H vs Q E ⟨a, y1, y2, rfl, ea, q⟩
  exact ⟨a, rfl, ea, body2 F.oex n1 n2 rfl rfl rfl (.inl (S.par _ (by simp))) (.inl (S.par _ (by simp))) (.inl (S.par _ (by simp))) hd0 hc0 hd1 hc1 hd2 hc2 (hs1 _) (hs2 _) rfl rfl rfl ea q⟩
def XfAll (K : PySem.W.Frag) (mg : Str → Option Value) (XS : XSub) (FL : List Str) : Prop := ∀ c ss cls, XS.lookup c = some ss → mg c = some cls → ∃ C, cls = .ref C ∧ XfC K C ∧ ExcC K C ∧ ∀ f ∈ FL, PySem.W.findIn K (.ref C) f = some none
section
variable {X : Cx} {XS : XSub} {sl : Option Nat} {i : Nat} {n f x : Str} {FL : List Str} {p p1 p2 pos : Pos} {e : Expr} {es : List Expr} {se : SE} {sx : Str → List (Str × T) → SE} {ar : Str → List (Str × T) → SA}
end
end W3
end

section
namespace W3
open PySem PySem.Spec PyProof.Rows
open L2
def XAll (P : Str → List Str → Prop) : XSub → Prop
  | [] => True
  | (c, ss) :: r => P c ss ∧ XAll P r
theorem XAll.look {P : Str → List Str → Prop} : ∀ {XS : XSub}, XAll P XS → ∀ {c ss}, XS.lookup c = some ss → P c ss
  | [], _, _, _, e => by simp at e
  | (c, ss) :: r, h, c', ss', e => by
    simp only [List.lookup] at e
    split at e
    · rename_i q
      cases e
      obtain rfl : c' = c := by simpa using q
      exact h.1
    · exact h.2.look e
theorem xfall_of {K : PySem.W.Frag} {mg : Str → Option Value} {XS : XSub} {FL : List Str} (h : XAll (fun c ss => ∃ C, mg c = some (.ref C) ∧ XfC K C ∧ ExcC K C ∧ ∀ f ∈ FL, PySem.W.findIn K (.ref C) f = some none) XS) : XfAll K mg XS FL := fun c ss cls hl hm => by
  obtain ⟨C, h1, h2⟩ := h.look hl
  rw [hm] at h1; cases h1; exact ⟨C, rfl, h2⟩
end W3
end

section
namespace W3
open PySem PySem.Spec PyProof.Rows
open L2
def dicB (h : Hh) : T → Bool | .ref l => (match h[l]? with | some (.dic []) => true | _ => false) | _ => false
def oNeD (x y : T) (h : Hh) : Res T := if dicB h x = true ∧ dicB h y = true then .ok (.bl false) h else oNe x y h
section
variable {X : Cx}
end
def bIntB (xs : List T) (h : Hh) : Res T :=
  match xs with
  | [.int i] => .ok (.int i) h
  | [.bl b] => .ok (.int (if b then 1 else 0)) h
  | _ => .stk
theorem nx_bintB : NoXL bIntB := fun xs h c fs h' e => by unfold bIntB at e; (repeat' split at e) <;> cases e
theorem cs_intB {X : Cx} : CallR X (.type "int") (rPL X.K X.mg bIntB) := by
  intro pins s σ H xs us Q I ru ⟨m, h, ts, r, R, o⟩
  unfold bIntB at o
  split at o
  · obtain ⟨v, rfl, r1⟩ := r.one
    cases r1 with
    | int i => exact call_int1 pins s σ H _ us Q I ru (.inl ⟨_, rfl, o _ m H (Ext.refl _ _) (.int _) R⟩)
  · obtain ⟨v, rfl, r1⟩ := r.one
    cases r1 with
    | bl b => exact call_int1 pins s σ H _ us Q I ru (.inr ⟨_, rfl, o _ m H (Ext.refl _ _) (.int _) R⟩)
  · exact False.elim o
@[simp] theorem e_intB_b (b : Bool) (h : Hh) : bIntB [.bl b] h = .ok (.int (if b then 1 else 0)) h := Eq.trans rfl rfl
@[simp] theorem e_intB_i (i : Int) (h : Hh) : bIntB [.int i] h = .ok (.int i) h := Eq.trans rfl rfl
end W3
end

section
namespace W3
open PySem PySem.Spec PyProof.Rows
open L2
section
variable {X : Cx} {XS : XSub} {sl : Option Nat} {e1 e2 : Expr} {pos p1 p2 : Pos} {rest : List Stmt}
end
section
variable {X : Cx} {XS : XSub} {i q : Nat} {n x1 x2 : Str} {FL : List Str} {p p1 p2 p3 tpos pos : Pos}
end
end W3
end

section
namespace L2
open PySem PySem.Spec PyProof.Rows
theorem tuple_mul1W (l : Addr) (items : Array Value) (n : Nat) (dd : Option Addr) (sl : Array (Option Value)) (u : Tok) :
    Meets (Builtin.«tuple.__mul__» ⟨[.ref l, .int 1 u], []⟩) (fun _ R s => s.heap.get? l = some { cls := .type "tuple", dict := dd, data := .seq items n, slots := sl } ∧ R (.ok (.ret (Value.ref l))) s) :=
  .of_wp fun prog w A R s h => by
    obtain ⟨hp, g, d, tk, os⟩ := s
    obtain ⟨hl, h⟩ := h
    have f1 := AutoSeq1.idx_int
    have c1 : (items.isEmpty || (1 : Int) == 1) = true := by simp
    wp_walk using wpAny_loadPart' hl
    repeat (first
      | (refine wpAny_ite_false (decide_eq_false (by decide)) ?_; wp_walk using wpAny_loadPart' hl)
      | (refine wpAny_ite_true (decide_eq_true (by rw [c1])) ?_; wp_walk using wpAny_loadPart' hl))
    exact ⟨_, rfl, h⟩
end L2
namespace L2
open PySem PySem.Spec PyProof.Rows
section
variable {X : Cx}
theorem op_repT1 : OpR X (binaryOp .Mult) (fun x y H Q => ∃ l xs, x = .ref l ∧ y = .int 1 ∧ SqT X.K H l xs ∧ Q (.ref l) H) := by
  intro pins s σ H x y v u Q I rx ry h
  obtain ⟨l, xs, rfl, rfl, hT, q⟩ := h
  cases rx
  obtain ⟨t, rfl⟩ := ry
  obtain ⟨its, r, ⟨⟨cls, dd, data, sl⟩, ho, hc, n, hd⟩, hs⟩ := I.tuple hT
  simp only at hc hd
  subst hc hd
  refine wpAny_binaryOp_repeat_ref (T := "tuple") (U := "int") (by decide) ⟨_, ho, rfl⟩ (fun s' => typeIs_int s' 1 t) noFill_tuple_mul F.fills_int_mul F.slot_int_rmul repeat_tuple F.slot_int_index.lookup
    (call_meets F.slot_int_rmul (typeIs_int s 1 t) F.entry_int_rmul (F.args_int_rmul_2 _ _) (int_rmul_tuple 1 t l its.toArray n dd sl)
      ⟨ho, rfl, ⟨_, ho, rfl⟩, call_meets F.slot_tuple_mul ⟨_, ho, rfl⟩ F.entry_tuple_mul (F.args_tuple_mul_2 _ _) (tuple_mul1W l its.toArray n dd sl t) ⟨ho, ?_⟩⟩)
  exact ⟨.ref l, H, I, rfl, q⟩
end
end L2
namespace W3
open PySem PySem.Spec PyProof.Rows
open L2
noncomputable def oMulT (x y : T) (h : Hh) : Res T :=
  match x, y with
  | .tup ts, .int k => if ts ≠ [] ∧ 1 ≤ k ∧ k ≤ 1000 ∧ ts.length ≤ 1000 then .ok (.tup (List.replicate k.toNat ts).flatten) h else .stk
  | x, y => oMul x y h
theorem nx_mulT : NoX2 oMulT := fun x y h c fs h' e => by
  unfold oMulT at e
  split at e
  · split at e <;> cases e
  · exact nx_mul _ _ h c fs h' e
theorem RTs.app {K : PySem.W.Frag} {mg : Str → Option Value} {m : Mp} {H : Hp} : ∀ {ts : List T} {vs : List V} {ts' : List T} {vs' : List V}, RTs K mg m H ts vs → RTs K mg m H ts' vs' → RTs K mg m H (ts ++ ts') (vs ++ vs')
  | _, _, _, _, .nil, r => r
  | _, _, _, _, .cons a b, r => .cons a (RTs.app b r)
theorem RTs.rep {K : PySem.W.Frag} {mg : Str → Option Value} {m : Mp} {H : Hp} {ts : List T} {vs : List V} (r : RTs K mg m H ts vs) : ∀ k, RTs K mg m H (List.replicate k ts).flatten (List.replicate k vs).flatten
  | 0 => .nil
  | k + 1 => by
    rw [List.replicate_succ, List.replicate_succ, List.flatten_cons, List.flatten_cons]
    exact RTs.app r (r.rep k)
theorem os_mulT {X : Cx} : OpR X (binaryOp .Mult) (rP2 X.K X.mg oMulT) := by
  intro pins s σ H x y v u Q I rx ry ⟨m, h, tx, ty, r1, r2, R, o⟩
  unfold oMulT at o
  split at o
  · split at o
    · rename_i ts k hk
      obtain ⟨k0, k1, k2, k3⟩ := hk
      cases r2
      cases r1 with
      | @tup a vs _ hq rr =>
        have hl := rr.length
        by_cases e1 : k = 1
        · subst e1
          have e2 : (List.replicate (1 : Int).toNat ts).flatten = ts := by simp
          rw [e2] at o
          exact op_repT1 pins s σ H _ _ v u Q I rx ry ⟨a, vs, rfl, rfl, hq, o _ m H (Ext.refl _ _) (.tup hq rr) R⟩
        · refine op_repN pins s σ H _ _ v u Q I rx ry ⟨a, k, vs, rfl, rfl, hq, fun e => k0 (by cases rr with | nil => rfl | cons _ _ => cases e), by omega, k2, by omega, fun p ob hp hd => OutP.newTup R (rr.rep k.toNat) o hp hd⟩
    · exact False.elim o
  · exact os_mul pins s σ H x y v u Q I rx ry ⟨m, h, _, _, r1, r2, R, o⟩
@[simp] theorem e_mulT_i (i : Int) (y : T) (h : Hh) : oMulT (.int i) y h = oMul (.int i) y h := by unfold oMulT; rfl
end W3
end

section
namespace W3
open PySem PySem.Spec PyProof.Rows
open L2
abbrev SGH := T → St3 → Hh → Option St3
def sgLst (n : Nat) (g : SGs) : SGH := fun t σ h => match t with
  | .ref l => match lstAt h l with | some ts => if ts.length = n then g ts σ else none | none => none
  | _ => none
def forRunH (s : Src) (g : SGH) (b : SS) : Nat → Nat → St3 → Hh → Flo
  | k, i, σ, h => match s.at h i with
    | none => .stk
    | some none => .nx σ h
    | some (some x) => match k with
      | 0 => .stk
      | k + 1 => match g x σ h with
        | none => .stk
        | some σ1 => match b σ1 h with
          | .nx σ2 h2 => forRunH s g b k (i + 1) σ2 h2
          | .ct σ2 h2 => forRunH s g b k (i + 1) σ2 h2
          | .bk σ2 h2 => .nx σ2 h2
          | r => r
def ssForH (si : SI) (g : SGH) (b : SS) : SS := fun σ h => (si σ h).flo σ fun s h1 => forRunH s g b (s.len h1) 0 σ h1
section
variable {X : Cx} {P : Pq} {W : WX} {tg iter : Expr} {si : SI} {body : List Stmt} {x1 : SS} {pos : Pos} {es : List Expr}
end
end W3
end

section
namespace W3
open PySem PySem.Spec PyProof.Rows
open L2
def isT : T → Bool | .tup _ => true | _ => false
def sMtA (f : T → List T → Hh → Res T) (o : SE) (a : SA) : SE := fun σ h => (o σ h).bind fun x h1 => if (isL x h1 || isT x) = true then (a σ h1).bind fun xs h2 => f x xs h2 else .stk
theorem nx_index : NoXM mIndex := fun x y h c fs h' e => by unfold mIndex at e; (repeat' split at e) <;> cases e
theorem findE_some {d : PyData} : ∀ {ds : List PyData} {k j : Nat}, findE d ds k = some j → true ∈ ds.map (fun z => PyData.eqv z d) ∧ j = k + (ds.map fun z => PyData.eqv z d).idxOf true
  | [], _, _, e => by cases e
  | z :: ds, k, j, e => by
    unfold findE at e
    rw [List.map_cons, List.idxOf_cons]
    cases hz : PyData.eqv z d with
    | true => rw [hz] at e; simp at e; simp [e]
    | false =>
      rw [hz] at e
      obtain ⟨h1, h2⟩ := findE_some (k := k + 1) (by simpa using e)
      refine ⟨List.mem_cons_of_mem _ h1, ?_⟩
      rw [h2]; simp; omega
theorem readsAll_len {h : Heap} : ∀ {vs : List Value} {ds : List PyData} {as : List Addr}, ReadsAll h vs ds as → vs.length = ds.length
  | _, _, _, .nil => rfl
  | _, _, _, .cons _ r => by rw [List.length_cons, List.length_cons, readsAll_len r]
theorem readsAll_at {h : Heap} : ∀ {vs : List Value} {ds : List PyData} {as : List Addr}, ReadsAll h vs ds as → PyData.canLayAll0 ds = true → ∀ (j : Nat) (h1 : j < vs.length) (h2 : j < ds.length), PySem.SeqAt.readOf h vs[j] = ds[j]
  | _, _, _, .nil, _, _, h1, _ => absurd h1 (Nat.not_lt_zero _)
  | _, _, _, .cons r _, hc, 0, _, _ => by
    simp only [PyData.canLayAll0, Bool.and_eq_true] at hc
    exact PySem.SeqAt.readOf_eq hc.1 r
  | _, _, _, .cons _ rr, hc, j + 1, h1, h2 => by
    simp only [PyData.canLayAll0, Bool.and_eq_true] at hc
    exact readsAll_at rr hc.2 j (Nat.lt_of_succ_lt_succ h1) (Nat.lt_of_succ_lt_succ h2)
section
variable {X : Cx} {P : Pq} {W : WX} {o e : Expr} {so : SE} {apos cpos : Pos} {es : List Expr} {ar : SA}
theorem index_run (hu : X.A.units + 65 < cLine) {pins : List (Addr × Obj)} {s : Shared} {σ : L2.St} {H : Hp} {x y : V} {v u : Value} {m : Mp} {h : Hh} {tx ty : T} {Q : VK} (I : L2.Inv X pins σ H s) (rx : RelV x v) (ry : RelV y u) (r1 : RT X.K X.mg m H tx x)
    (r2 : RT X.K X.mg m H ty y) (R : HR X.K X.mg m h H) (o : OutP X.K X.mg Q m H (mIndex tx [ty] h)) {id : String} (hid : (id = "list.index" ∧ ∃ ds, toD h 24 tx = some (.list ds)) ∨ (id = "tuple.index" ∧ ∃ ds, toD h 24 tx = some (.tuple ds))) :
    wpAny (model X.prog X.w) X.A (call (.builtin id) [v, u]) (EP X pins σ Q) X.xe s := by
  have key : ∀ (vs : Array Value) (ds : List PyData) (as bs : List Addr) (d : PyData) (j : Nat), ReadsAll s.heap vs.toList ds as → Reads s.heap u d bs → PyData.canLayAll0 ds = true → d.canLay0 = true → X.A.units + 1 + min (PyData.depthAll ds) d.depth < cLine → findE d ds 0 = some j →
      PySem.SeqAt.ItemsEq X.A.in1 s vs.toList (ds.map fun z => PyData.eqv z d) u true ∧ true ∈ ds.map (fun z => PyData.eqv z d) ∧ (ds.map fun z => PyData.eqv z d).idxOf true = j := by
    intro vs ds as bs d j h4 rd hds hd hz ej
    obtain ⟨q1, q2⟩ := findE_some ej
    refine ⟨⟨by rw [List.length_map]; exact readsAll_len h4, fun i h1 h2 => ?_⟩, q1, by omega⟩
    have := PySem.SeqAt.items_eqAt h4 rd hds hd hz vs.toList[i] (by rw [← Array.mem_toList_iff]; exact List.getElem_mem h1)
    rw [List.length_map] at h2
    rw [readsAll_at h4 hds i h1 h2] at this
    simpa using this
  cases hty : toD h 24 ty with
  | none =>
    exfalso
    unfold mIndex at o
    simp only [hty] at o
    rcases hid with ⟨_, ds, e⟩ | ⟨_, ds, e⟩ <;> (rw [e] at o; exact o)
  | some d =>
    obtain ⟨d2, s2⟩ := toD_shaped R r2 hty
    obtain ⟨bs, p2⟩ := Dp.reads I d y u d2 ry
    rcases hid with ⟨rfl, ds, e⟩ | ⟨rfl, ds, e⟩
    · obtain ⟨d1, s1⟩ := toD_shaped R r1 e
      obtain ⟨as, p1⟩ := Dp.reads I (.list ds) x v d1 rx
      unfold mIndex at o
      simp only [hty, e] at o
      split at o
      · rename_i j ej
        have rm := room_in_shaped (xs := ds) s2 hu
        have cl : PyData.canLayAll0 ds = true := SeqAt.canLay_of_shaped s1
        cases p1 with
        | @list a ob vs n _ as h1 h2 h3 h4 =>
          obtain ⟨k1, k2, k3⟩ := key vs ds _ _ d j h4 p2 cl (SeqAt.canLay_of_shaped s2) rm ej
          refine PySem.SeqAt.call_list_index (vs := vs.toList) (ks := ds.map fun z => PyData.eqv z d) (k := true) ⟨ob, h1, h2, n, by simpa using h3⟩ k1 ?_ k2 ?_
          · cases x with
            | ref b =>
              cases rx
              have : ∃ xs, SqL X.K H a xs := by
                cases d1 with
                | lst hq _ => exact ⟨_, hq⟩
              obtain ⟨xs, hq⟩ := this
              obtain ⟨its, rv, ⟨ob2, n2, g1, g2, g3, g4⟩, hz⟩ := I.list hq
              rw [h1] at g1; cases g1
              rw [h3] at g4
              injection g4 with g4 _
              rw [List.length_map, ← readsAll_len h4, g4]
              simpa [← rv.length] using hz
            | _ => first | (cases rx; done) | (obtain ⟨_, rx⟩ := rx; cases rx)
          · rw [k3]
            exact ⟨.int j, H, I.kept (t' := s.toks + 1) (fun _ _ q => q), ⟨_, rfl⟩, o _ m H (Ext.refl _ _) (.int _) R⟩
      · exact False.elim o
    · obtain ⟨d1, s1⟩ := toD_shaped R r1 e
      obtain ⟨as, p1⟩ := Dp.reads I (.tuple ds) x v d1 rx
      unfold mIndex at o
      simp only [hty, e] at o
      split at o
      · rename_i j ej
        have rm := room_in_shaped (xs := ds) s2 hu
        have cl : PyData.canLayAll0 ds = true := SeqAt.canLay_of_shaped s1
        cases p1 with
        | @tuple a ob vs n _ as h1 h2 h3 h4 =>
          obtain ⟨k1, k2, k3⟩ := key vs ds _ _ d j h4 p2 cl (SeqAt.canLay_of_shaped s2) rm ej
          refine PySem.SeqAt.call_tuple_index (vs := vs.toList) (ks := ds.map fun z => PyData.eqv z d) (k := true) ⟨ob, h1, h2, n, by simpa using h3⟩ k1 k2 ?_
          rw [k3]
          exact ⟨.int j, H, I.kept (t' := s.toks + 1) (fun _ _ q => q), ⟨_, rfl⟩, o _ m H (Ext.refl _ _) (.int _) R⟩
      · exact False.elim o
theorem sqn_obj {pins : List (Addr × Obj)} {s : Shared} {σ : L2.St} {H : Hp} {a : Addr} {vs : List V} (I : L2.Inv X pins σ H s) (h : SqN X.K H a vs) : s.TypeIs (.ref a) "tuple" ∧ ∃ ob, s.heap.get? a = some ob ∧ ob.dict = none := by
  obtain ⟨its, r, p, _⟩ := I.tuple h.t
  refine ⟨p.typeIs, ?_⟩
  rcases h with ⟨ob, h, hd⟩ | ⟨ob, _, _, hk, _, hd, _⟩
  · exact ⟨ob, (I.hok a _ h).1, hd⟩
  · exact ⟨ob, I.kIn a ob hk, hd⟩
def TyQ (X : Cx) (T : String) (x : V) (H : Hp) : Prop := ∀ (pins : List (Addr × Obj)) (σ : L2.St) (s : Shared) (v : Value), L2.Inv X pins σ H s → L2.RelV x v → s.TypeIs v T ∧ ∀ a, v = .ref a → ∃ ob, s.heap.get? a = some ob ∧ ob.dict = none
def tBX (X : Cx) (name : Str) (r : String → V → List V → Hp → VK → Prop) (to : TE) (t : TA) : TE := fun σ H Q => to σ H fun x H1 => ∃ T id, PlainAttrs T ∧ Slot T name id ∧ typeOf (.builtin id) = pure (.type "method_descriptor") ∧ TyQ X T x H1 ∧ t σ H1 fun xs H2 => r id x xs H2 Q
theorem pe_bmX {name : Str} {r : String → V → List V → Hp → VK → Prop} {to : TE} {t : TA} (hm : ∀ id, MtR X id (r id)) (ho : PE X o to) (ha : PA X (e :: es) t)
    (hbase : attributeBase o name X.env (eval o X.env) = eval o X.env)
    (hfew : ((backTo cpos (starEach (e :: es) X.env)).all (fun x => !x.1) && (backToKw cpos (keywordEach [] X.env)).all (fun x => x.1.isSome)
      && decide ((e :: es).length + ([] : List Keyword).length + (if ([] : List Keyword).isEmpty then 0 else 1) < 30)) = true)
    (hline : (apos.endLine == cpos.line) = true) (hs : starEach (e :: es) X.env = (false, eval e X.env) :: starEach es X.env) (hplain : (backTo cpos (starEach es X.env)).any (·.1) = false) :
    PE X (.Call (.Attribute o name apos) (e :: es) [] cpos) (tBX X name r to t) := ⟨fun pins s σ H Q I h => by
  refine wpAny_Call_method_late hbase hfew hline rfl (thn (ho.run pins s σ H _ I h) fun v s1 w => ?_)
  obtain ⟨x, H1, I1, r1, T, id, pa, sl, ty, tq, q1⟩ := w
  obtain ⟨k1, k2⟩ := tq pins σ s1 v I1 r1
  have arg := ha.run cpos pins s1 σ H1 _ I1 q1
  rw [hs] at arg
  refine ⟨T, id, pa, sl, ty, k1, k2, ?_⟩
  rw [hs]
  refine Calls.callWith_builtin ?_ (Calls.evalArgs_plain (thn arg fun us s2 ⟨xs, H2, I2, r2, q2⟩ => hm id pins s2 σ H2 x xs v us Q I2 r1 r2 q2))
  show (false || (backTo cpos (starEach es X.env)).any (·.1)) = false
  rw [hplain]
  rfl⟩
def rIx (K : PySem.W.Frag) (mg : Str → Option Value) (id : String) (x : V) (xs : List V) (H : Hp) (Q : VK) : Prop :=
  ∃ m h t ts, RT K mg m H t x ∧ RTs K mg m H ts xs ∧ HR K mg m h H ∧ OutP K mg Q m H (mIndex t ts h) ∧ ((id = "list.index" ∧ isT t = false) ∨ (id = "tuple.index" ∧ isT t = true))
theorem ms_index (hu : X.A.units + 65 < cLine) (id : String) : MtR X id (rIx X.K X.mg id) := by
  intro pins s σ H x xs v us Q I rx rs ⟨m, h, t, ts, r, rr, R, o, hid⟩
  have one : ∃ ty, ts = [ty] := by
    unfold mIndex at o
    split at o
    · exact ⟨_, rfl⟩
    · exact False.elim o
  obtain ⟨ty, rfl⟩ := one
  obtain ⟨y, rfl, ry⟩ := rr.one
  obtain ⟨u, rfl, ru⟩ := Vals.one rs
  refine index_run hu I rx ru r ry R o ?_
  have kd : ∀ d, toD h 24 t = some d → (isT t = true → ∃ ds, d = .tuple ds) ∧ ((∃ ds, d = .list ds) → isT t = false) := by
    intro d e
    cases t with
    | tup us =>
      have e' : (optL (toD h 23) us).map PyData.tuple = some d := e
      cases q : optL (toD h 23) us with
      | none => rw [q] at e'; cases e'
      | some ds => rw [q] at e'; cases e'; exact ⟨fun _ => ⟨ds, rfl⟩, fun ⟨_, z⟩ => by cases z⟩
    | _ => exact ⟨fun z => (by cases z), fun _ => rfl⟩
  unfold mIndex at o
  simp only at o
  rcases hid with ⟨e1, e2⟩ | ⟨e1, e2⟩
  · refine .inl ⟨e1, ?_⟩
    split at o
    · rename_i ds d q1 q2; exact ⟨ds, q1⟩
    · rename_i ds d q1 q2
      exfalso
      cases t with
      | tup us => cases e2
      | ref l =>
        have q3 : (match h[l]? with | some (.lst ts) => (optL (toD h 23) ts).map PyData.list | _ => none) = some (PyData.tuple ds) := q1
        split at q3
        · rename_i us _
          cases q : optL (toD h 23) us with
          | none => rw [q] at q3; cases q3
          | some _ => rw [q] at q3; cases q3
        · cases q3
      | fl us =>
        have q3 : (optL (toD h 23) us).map PyData.list = some (PyData.tuple ds) := q1
        cases q : optL (toD h 23) us with
        | none => rw [q] at q3; cases q3
        | some _ => rw [q] at q3; cases q3
      | _ => cases q1
    · exact False.elim o
  · refine .inr ⟨e1, ?_⟩
    split at o
    · rename_i ds d q1 q2
      have := (kd _ q1).2 ⟨ds, rfl⟩
      rw [e2] at this; cases this
    · rename_i ds d q1 q2; exact ⟨ds, q1⟩
    · exact False.elim o
theorem de_index (hu : X.A.units + 65 < cLine) (ho : DE X P W o so) (ha : DA X P W [e] ar)
    (hbase : attributeBase o "index" X.env (eval o X.env) = eval o X.env := by rfl)
    (hfew : ((backTo cpos (starEach [e] X.env)).all (fun x => !x.1) && (backToKw cpos (keywordEach [] X.env)).all (fun x => x.1.isSome)
      && decide ([e].length + ([] : List Keyword).length + (if ([] : List Keyword).isEmpty then 0 else 1) < 30)) = true := by rfl)
    (hline : (apos.endLine == cpos.line) = true := by rfl) (hs : starEach [e] X.env = (false, eval e X.env) :: starEach [] X.env := by rfl) (hplain : (backTo cpos (starEach [] X.env)).any (·.1) = false := by rfl) :
    DE X P W (.Call (.Attribute o "index" apos) [e] [] cpos) (sMtA mIndex so ar) :=
  PE.imp (pe_bmX (name := "index") (r := rIx X.K X.mg) (ms_index hu) ho ha hbase hfew hline hs hplain) fun σV H Q ⟨m, h, σ, A, o⟩ => by
    refine A.first (rel1 := RT X.K X.mg) o fun m1 h1 t x H1 E1 r A1 o1 => ?_
    split at o1
    · rename_i hl
      have fin : ∀ id, ((id = "list.index" ∧ isT t = false) ∨ (id = "tuple.index" ∧ isT t = true)) → tAr X.K X.mg P W ar σV H1 fun xs H2 => rIx X.K X.mg id x xs H2 Q := fun id hid => by
        refine A1.first (rel1 := RTs X.K X.mg) o1 fun m2 h2 ts xs H2 E2 r2 A2 o2 => ?_
        exact ⟨m2, h2, t, ts, r.ext E2, r2, A2.hr, o2.outP (nx_index _ _ _), hid⟩
      cases r with
      | @tup a vs us hq rr => exact ⟨"tuple", "tuple.index", PySem.F.plainAttrs_tuple, PySem.F.slot_tuple_index, PySem.F.type_tuple_index, fun pins σ s v I rv => by
          cases rv
          obtain ⟨k1, k2⟩ := sqn_obj I hq
          exact ⟨k1, fun b eb => by cases eb; exact k2⟩, fin _ (.inr ⟨rfl, rfl⟩)⟩
      | @ref l a e1 =>
        have hl' : (lstAt h1 l).isSome = true := by simpa [isT, isL] using hl
        obtain ⟨ts, q⟩ := Option.isSome_iff_exists.mp hl'
        obtain ⟨vs, g, _⟩ := A1.hr.lst e1 q
        exact ⟨"list", "list.index", PySem.F.plainAttrs_list, PySem.F.slot_list_index, PySem.F.type_list_index, fun pins σ s v I rv => tyV_is I rv (.inl ⟨rfl, vs, SqL.of g⟩), fin _ (.inl ⟨rfl, rfl⟩)⟩
      | @fl a vs ts hq _ => exact ⟨"list", "list.index", PySem.F.plainAttrs_list, PySem.F.slot_list_index, PySem.F.type_list_index, fun pins σ s v I rv => tyV_is I rv (.inl ⟨rfl, vs, hq.sq⟩), fin _ (.inl ⟨rfl, rfl⟩)⟩
      | _ => cases hl
    · exact False.elim o1
end
end W3
end

section
namespace W3
open PySem PySem.Spec PyProof.Rows
open L2
abbrev TKs := List Key
abbrev hTk (P : Program) (w : World) (k : TKs) : Int := tupleKeyHash (mixKind P w) k
abbrev IsTk (P : Program) (w : World) (h : Heap) (k : TKs) (b : Addr) : Prop := IsTupleKey (mixKind P w) h k b
section
variable {P : Program} {w : World} {A : Around} {E : Value → Shared → Prop} {s : Shared}
end
abbrev TkL := List (Addr × TKs)
def rowTk (P : Program) (w : World) (p : Addr × TKs) : Int × Value := (hTk P w p.2, .ref p.1)
structure SetTk (P : Program) (w : World) (h : Heap) (a : Addr) (L : TkL) (es : Array (Int × Value)) (ep : Nat) (t : SetTable) : Prop where
  at_ : ∃ o, h.get? a = some o ∧ o.ExactSet ∧ o.data = .set es ep t
  rows : es.toList = L.map (rowTk P w)
  tab : TabOk t ((L.map (rowTk P w)).map (·.1))
  nd : (L.map (·.2)).Nodup
  tup : ∀ p ∈ L, IsTk P w h p.2 p.1
  room : L.length * 5 < t.mask * 3
  few : L.length < 64
section
variable {P : Program} {w : World} {A : Around} {E : Value → Shared → Prop} {s : Shared} {a : Addr} {L : TkL} {es : Array (Int × Value)} {ep : Nat} {t : SetTable}
end
structure Has (ks : TkL) (i : Nat) (L : TkL) : Prop where
  sub : ∀ p ∈ L, p ∈ ks.take i
  all : ∀ p ∈ ks.take i, p.2 ∈ L.map (·.2)
  le : L.length ≤ i
theorem Has.next {ks L L2 : TkL} {i : Nat} {x : Addr × TKs} (g : Has ks i L) (h : ks[i]? = some x) (c : (x.2 ∈ L.map (·.2) ∧ L2 = L) ∨ (x.2 ∉ L.map (·.2) ∧ L2.Perm (x :: L))) : Has ks (i + 1) L2 := by
  have et : ks.take (i + 1) = ks.take i ++ [x] := by rw [List.take_add_one, h]; rfl
  rcases c with ⟨hm, rfl⟩ | ⟨_, pm⟩
  · refine ⟨fun p hp => by rw [et]; exact List.mem_append_left _ (g.sub p hp), fun p hp => ?_, Nat.le_succ_of_le g.le⟩
    rw [et] at hp
    rcases List.mem_append.mp hp with z | z
    · exact g.all p z
    · rw [List.mem_singleton.mp z]; exact hm
  · refine ⟨fun p hp => ?_, fun p hp => ?_, by rw [pm.length_eq, List.length_cons]; exact Nat.succ_le_succ g.le⟩
    · rw [et]
      rcases List.mem_cons.mp (pm.mem_iff.mp hp) with e | z
      · rw [e]; exact List.mem_append_right _ (List.mem_singleton.mpr rfl)
      · exact List.mem_append_left _ (g.sub p z)
    · rw [(pm.map (·.2)).mem_iff, List.map_cons]
      rw [et] at hp
      rcases List.mem_append.mp hp with z | z
      · exact .tail _ (g.all p z)
      · rw [List.mem_singleton.mp z]; exact .head _
section
variable {P : Program} {w : World} {A : Around} {E : Value → Shared → Prop} {s : Shared}
theorem SetTk.keep {h h2 : Heap} {a : Addr} {L : TkL} {es : Array (Int × Value)} {ep : Nat} {t : SetTable} (R : SetTk P w h a L es ep t) (ha : ∀ o, h.get? a = some o → h2.get? a = some o) (ht : ∀ p ∈ L, IsTk P w h2 p.2 p.1) : SetTk P w h2 a L es ep t :=
  let ⟨o, e, r⟩ := R.at_
  ⟨⟨o, ha o e, r⟩, R.rows, R.tab, R.nd, ht, R.room, R.few⟩
end
end W3
end

section
namespace W3
open PySem PySem.Spec PyProof.Rows
open L2
instance decMemTk (k : TKs) (l : List TKs) : Decidable (k ∈ l) := decidable_of_iff (l.any (fun j => decide (j = k)) = true) (by simp [List.any_eq_true])
section
variable {X : Cx} {P : Pq} {W : WX} {a : Expr} {sa : SE} {pos p p2 q2 : Pos}
end
end W3
end

section
namespace W3
open PySem PySem.Spec PyProof.Rows
open L2
section
variable {prog : Program} {w : World} {A : Around} {E : Value → Shared → Prop} {s : Shared}
end
section
variable {X : Cx} {P : Pq} {W : WX}
def alikeB (ds : List PyData) : Bool := ds.all fun d => ds.all fun e => PySem.W.alike d e
def isTup1 : PyData → Bool | .tuple (_ :: _) => true | _ => false
def isOth : PyData → Bool | .none => false | .tuple _ => false | _ => true
def sortableB (ds : List PyData) : Bool := ds.all isTup1 || ds.all isOth
abbrev leT (a b : T × PyData) : Bool := PySem.W.dataLe false (fun b : T × PyData => b.2) a b
def sortT (ts : List T) (ds : List PyData) : List T := ((ts.zip ds).mergeSort leT).map (·.1)
def bSortI (ts : List T) (h : Hh) : Res T := match optL (toD h 24) ts with
  | some ds => if alikeB ds = true ∧ sortableB ds = true ∧ ts.length ≤ 1000 then alloc (.lst (sortT ts ds)) h else .stk
  | none => .stk
def bSorted (xs : List T) (h : Hh) : Res T := match xs with
  | [.tup ts] => bSortI ts h
  | [.fl ts] => bSortI ts h
  | [.ref l] => (match lstAt h l with | some ts => bSortI ts h | none => .stk)
  | _ => .stk
end
end W3
end

section
namespace W3
open PySem PySem.Spec PyProof.Rows
open L2
def zipL : List T → List T → List T
  | x :: xs, y :: ys => .tup [x, y] :: zipL xs ys
  | _, _ => []
section
variable {K : PySem.W.Frag} {mg : Str → Option Value} {m : Mp} {H : Hp}
end
def zipOf (xs : List T) (h : Hh) : Res Src := match xs with | [.tup ts, .tup us] => .ok (.its (zipL ts us)) h | _ => .stk
def siZip (a : SA) : SI := fun σ h => (a σ h).bind zipOf
section
variable {X : Cx} {P : Pq} {W : WX} {a b c : Expr} {ar : SA} {sb : SE} {pos p : Pos}
def KIs (K : PySem.W.Frag) (mg : Str → Option Value) (a : Addr) (t : T) : Prop := ∀ m H, RT K mg m H t (.ref a)
inductive StrsK : List Str → List Value → Prop
  | nil : StrsK [] []
  | cons {s : Str} {t : Tok} {ss : List Str} {vs : List Value} : StrsK ss vs → StrsK (s :: ss) (.str s t :: vs)
end
end W3
namespace W3
open PySem PySem.Spec PyProof.Rows
open L2
inductive KRows (K : PySem.W.Frag) (w : World) (mg : Str → Option Value) (a : Addr) : List (Str × T) → Prop
  | nil : KRows K w mg a []
  | cons {k : Str} {t : T} {r : List (Str × T)} : (∃ b, KDct K w a k (.ref b) ∧ KIs K mg b t) → KRows K w mg a r → KRows K w mg a ((k, t) :: r)
end W3
end

section
namespace W3
open PySem L2
theorem RTs.eraseIdx {K : PySem.W.Frag} {mg : Str → Option Value} {m : Mp} {H : Hp} : ∀ {ts : List T} {vs : List V} (i : Nat), RTs K mg m H ts vs → RTs K mg m H (ts.eraseIdx i) (vs.eraseIdx i)
  | _, _, _, .nil => .nil
  | _, _, 0, .cons _ q => q
  | _, _, i + 1, .cons p q => .cons p (RTs.eraseIdx i q)
def mPop (x : T) (vs : List T) (h : Hh) : Res T :=
  match x, vs with
  | .ref l, [.int i] => (match lstAt h l with
    | some ts => if 0 ≤ i ∧ i < 1000000 then (match ts[i.toNat]? with | some t => .ok t (h.set l (.lst (ts.eraseIdx i.toNat))) | none => .stk) else .stk
    | none => .stk)
  | _, _ => .stk
section
variable {X : Cx}
def ssPar2 (i j : Nat) (sa : SA) : SS := fun σ h => (sa σ h).flo σ fun xs h1 => match xs with | [x, y] => .nx ((σ.set i (some x)).set j (some y)) h1 | _ => .stk
end
@[simp] theorem e_ssPar2 (i j : Nat) (sa : SA) (σ : St3) (h : Hh) : ssPar2 i j sa σ h = (sa σ h).flo σ fun xs h1 => match xs with | [x, y] => .nx ((σ.set i (some x)).set j (some y)) h1 | _ => .stk := Eq.trans rfl rfl
@[simp] theorem e_pop (l : Nat) (i : Int) (h : Hh) : mPop (.ref l) [.int i] h = match lstAt h l with
    | some ts => if 0 ≤ i ∧ i < 1000000 then (match ts[i.toNat]? with | some t => .ok t (h.set l (.lst (ts.eraseIdx i.toNat))) | none => .stk) else .stk
    | none => .stk := Eq.trans rfl rfl
end W3
end

section
namespace W3
open PySem PySem.Spec PyProof.Rows
open L2
theorem funOfD {K : PySem.W.Frag} {x qual : Str} {st : Stmt} {f : Addr} {fd : FuncData} (F : FunD K x qual (defArgs st) (defBody st) (defScope st) [] [] f fd) : Fun K x qual st f fd := by
  obtain ⟨⟨oc, od, dV, kV, doc, pm, an, cdv, ct, osl, e, l, c, d, k⟩, kp⟩ := F
  have h : dV = .none := by
    rcases d with ⟨_, h⟩ | ⟨h, _⟩
    · exact h
    · exact absurd rfl h
  subst h
  exact ⟨⟨oc, od, kV, doc, pm, an, cdv, ct, osl, e, l, c⟩, kp⟩
theorem oexB_ok {K : PySem.W.Frag} {C : Addr} (h : oexB K C = true) : ∃ nm q N bs bm sn sub ab col dd k0 k1 k2 k3 k5, K.lookup C = some (excClassObj nm q C N bs bm true sn sub ab col dd k0 k1 k2 k3 k5 "ValueError.__new__") ∧ PySem.HandSPX.refsVE bm = true := by
  unfold oexB at h
  split at h
  · rename_i t dd cd sl ho
    obtain ⟨h1, h2⟩ := He.ba h
    have e1 := of_decide_eq_true h1
    subst e1
    split at h2
    · rename_i C' bm k0 k1 k2 k3 n k5 hm hs
      obtain ⟨a1, h3⟩ := He.ba h2
      obtain ⟨a2, h4⟩ := He.ba h3
      obtain ⟨a3, h5⟩ := He.ba h4
      obtain ⟨a4, a5⟩ := He.ba h5
      have e1 := of_decide_eq_true a1
      have e2 := of_decide_eq_true a2
      obtain ⟨nm, bs, mro, ns, qn, hd, sn, sub, ab, col, del⟩ := cd
      dsimp only at hm a3 a4
      have e3 : del = false := by simpa using a3
      subst e1 e2 e3 a4 hm
      have hsl : sl = #[k0, k1, k2, k3, some (.builtin "ValueError.__new__"), k5] := by
        obtain ⟨l⟩ := sl
        simp only at hs
        rw [hs]
      subst hsl
      exact ⟨nm, qn, ns, bs, bm, sn, sub, ab, col, dd, k0, k1, k2, k3, k5, ho, a5⟩
    · cases h2
  · cases h
structure XInit (prog : Program) (K : PySem.W.Frag) (C f : Addr) (qual : Str) (st : Stmt) : Prop where
  ex : ∃ (cc c : Addr) (doc pm ct : Value) (an : Option Addr), (∃ oc od osl, K.lookup f = some ⟨oc, od, .func (fdE "__init__" qual (defArgs st) (defBody st) (defScope st) cc c doc pm ct an), osl⟩) ∧
    (∃ ccl cdd vs ccs file tf, K.lookup c = some ⟨ccl, cdd, .fields vs, ccs⟩ ∧ vs[2]? = some (.str file tf) ∧ ((prog.main.file : Str) == file) = true) ∧
    (∃ cl cld csl, K.lookup cc = some ⟨cl, cld, .cell (some (.ref C)), csl⟩) ∧ PySem.W.codeIn K (.ref c) qual = true
theorem xinit_of {prog : Program} {K : PySem.W.Frag} {C f : Addr} {qual : Str} {st : Stmt} (e : fnE K f = xeV qual st) (h : initB K C f prog.main.file qual = true) : XInit prog K C f qual st := by
  unfold fnE xeV at e
  unfold initB at h
  cases q : K.lookup f with
  | none => rw [q] at h; cases h
  | some o =>
    obtain ⟨oc, od, dt, osl⟩ := o
    rw [q] at h e
    cases dt with
    | func fd =>
      obtain ⟨n1, n2, n3, n4, n5, n6, n7, n8, n9, n10, n11, n12, n13, n14, n15⟩ := fd
      dsimp only at h e
      simp only [Option.some.injEq, Prod.mk.injEq] at e
      obtain ⟨h1, h2, h3, h4, h5, h6, h7, h8, h9, h10⟩ := e
      split at h
      · rename_i x cc c
        have hx : x = ("__class__" : Str) := List.head_eq_of_cons_eq h7
        subst h1 h2 h3 h4 h5 h6 h8 h9 h10 hx
        obtain ⟨b1, b2⟩ := He.ba h
        obtain ⟨b2, b3⟩ := He.ba b2
        refine ⟨cc, c, _, _, _, _, ⟨_, _, _, q⟩, ?_, ?_, b3⟩
        · unfold fileB at b2
          split at b2
          · rename_i ho
            split at b2
            · rename_i hv
              exact ⟨_, _, _, _, _, _, ho, hv, b2⟩
            · cases b2
          · cases b2
        · unfold cellB at b1
          split at b1
          · rename_i ho
            have := of_decide_eq_true b1
            subst this
            exact ⟨_, _, _, ho⟩
          · cases b1
      · cases h
    | _ => cases h
section
variable {fn : List He.DefD} {ts : List He.Tab} {xs : List (PySem.W.Frag → Addr)} {es : List FnE} {bs : List (PySem.W.Frag → Bool)} {w : World} {K : PySem.W.Frag}
theorem SaysZ.t (c : SaysZ fn ts xs es bs w K) : He.SaysT [] fn ts w K := congrArg (fun z : AlZ => z.1) c
theorem SaysZ.b (c : SaysZ fn ts xs es bs w K) (i : Nat) {b : PySem.W.Frag → Bool} (h : bs[i]? = some b := by rfl) : b K = true := by
  have c1 : (bs.all fun b => b K) = true := congrArg (fun z : AlZ => z.2.2) c
  exact List.all_eq_true.mp c1 b (List.mem_of_getElem? h)
theorem SaysZ.x (c : SaysZ fn ts xs es bs w K) (i : Nat) {f : PySem.W.Frag → Addr} {e : FnE} (h : xs[i]? = some f := by rfl) (he : es[i]? = some e := by rfl) : fnE K (f K) = e := by
  have c1 : xs.map (fun f => fnE K (f K)) = es := congrArg (fun z : AlZ => z.2.1) c
  have c2 : (xs.map fun f => fnE K (f K))[i]? = es[i]? := by rw [c1]
  rw [List.getElem?_map, h, he] at c2
  exact Option.some.inj c2
end
theorem walk3E {l : PySem.W.OpenLaw} {q : Program} {loose : List Str} {XP : (Str → Option Value) → Heap → Prop} {YP : World → Heap → Prop} {d : DefRec} {f : List T → Hh → Res T} {k : Nat} {x : Str} (hn : l.most = some 63) (hdf : d.params.defaults = []) (hr : Room k callerA)
    (hf : ∀ ns : List Int, ns.length ≤ 63 → ∃ h', f [.fl (ns.map T.int)] [] = .ok (.bl true) h')
    (F : ∀ (w : World) (mg : Str → Option Value) (fa : Addr) (h : Heap), YP w h → h.Ns mainGlobals mg → mg d.name = some (.ref fa) →
      ∃ (K : PySem.W.Frag) (fd : FuncData), K.In h ∧ (∀ (s : Shared) (u : Value), BindsTo s fd ⟨[u], []⟩ [(x, u)]) ∧ ∀ base : Heap, K.In base → base.Ns mainGlobals mg → FnOk l.prog w K mg base (L2.CX l.prog w) k fa fd [x] (spL K f)) :
    PySem.W.WalkO q loose XP YP l.row.toRowW d [] (fun f vs => PySem.call f vs) := by
  refine Att.attach_call hn hdf fun w s₀ s₁ mg mb fa o pm cd doc a vs ns G Y ho hd hcd hmg hobj hints hlen hg => ?_
  obtain ⟨K, fd, KX, hb, hF⟩ := F w mg fa _ Y G.T.g hmg
  exact law_call KX G.T.g G.T.b G.T.builtins G.T.nolimit hg hobj hints (Nat.le_trans hlen (by decide)) hr hF hb (fun H hO hS mg => sp_law hf hlen hO hS) fun H e s' z => by
    obtain ⟨_, _, _, _, _, _, _, _, _, _, _, _, z⟩ := z
    exact z.elim
end W3
end

section
namespace W3
open PySem PySem.Spec PyProof.Rows
open L2
def dgetT : List (T × T) → Str → Option T
  | [], _ => none
  | (.str s, t) :: r, k => if s = k then some t else dgetT r k
  | _ :: r, k => dgetT r k
def dsetT : List (T × T) → Str → T → List (T × T)
  | [], _, _ => []
  | (.str s, u) :: r, k, t => (.str s, if s = k then t else u) :: dsetT r k t
  | p :: r, k, t => p :: dsetT r k t
def dputT (kvs : List (T × T)) (k : Str) (t : T) : List (T × T) := if (dgetT kvs k).isSome = true then dsetT kvs k t else kvs ++ [(.str k, t)]
section
variable {K : PySem.W.Frag} {mg : Str → Option Value} {m : Mp} {H : Hp} {kvs : List (T × T)} {ks : List (Key × V)}
theorem RK.get (r : RK K mg m H kvs ks) (k : Str) : (∀ t, dgetT kvs k = some t → ∃ v, valV ks (.inr k) = some v ∧ RT K mg m H t v) ∧ (dgetT kvs k = none → valV ks (.inr k) = none) := by
  induction r with
  | nil => exact ⟨fun t e => (by cases e), fun _ => rfl⟩
  | @cons f t v fs fv r _ ih =>
    by_cases e : f = k
    · subst e
      refine ⟨fun u h => ?_, fun h => ?_⟩
      · simp only [dgetT, if_true] at h
        cases h
        exact ⟨v, valV_pos rfl, r⟩
      · simp [dgetT] at h
    · have ne : ¬ ((Sum.inr f : Key) = .inr k) := fun z => e (Sum.inr.inj z)
      have e1 : dgetT ((.str f, t) :: fs) k = dgetT fs k := by simp only [dgetT]; rw [if_neg e]
      rw [e1, valV_neg (p := (Sum.inr f, v)) ne]
      exact ih
theorem RK.isSome (r : RK K mg m H kvs ks) (k : Str) : (dgetT kvs k).isSome = (valV ks (.inr k)).isSome := by
  obtain ⟨h1, h2⟩ := r.get k
  cases e : dgetT kvs k with
  | none => rw [h2 e]; rfl
  | some t =>
    obtain ⟨v, h, _⟩ := h1 t e
    rw [h]
    rfl
theorem RK.length (r : RK K mg m H kvs ks) : kvs.length = ks.length := by
  induction r with
  | nil => rfl
  | cons _ _ ih => simp [ih]
theorem RK.snoc (r : RK K mg m H kvs ks) {k : Str} {t : T} {v : V} (q : RT K mg m H t v) : RK K mg m H (kvs ++ [(.str k, t)]) (ks ++ [(.inr k, v)]) := by
  induction r with
  | nil => exact .cons q .nil
  | cons r _ ih => exact .cons r ih
theorem RK.set (r : RK K mg m H kvs ks) {k : Str} {t : T} {v : V} (q : RT K mg m H t v) : RK K mg m H (dsetT kvs k t) (ks.map fun kv => if kv.1 = (.inr k : Key) then (kv.1, v) else kv) := by
  induction r with
  | nil => exact .nil
  | @cons f u w fs fv r _ ih =>
    simp only [dsetT, List.map_cons]
    by_cases e : f = k
    · subst e
      rw [if_pos rfl, if_pos rfl]
      exact .cons q ih
    · rw [if_neg e, if_neg (fun z => e (Sum.inr.inj z))]
      exact .cons r ih
theorem RK.put (r : RK K mg m H kvs ks) {k : Str} {t : T} {v : V} (q : RT K mg m H t v) : RK K mg m H (dputT kvs k t) (putK ks (.inr k) v) := by
  unfold dputT putK
  rw [valV_any, ← r.isSome k]
  split
  · exact r.set q
  · exact r.snoc q
theorem HR.dic {h : Hh} (R : HR K mg m h H) {l : Nat} {a : Addr} (e : m l = some a) (hl : h[l]? = some (.dic kvs)) : ∃ ks, H a = some (.dK ks) ∧ RK K mg m H kvs ks := by
  obtain ⟨b, e1, r⟩ := R.ob l _ hl
  rw [e] at e1
  cases e1
  exact r
end
def dicAt (h : Hh) (l : Nat) : Option (List (T × T)) := match h[l]? with | some (.dic kvs) => some kvs | _ => none
def oDGet (x k : T) (h : Hh) : Res T := match x, k with
  | .ref l, .str s => (match dicAt h l with
    | some kvs => (match dgetT kvs s with | some t => .ok t h | none => .stk)
    | none => .stk)
  | _, _ => .stk
def oDIn (k x : T) (h : Hh) : Res T := match x, k with
  | .ref l, .str s => (match dicAt h l with
    | some kvs => .ok (.bl (dgetT kvs s).isSome) h
    | none => .stk)
  | _, _ => .stk
def ssDSub (so si sv : SE) : SS := fun σ h => (sv σ h).flo σ fun y h1 => (so σ h1).flo σ fun x h2 => (si σ h2).flo σ fun k h3 => match x, k with
  | .ref l, .str s => (match dicAt h3 l with
    | some kvs => if kvs.length < 1000 then .nx σ (h3.set l (.dic (dputT kvs s y))) else .stk
    | none => .stk)
  | _, _ => .stk
section
variable {X : Cx} {P : Pq} {W : WX} {a b c : Expr} {sa sb sc : SE} {pos p : Pos}
end
end W3
end

section
namespace W3
open PySem
open Sem (wp)
section
variable {prog : Program} {w : World} {A : Around} {E : Value → Shared → Prop} {s : Shared}
end
section
variable {prog : Program} {w : World}
end
end W3
namespace W3
open PySem PySem.Spec PyProof.Rows
open L2
end W3
namespace W3
open PySem PySem.Spec PyProof.Rows
open L2
def mkvT : List T → List T → Option (List (Str × T))
  | [], [] => some []
  | .str s :: ts, u :: us => (mkvT ts us).map ((s, u) :: ·)
  | _, _ => none
def dmrgT (acc : List (T × T)) (fs : List (Str × T)) : List (T × T) := fs.foldl (fun acc p => dputT acc p.1 p.2) acc
def dicZ (xs : List T) (h : Hh) : Res T := match xs with
  | [.tup ts, .tup us] => (match mkvT ts us with
    | some fs => alloc (.dic (dmrgT [] fs)) h
    | none => .stk)
  | _ => .stk
def sDicZ (ar : SA) : SE := fun σ h => (ar σ h).bind dicZ
section
variable {X : Cx} {P : Pq} {W : WX} {a b : Expr} {ar : SA} {pos pos2 p p2 : Pos}
end
end W3
end

section
namespace W3
open PySem PySem.Spec PyProof.Rows
open L2
structure DPs (X : Cx) (P : Pq) (W : WX) (pos : Pos) (keys : List (Option Expr)) (values : List Expr) (ks : List Str) (ar : SA) : Prop where
  ex : ∃ trs, PPs X pos keys values trs ∧ ∀ (σV : L2.St) (H : Hp) (Q : List (V × V) → Hp → Prop), tAr X.K X.mg P W ar σV H (fun vs H1 => Q (List.zipWith (fun k v => (V.str k, v)) ks vs) H1) → tPairs trs σV H Q
section
variable {X : Cx} {P : Pq} {W : WX} {sa : SE} {ar : SA} {pos p : Pos} {v : Expr} {keys : List (Option Expr)} {values : List Expr} {k : Str} {ks : List Str} {j : Nat}
def sDisp (ks : List Str) (ar : SA) : SE := fun σ h => (ar σ (h ++ [.dic []])).bind fun xs h2 => match dicAt h2 h.length with
  | some [] => if xs.length = ks.length ∧ ks.length ≤ 15 then .ok (.ref h.length) (h2.set h.length (.dic (dmrgT [] (ks.zip xs)))) else .stk
  | _ => .stk
end
end W3
namespace W3
open PySem PySem.Spec PyProof.Rows
open L2
def ssPar3 (i j l : Nat) (sa : SA) : SS := fun σ h => (sa σ h).flo σ fun xs h1 => match xs with | [x, y, z] => .nx (((σ.set i (some x)).set j (some y)).set l (some z)) h1 | _ => .stk
section
variable {X : Cx}
end
@[simp] theorem e_ssPar3 (i j l : Nat) (sa : SA) (σ : St3) (h : Hh) : ssPar3 i j l sa σ h = (sa σ h).flo σ fun xs h1 => match xs with | [x, y, z] => .nx (((σ.set i (some x)).set j (some y)).set l (some z)) h1 | _ => .stk := Eq.trans rfl rfl
@[simp] theorem e_dget (l : Nat) (s : Str) (h : Hh) : oDGet (.ref l) (.str s) h = match dicAt h l with
    | some kvs => (match dgetT kvs s with | some t => .ok t h | none => .stk)
    | none => .stk := Eq.trans rfl rfl
@[simp] theorem e_din (l : Nat) (s : Str) (h : Hh) : oDIn (.str s) (.ref l) h = match dicAt h l with
    | some kvs => .ok (.bl (dgetT kvs s).isSome) h
    | none => .stk := Eq.trans rfl rfl
@[simp] theorem e_ssDSub (so si sv : SE) (σ : St3) (h : Hh) : ssDSub so si sv σ h = (sv σ h).flo σ fun y h1 => (so σ h1).flo σ fun x h2 => (si σ h2).flo σ fun k h3 => match x, k with
    | .ref l, .str s => (match dicAt h3 l with
      | some kvs => if kvs.length < 1000 then .nx σ (h3.set l (.dic (dputT kvs s y))) else .stk
      | none => .stk)
    | _, _ => .stk := Eq.trans rfl rfl
@[simp] theorem e_sDicZ (ar : SA) (σ : St3) (h : Hh) : sDicZ ar σ h = (ar σ h).bind dicZ := Eq.trans rfl rfl
@[simp] theorem e_dicZ (ts us : List T) (h : Hh) : dicZ [.tup ts, .tup us] h = match mkvT ts us with
    | some fs => alloc (.dic (dmrgT [] fs)) h
    | none => .stk := Eq.trans rfl rfl
@[simp] theorem e_sDisp (ks : List Str) (ar : SA) (σ : St3) (h : Hh) : sDisp ks ar σ h = (ar σ (h ++ [.dic []])).bind fun xs h2 => match dicAt h2 h.length with
    | some [] => if xs.length = ks.length ∧ ks.length ≤ 15 then .ok (.ref h.length) (h2.set h.length (.dic (dmrgT [] (ks.zip xs)))) else .stk
    | _ => .stk := Eq.trans rfl rfl
end W3
end

section
namespace RZ4
open PySem
open PySem.Sem (wp)
open RZ
structure At4 (z TI TO i1 i2 i3 i4 l1 l2 l3 l4 : Nat) : Prop where
  e2 : i2 = i1 + 1
  e3 : i3 = i1 + 2
  e4 : i4 = i1 + 3
  eI : TI = i1 + 4
  eO : TO = i1 + 5
  ez : z = i1 + 6
  f1 : l1 < i1
  f2 : l2 < i1
  f3 : l3 < i1
  f4 : l4 < i1
section
variable {prog : Program} {w : World} {A : Around} {E : Value → Shared → Prop} {s : Shared}
end
section
variable {prog : Program} {w : World} {A : Around} {E : Value → Shared → Prop} {s : Shared}
end
end RZ4
end

section
namespace W3
open PySem PySem.Spec PyProof.Rows
open L2
open RZ4
def zip4L : List T → List T → List T → List T → List T
  | x :: xs, y :: ys, u :: us, v :: vs => .tup [x, y, u, v] :: zip4L xs ys us vs
  | _, _, _, _ => []
section
variable {K : PySem.W.Frag} {mg : Str → Option Value} {m : Mp} {H : Hp}
end
def zip4Of (xs : List T) (h : Hh) : Res Src := match xs with
  | [.tup t1, .tup t2, .tup t3, .tup t4] => if t2.length = t1.length ∧ t3.length = t1.length ∧ t4.length = t1.length then .ok (.its (zip4L t1 t2 t3 t4)) h else .stk
  | _ => .stk
def siZip4 (a : SA) : SI := fun σ h => (a σ h).bind zip4Of
@[simp] theorem e_siZip4 (a : SA) (σ : St3) (h : Hh) : siZip4 a σ h = (a σ h).bind zip4Of := Eq.trans rfl rfl
section
variable {X : Cx} {P : Pq} {W : WX} {a b c d : Expr} {ar : SA} {pos p : Pos}
end
end W3
end

section
namespace W3
open PySem PySem.Spec PyProof.Rows
open L2
def ssAsgH (a : SE) (g : SGH) : SS := fun σ h => (a σ h).flo σ fun x h1 => match g x σ h1 with | some σ' => .nx σ' h1 | none => .stk
section
variable {X : Cx} {P : Pq} {W : WX} {tg a : Expr} {sa : SE} {pos : Pos}
end
@[simp] theorem e_ssAsgH (a : SE) (g : SGH) (σ : St3) (h : Hh) : ssAsgH a g σ h = (a σ h).flo σ fun x h1 => match g x σ h1 with | some σ' => .nx σ' h1 | none => .stk := Eq.trans rfl rfl
@[simp] theorem e_sgLst (n : Nat) (g : SGs) (l : Nat) (σ : St3) (h : Hh) : sgLst n g (.ref l) σ h = match lstAt h l with | some ts => if ts.length = n then g ts σ else none | none => none := Eq.trans rfl rfl
end W3
end

section
namespace OwLen
open PySem PySem.Spec PyProof.Rows
section
variable {prog : Program} {w : World} {A : Around} {E : Value → Shared → Prop} {s : Shared} {K : PySem.W.Frag} {x C D f : Addr} {ox od : Obj} {odd : Option Obj}
end
end OwLen
namespace L2
open PySem PySem.Spec PyProof.Rows
section
variable {X : Cx} {CX : CXT} {k : Nat} {C g : Addr} {fd : FuncData} {ps : List Str} {sp : Sp} {E : XK}
end
end L2
end

section
namespace W3
open PySem PySem.Spec PyProof.Rows
open L2
def fLen (cn : Str) (ff : List T → Hh → Res T) (xs : List T) (h : Hh) : Res T := match xs with
  | [.ref l] => (match insAt h l with
    | some (d, _) => if d = cn then (match ff [.ref l] h with
      | .ok (.int i) h' => if 0 ≤ i ∧ i < 2 ^ 63 then .ok (.int i) h' else .stk
      | _ => .stk) else .stk
    | none => bLen [.ref l] h)
  | _ => bLen xs h
theorem takesWF (X : Cx) : Takes X WF := fun u s' ⟨_, _, _, _, _, _, _, _, _, _, _, _, _, _, _, _, w⟩ => False.elim w
def sProp (cn : Str) (ff : List T → Hh → Res T) (so : SE) : SE := fun σ h => (so σ h).bind fun x h1 => match x with
  | .ref l => (match insAt h1 l with
    | some (d, _) => if d = cn then (match ff [.ref l] h1 with | .ok t h2 => .ok t h2 | _ => .stk) else .stk
    | none => .stk)
  | _ => .stk
@[simp] theorem e_sProp (cn : Str) (ff : List T → Hh → Res T) (so : SE) (σ : St3) (h : Hh) : sProp cn ff so σ h = (so σ h).bind fun x h1 => match x with
  | .ref l => (match insAt h1 l with
    | some (d, _) => if d = cn then (match ff [.ref l] h1 with | .ok t h2 => .ok t h2 | _ => .stk) else .stk
    | none => .stk)
  | _ => .stk := Eq.trans rfl rfl
end W3
end

section
namespace W3
open PySem PySem.Spec PyProof.Rows
open L2
end W3
end

section
namespace W3
open PySem PySem.Spec PyProof.Rows
open L2
def fGet (cn : Str) (ff : List T → Hh → Res T) (x i : T) (h : Hh) : Res T := match x with
  | .ref l => (match insAt h l with
    | some (d, _) => if d = cn then ff [.ref l, i] h else .stk
    | none => oIx (.ref l) i h)
  | _ => oIx x i h
def fIn (cn : Str) (ff : List T → Hh → Res T) (y x : T) (h : Hh) : Res T := match x with
  | .ref l => (match insAt h l with
    | some (d, _) => if d = cn then (match ff [.ref l, y] h with
      | .ok (.bl b) h' => .ok (.bl b) h'
      | _ => .stk) else .stk
    | none => oIn y (.ref l) h)
  | _ => oIn y x h
def fNotIn (cn : Str) (ff : List T → Hh → Res T) (y x : T) (h : Hh) : Res T := match x with
  | .ref l => (match insAt h l with
    | some (d, _) => if d = cn then (match ff [.ref l, y] h with
      | .ok (.bl b) h' => .ok (.bl (!b)) h'
      | _ => .stk) else .stk
    | none => oNotIn y (.ref l) h)
  | _ => oNotIn y x h
def fEq (cn : Str) (ff : List T → Hh → Res T) (x y : T) (h : Hh) : Res T := match x, y with
  | .ref l, .ref j => (match insAt h l, insAt h j with
    | some (d, _), some (e, _) => if d = cn ∧ e = cn then (match ff [.ref l, .ref j] h with
      | .ok (.bl b) h' => .ok (.bl b) h'
      | _ => .stk) else .stk
    | none, _ => oEq (.ref l) (.ref j) h
    | _, _ => .stk)
  | _, _ => oEq x y h
def ssSetO (cn : Str) (ff : List T → Hh → Res T) (o i v : SE) : SS := fun σ h => (v σ h).flo σ fun y h1 => (o σ h1).flo σ fun x h2 => (i σ h2).flo σ fun k h3 => match x with
  | .ref l => (match insAt h3 l with
    | some (d, _) => if d = cn then (ff [.ref l, k, y] h3).flo σ fun _ h4 => .nx σ h4 else .stk
    | none => .stk)
  | _ => .stk
section
variable {X : Cx} {P : Pq} {W : WX} {a b : Expr} {sa sb : SE} {pos : Pos} {cn : Str} {C g : Addr} {k : Nat} {fd : FuncData} {ps : List Str} {ff : List T → Hh → Res T}
theorem run_in1 {CX : CXT} {sp : Sp} {E : XK} {pins : List (Addr × Obj)} {σ : L2.St} {H : Hp} {s : Shared} {Q : VK} {us : List Value} {vs : List V} (F : FnOk X.prog X.w X.K X.mg X.base CX k g fd ps sp) (hr : Room (k + 1) X.A) (hb : Binds X.K fd ps [])
    (hx : PassesAt CX X σ E) (I : L2.Inv X pins σ H s) (r : Vals vs us) (q : sp vs H Q E) : wpAny (model X.prog X.w) X.A.in1 (call (.ref g) us) (EP X pins σ Q) X.xe s := by
  have hl : (us ++ ([] : List Value)).length = ps.length := by
    rw [List.append_nil, ← r.length]
    exact F.len _ _ _ _ q
  have e0 := hb s us I.kIn hl
  rw [List.append_nil] at e0
  refine wpAny_call (codeAny_mono (F.run X.A.in1 X.stack s H ⟨us, []⟩ us vs _ E hr.in1 I.env0.in1 e0 r q) fun r s' hq => ?_)
  cases r with
  | error e => exact hx pins H s e s' I hq
  | ok fl =>
    cases fl with
    | ret u => exact I.after hq
    | next => exact False.elim hq
    | brk => exact False.elim hq
    | cont => exact False.elim hq
theorem op_eqO (hC : X.mg cn = some (.ref C)) (hs : PySem.W.findIn X.K (.ref C) "__eq__" = some (some (.ref g))) (hf : PySem.W.isFn X.K (.ref g) = true)
    (F : FnOk X.prog X.w X.K X.mg X.base (L2.CX X.prog X.w) k g fd ps (spT X.K X.mg 2 ff)) (hr : Room k X.A) (hb : Binds X.K fd ps []) (ho : OpR X (compareOp .Eq) (rP2 X.K X.mg oEq)) : OpR X (compareOp .Eq) (rP2 X.K X.mg (fEq cn ff)) := by
  intro pins s σ H x y u v Q I rx ry ⟨m, h, tx, ty, r1, r2, R, o⟩
  unfold fEq at o
  split at o
  · rename_i l j
    split at o
    · rename_i d fs e' fs' q1 q2
      split at o
      · rename_i hd
        obtain ⟨hd1, hd2⟩ := hd
        subst hd1
        subst hd2
        split at o
        · rename_i b h' eff
          cases r1 with
          | @ref _ ad e1 =>
            cases r2 with
            | @ref _ ae e2 =>
              obtain ⟨C', dx, fv, g1, g2, rf⟩ := R.ins e1 q1
              obtain ⟨C2, dx2, fv2, g3, g4, rf2⟩ := R.ins e2 q2
              rw [hC] at g1 g3
              cases g1
              cases g3
              cases rx
              cases ry
              obtain ⟨mA, O, _, _, _, _⟩ := ins_get I.hok g2
              obtain ⟨mB, O2, _, _, _, _⟩ := ins_get I.hok g4
              obtain ⟨od, J, _⟩ := O.look
              obtain ⟨od2, J2, _⟩ := O2.look
              obtain ⟨mf, hF⟩ := I.fr
              have sp : spT X.K X.mg 2 ff [.ref ad, .ref ae] H (fun z H' => z = .bl b ∧ Q (.bl b) H') (fun _ _ _ => False) := by
                refine ⟨rfl, m, h, [.ref l, .ref j], .cons (.ref e1) (.cons (.ref e2) .nil), R, ?_⟩
                rw [eff]
                intro z m' H' E rt R'
                cases rt
                exact ⟨rfl, o _ m' H' E (.bl _) R'⟩
              refine PySem.W.cmp_K (op := .Eq) (tb := .ref C) hr.units0 hF I.ok.mod.kin J J2.type (by simp [PySem.W.notFirst]) hs hf (wpAny_mono (run_fn (vs := [.ref ad, .ref ae]) (dvs := []) (ds := []) F hr hb .nil (fun pins σ H s e s' I c => passAt (takesWF X) σ pins H s e s' I c) I (.cons rfl (.cons rfl .nil)) sp) (fun w s' z => ?_) fun _ _ x => x)
              obtain ⟨z', H', I', rz, ez, qz⟩ := z
              subst ez
              cases rz
              exact ⟨.bl b, H', I', rfl, qz⟩
        · exact False.elim o
      · exact False.elim o
    · exact ho pins s σ H x y u v Q I rx ry ⟨m, h, _, _, r1, r2, R, o⟩
    · exact False.elim o
  · exact ho pins s σ H x y u v Q I rx ry ⟨m, h, _, _, r1, r2, R, o⟩
theorem nx_eqO : NoX2 (fEq cn ff) := fun x y h c fs h' e => by
  unfold fEq oEq at e
  (repeat' split at e) <;> cases e
end
section
variable {h : Hh}
@[simp] theorem e_fGet (cn : Str) (ff : List T → Hh → Res T) (l : Nat) (i : T) : fGet cn ff (.ref l) i h = match insAt h l with
  | some (d, _) => if d = cn then ff [.ref l, i] h else .stk
  | none => oIx (.ref l) i h := Eq.trans rfl rfl
@[simp] theorem e_fGet_tup (cn : Str) (ff : List T → Hh → Res T) (ts : List T) (i : T) : fGet cn ff (.tup ts) i h = oIx (.tup ts) i h := Eq.trans rfl rfl
@[simp] theorem e_fIn (cn : Str) (ff : List T → Hh → Res T) (l : Nat) (y : T) : fIn cn ff y (.ref l) h = match insAt h l with
  | some (d, _) => if d = cn then (match ff [.ref l, y] h with
    | .ok (.bl b) h' => .ok (.bl b) h'
    | _ => .stk) else .stk
  | none => oIn y (.ref l) h := Eq.trans rfl rfl
@[simp] theorem e_fIn_tup (cn : Str) (ff : List T → Hh → Res T) (ts : List T) (y : T) : fIn cn ff y (.tup ts) h = oIn y (.tup ts) h := Eq.trans rfl rfl
@[simp] theorem e_fNotIn (cn : Str) (ff : List T → Hh → Res T) (l : Nat) (y : T) : fNotIn cn ff y (.ref l) h = match insAt h l with
  | some (d, _) => if d = cn then (match ff [.ref l, y] h with
    | .ok (.bl b) h' => .ok (.bl (!b)) h'
    | _ => .stk) else .stk
  | none => oNotIn y (.ref l) h := Eq.trans rfl rfl
@[simp] theorem e_fNotIn_tup (cn : Str) (ff : List T → Hh → Res T) (ts : List T) (y : T) : fNotIn cn ff y (.tup ts) h = oNotIn y (.tup ts) h := Eq.trans rfl rfl
@[simp] theorem e_ssSetO (cn : Str) (ff : List T → Hh → Res T) (o i v : SE) (σ : St3) : ssSetO cn ff o i v σ h = (v σ h).flo σ fun y h1 => (o σ h1).flo σ fun x h2 => (i σ h2).flo σ fun k h3 => match x with
  | .ref l => (match insAt h3 l with
    | some (d, _) => if d = cn then (ff [.ref l, k, y] h3).flo σ fun _ h4 => .nx σ h4 else .stk
    | none => .stk)
  | _ => .stk := Eq.trans rfl rfl
end
end W3
namespace W3
open PySem PySem.Spec PyProof.Rows
open L2
def ssRaise0 (c : Str) : SS := fun σ h => .exc c [] σ h
@[simp] theorem e_ssRaise0 (c : Str) (σ : St3) (h : Hh) : ssRaise0 c σ h = .exc c [] σ h := Eq.trans rfl rfl
end W3
namespace W3
open PySem PySem.Spec PyProof.Rows
open L2
end W3
end

section
namespace W3
open PySem PySem.Spec PyProof.Rows
open L2
def isO (cn : Str) (x : T) (h : Hh) : Bool := match x with
  | .ref l => (match insAt h l with | some (d, _) => decide (d = cn) | none => false)
  | _ => false
def oIsO (cn : Str) (x : T) (h : Hh) : Res T := if isO cn x h = true then .ok (.bl true) h else .stk
theorem nx_isO {cn : Str} : NoX1 (oIsO cn) := fun x h c fs h' e => by
  unfold oIsO at e
  split at e <;> cases e
structure IsoC (K : PySem.W.Frag) (C : Addr) : Prop where
  cl : Cls K C
  ha : PySem.W.findIn K (.ref C) "__class__" = some (some (.builtin "object.__class__"))
  hn : PySem.W.specialIn K (.builtin "object.__class__") "__get__" = some (some (.builtin "getset_descriptor.__get__"))
  ht : PySem.W.takesIn K (.builtin "object.__class__") = some true
  hm : PySem.W.mroIn K C (.type "object") = some true
theorem de_isO {X : Cx} {P : Pq} {W : WX} {a : Expr} {sa : SE} {cn : Str} {C : Addr} {p p2 pos : Pos} (I : IsoC X.K C) (hg : Gl X "isinstance") (hm : X.mg "isinstance" = none) (hgx : Gl X cn) (hC : X.mg cn = some (.ref C)) (ha : DE X P W a sa) (hdx : (cn == ("__debug__" : Str)) = false := by decide)
    (he : starEach [a, .Name cn p2] X.env = (false, eval a X.env) :: starEach [.Name cn p2] X.env := by rfl) (hpl : (backTo pos (starEach [.Name cn p2] X.env)).any (·.1) = false := by rfl) (hs2 : starEach [.Name cn p2] X.env = (false, eval (.Name cn p2) X.env) :: starEach [] X.env := by rfl) :
    DE X P W (.Call (.Name "isinstance" p) [a, .Name cn p2] [] pos) (s1 (oIsO cn) sa) :=
  PE.imp (pe_callB call_isi hg hm boot_isinstance (pa_cons ha (pa_cons (pe_glob (v := .ref C) hgx hC rfl hdx) pa_nil hs2) he) (by decide) (by decide) he hpl) fun σV H Q h => by
    refine tG.mono (fun v H1 hq => ?_) (one nx_isO h)
    obtain ⟨m, h, t, r, R, o⟩ := hq
    cases t with
    | ref l =>
      cases q1 : insAt h l with
      | none =>
        have : oIsO cn (.ref l) h = .stk := by simp [oIsO, isO, q1]
        rw [this] at o
        exact False.elim o
      | some p =>
        obtain ⟨d, fs⟩ := p
        by_cases hd : d = cn
        · have : oIsO cn (.ref l) h = .ok (.bl true) h := by simp [oIsO, isO, q1, hd]
          rw [this] at o
          subst hd
          cases r with
          | @ref _ ad e1 =>
            obtain ⟨C', dx, fv, g1, g2, rf⟩ := R.ins e1 q1
            rw [hC] at g1
            cases g1
            exact ⟨.ref ad, .ref C, .ref C, .ref C, true, rfl, .own C, .base (.ins g2 I.cl I.ha I.hn I.ht I.hm), by simp [PySem.W.kitOne], o _ m H1 (Ext.refl _ _) (.bl _) R⟩
        · have : oIsO cn (.ref l) h = .stk := by simp [oIsO, isO, q1, hd]
          rw [this] at o
          exact False.elim o
    | _ => exact False.elim o
theorem isO_of {cn : Str} {l : Nat} {h : Hh} {fs : List (Str × T)} (e : insAt h l = some (cn, fs)) : oIsO cn (.ref l) h = .ok (.bl true) h := by simp [oIsO, isO, e]
end W3
end

section
namespace W3
open PySem PySem.Spec PyProof.Rows
open L2
def strsOf : List T → Option (List Str)
  | [] => some []
  | .str s :: r => (strsOf r).map (s :: ·)
  | _ :: _ => none
def joinT (a : Str) (ts : List T) (h : Hh) : Res T := match strsOf ts with
  | some ys => if (ys.map (·.length)).sum + ys.length * a.length ≤ 16777216 then .ok (.str (Txt.join a ys)) h else .stk
  | none => .stk
def mJoin (x : T) (vs : List T) (h : Hh) : Res T := match x, vs with
  | .str a, [.ref l] => (match lstAt h l with | some ts => joinT a ts h | none => .stk)
  | .str a, [.tup ts] => joinT a ts h
  | _, _ => .stk
def sMtS (f : T → List T → Hh → Res T) (o : SE) (a : SA) : SE := fun σ h => (o σ h).bind fun x h1 => match x with
  | .str s => (a σ h1).bind fun xs h2 => f (.str s) xs h2
  | _ => .stk
section
variable {X : Cx} {P : Pq} {W : WX} {a b c o e : Expr} {sa sb sc so : SE} {pos pos' apos cpos p : Pos} {es : List Expr} {ar : SA}
open Classical in
noncomputable def rngOf2 (xs : List T) (h1 : Hh) : Res Src := match xs with
  | [.int i, .int j] => if RngOk i ∧ RngOk j then .ok (.its (rangeT i (j - i).toNat)) h1 else .stk
  | _ => .stk
noncomputable def siRange2 (a : SA) : SI := fun σ h => (a σ h).bind rngOf2
@[simp] theorem e_siRange2 (a : SA) (σ : St3) (h : Hh) : siRange2 a σ h = (a σ h).bind rngOf2 := Eq.trans rfl rfl
@[simp] theorem e_sMtS (f : T → List T → Hh → Res T) (o : SE) (a : SA) (σ : St3) (h : Hh) : sMtS f o a σ h = (o σ h).bind fun x h1 => match x with
  | .str s => (a σ h1).bind fun xs h2 => f (.str s) xs h2
  | _ => .stk := Eq.trans rfl rfl
@[simp] theorem e_join_ref (a : Str) (l : Nat) (h : Hh) : mJoin (.str a) [.ref l] h = match lstAt h l with | some ts => joinT a ts h | none => .stk := Eq.trans rfl rfl
end
end W3
end

section
namespace W3.Ne
open PySem PySem.Spec PyProof.Rows PySem.W
section
variable {prog : Program} {w : World} {A : Around} {E : Value → Shared → Prop} {s : Shared} {K : PySem.W.Frag} {x y C L g : Addr} {h₀ : Heap} {m : Str → Option Value} {ox : Obj} {od : Option Obj}
theorem ifNe_K {M : Model} {A : Around} {args : List Value} {Q : Option Value → Shared → Prop} (X : K.In s.heap) (I : InstAt s.heap x ox C od) (hs : findIn K (.ref C) "__ne__" = some (some (.builtin "object.__ne__")))
    (h : wpAny M A (call (.builtin "object.__ne__") (.ref x :: args)) (fun v => Q (some v)) E s) : wpAny M A (callSpecialIfBound? (.ref x) "__ne__" args) Q E s := by
  simp only [callSpecialIfBound?, bindSpecialIfBound?]
  refine wpAny_holding (wpAny_bind (wpAny_bind (wpAny_bind (I.type.here ((looks_findIn X hs).here ?_)))))
  simp only [PySem.F.cmp_object.ne.bind]
  refine wpAny_bind (wpAny_askSetting (wpAny_ite ?_))
  have fin : wpAny M A (call (.builtin "object.__ne__") ([.ref x] ++ args) >>= fun v => pure (some v)) Q E s := wpAny_bind (wpAny_mono h (fun v s' h' => wpAny_pure h') fun _ _ h' => h')
  split
  · exact wpAny_bind (wpAny_pure (wpAny_pure fin))
  · exact wpAny_tryCatch (wpAny_bind (wpAny_pure (wpAny_pure fin)))
theorem objNe_K (hu : A.units < cLine) (X : K.In s.heap) (I : InstAt s.heap x ox C od) (he : findIn K (.ref C) "__eq__" = some (some (.ref g))) (hf : isFn K (.ref g) = true) {Q : Fin → Shared → Prop}
    (hcall : wpAny (model prog w) A (call (.ref g) [.ref x, .ref y]) (fun v s' => ∃ b, v = .bool b ∧ Q (.done (.ret (.bool (!b)))) s') E s) :
    wpAny (model prog w) A (Builtin.«object.__ne__» ⟨[.ref x, .ref y], []⟩) Q E s := by
  unfold Builtin.«object.__ne__»
  repeat (first
    | with_reducible refine wpAny_cRoomFor hu ?_
    | (refine wpAny_bind (m := callSpecialIfBound? (.ref x) (Str.ofString "__eq__") [.ref y])
        (ifBound_K X I he hf (wpAny_mono hcall (fun r s' hr => by
          obtain ⟨b, rfl, hq⟩ := hr
          repeat (first | exact hq | exact wpAny_pure hq | exact wpAny_truthy_bool hq | (refine wpAny_bind (m := truthy (.bool _)) (wpAny_truthy_bool ?_)) | wp_step)) fun _ _ e => e)))
    | wp_step)
theorem ne_K {Q : Value → Shared → Prop} (hu : A.units + 1 < cLine) (F : Fr h₀ L s.heap m) (X₀ : K.In h₀) (I : InstAt s.heap x ox C od) (hb : Looks (model prog w) s.heap (typeOf (.ref y)) (.ref C))
    (hm : mroIn K C (.type "object") = some true) (hs : findIn K (.ref C) "__ne__" = some (some (.builtin "object.__ne__"))) (he : findIn K (.ref C) "__eq__" = some (some (.ref g))) (hf : isFn K (.ref g) = true)
    (h : wpAny (model prog w) A.in1 (call (.ref g) [.ref x, .ref y]) (fun v s' => ∃ b, v = .bool b ∧ Q (.bool (!b)) s') E s) : wpAny (model prog w) A (richCompare .NotEq (.ref x) (.ref y)) Q E s := by
  have X := X₀.keeps F.keep
  have sub : Looks (model prog w) s.heap (isInstance (.ref x) (.type "object")) true := by
    have L0 := I.type (M := model prog w)
    have L1 := looks_mroIn (M := model prog w) X hm
    exact L0.andThen L1
  have one : wpAny (model prog w) A (tryCompare (.ref x) "__ne__" (.ref y)) (fun r s' => ∃ v, r = some v ∧ Q v s') E s := by
    unfold tryCompare
    refine wpAny_bind (ifNe_K X I hs (wpAny_call (codeAny_call_builtin PySem.F.cmp_object.ne.plain PySem.F.cmpEntry_ne
      (check_slot PySem.F.cmpKind_ne PySem.F.cmpSplit_ne sub (PySem.F.cmpArgs_ne _ _) (objNe_K (A := A.in1) hu X I he hf (wpAny_mono h (fun v s' hv => ?_) fun _ _ e => e))))))
    obtain ⟨b, rfl, hq⟩ := hv
    first | exact ⟨b, rfl, wpAny_pure ⟨_, rfl, hq⟩⟩ | exact ⟨b, rfl, wpAny_pure (wpAny_pure ⟨_, rfl, hq⟩)⟩ | exact ⟨b, rfl, _, rfl, hq⟩
  unfold richCompare
  simp only [oneThing_ref]
  refine wpAny_holding (wpAny_bind (wpAny_cRoomFor (Nat.lt_of_succ_lt hu) ?_))
  rw [cmpInfo_NotEq]
  dsimp only
  refine wpAny_bind (I.type.here (wpAny_bind (hb.here ?_)))
  rw [show (Value.ref C != Value.ref C) = false from by simp]
  simp only [Bool.false_eq_true, if_false]
  refine wpAny_bind (wpAny_pure ?_)
  simp only [Bool.false_eq_true, if_false]
  refine wpAny_bind (wpAny_mono one (fun r s' z => ?_) fun _ _ e => e)
  obtain ⟨v, rfl, hq⟩ := z
  exact wpAny_pure hq
end
end W3.Ne
namespace W3
open PySem PySem.Spec PyProof.Rows
open L2
section
variable {X : Cx} {P : Pq} {W : WX} {a b : Expr} {sa sb : SE} {pos : Pos} {cn : Str} {C g : Addr} {k : Nat} {fd : FuncData} {ps : List Str} {ff : List T → Hh → Res T}
def fNeO (cn : Str) (ff : List T → Hh → Res T) (x y : T) (h : Hh) : Res T := match x, y with
  | .ref l, .ref j => (match insAt h l, insAt h j with
    | some (d, _), some (e, _) => if d = cn ∧ e = cn then (match ff [.ref l, .ref j] h with
      | .ok (.bl b) h' => .ok (.bl (!b)) h'
      | _ => .stk) else .stk
    | none, _ => oNe (.ref l) (.ref j) h
    | _, _ => .stk)
  | _, _ => oNe x y h
theorem op_neO (hC : X.mg cn = some (.ref C)) (hm : PySem.W.mroIn X.K C (.type "object") = some true) (hn : PySem.W.findIn X.K (.ref C) "__ne__" = some (some (.builtin "object.__ne__"))) (hs : PySem.W.findIn X.K (.ref C) "__eq__" = some (some (.ref g))) (hf : PySem.W.isFn X.K (.ref g) = true)
    (F : FnOk X.prog X.w X.K X.mg X.base (L2.CX X.prog X.w) k g fd ps (spT X.K X.mg 2 ff)) (hr : Room (k + 1) X.A) (hb : Binds X.K fd ps []) (ho : OpR X (compareOp .NotEq) (rP2 X.K X.mg oNe)) : OpR X (compareOp .NotEq) (rP2 X.K X.mg (fNeO cn ff)) := by
  intro pins s σ H x y u v Q I rx ry ⟨m, h, tx, ty, r1, r2, R, o⟩
  unfold fNeO at o
  split at o
  · rename_i l j
    split at o
    · rename_i d fs e' fs' q1 q2
      split at o
      · rename_i hd
        obtain ⟨hd1, hd2⟩ := hd
        subst hd1
        subst hd2
        split at o
        · rename_i b h' eff
          cases r1 with
          | @ref _ ad e1 =>
            cases r2 with
            | @ref _ ae e2 =>
              obtain ⟨C', dx, fv, g1, g2, rf⟩ := R.ins e1 q1
              obtain ⟨C2, dx2, fv2, g3, g4, rf2⟩ := R.ins e2 q2
              rw [hC] at g1 g3
              cases g1
              cases g3
              cases rx
              cases ry
              obtain ⟨mA, O, _, _, _, _⟩ := ins_get I.hok g2
              obtain ⟨mB, O2, _, _, _, _⟩ := ins_get I.hok g4
              obtain ⟨od, J, _⟩ := O.look
              obtain ⟨od2, J2, _⟩ := O2.look
              obtain ⟨mf, hF⟩ := I.fr
              have sp : spT X.K X.mg 2 ff [.ref ad, .ref ae] H (fun z H' => z = .bl b ∧ Q (.bl (!b)) H') (fun _ _ _ => False) := by
                refine ⟨rfl, m, h, [.ref l, .ref j], .cons (.ref e1) (.cons (.ref e2) .nil), R, ?_⟩
                rw [eff]
                intro z m' H' E rt R'
                cases rt
                exact ⟨rfl, o _ m' H' E (.bl _) R'⟩
              have hu1 : X.A.units + 1 < cLine := hr.in1.units0
              show wpAny _ _ (richCompare .NotEq _ _) _ _ _
              refine W3.Ne.ne_K hu1 hF I.ok.mod.kin J J2.type hm hn hs hf (wpAny_mono (run_in1 (vs := [.ref ad, .ref ae]) F hr hb (passAt (takesWF X) σ) I (.cons rfl (.cons rfl .nil)) sp) (fun w s' z => ?_) fun _ _ x => x)
              obtain ⟨z', H', I', rz, ez, qz⟩ := z
              subst ez
              cases rz
              exact ⟨b, rfl, .bl (!b), H', I', rfl, qz⟩
        · exact False.elim o
      · exact False.elim o
    · exact ho pins s σ H x y u v Q I rx ry ⟨m, h, _, _, r1, r2, R, o⟩
    · exact False.elim o
  · exact ho pins s σ H x y u v Q I rx ry ⟨m, h, _, _, r1, r2, R, o⟩
theorem nx_neO : NoX2 (fNeO cn ff) := fun x y h c fs h' e => by
  unfold fNeO oNe at e
  (repeat' split at e) <;> cases e
end
end W3
end

section
namespace W3
open PySem
theorem sz : sizeLine = 16777216 := by decide +kernel
@[simp] theorem sz_0 : 0 ≤ sizeLine := by decide +kernel
@[simp] theorem sz_1 : 1 ≤ sizeLine := by decide +kernel
@[simp] theorem sz_2 : 2 ≤ sizeLine := by decide +kernel
@[simp] theorem sz_3 : 3 ≤ sizeLine := by decide +kernel
@[simp] theorem sz_4 : 4 ≤ sizeLine := by decide +kernel
@[simp] theorem sz_5 : 5 ≤ sizeLine := by decide +kernel
@[simp] theorem sz_6 : 6 ≤ sizeLine := by decide +kernel
@[simp] theorem sz_7 : 7 ≤ sizeLine := by decide +kernel
@[simp] theorem sz_8 : 8 ≤ sizeLine := by decide +kernel
@[simp] theorem sz_9 : 9 ≤ sizeLine := by decide +kernel
@[simp] theorem sz_10 : 10 ≤ sizeLine := by decide +kernel
@[simp] theorem sz_11 : 11 ≤ sizeLine := by decide +kernel
@[simp] theorem sz_12 : 12 ≤ sizeLine := by decide +kernel
@[simp] theorem sz_13 : 13 ≤ sizeLine := by decide +kernel
@[simp] theorem sz_14 : 14 ≤ sizeLine := by decide +kernel
@[simp] theorem sz_15 : 15 ≤ sizeLine := by decide +kernel
@[simp] theorem sz_16 : 16 ≤ sizeLine := by decide +kernel
@[simp] theorem sz_17 : 17 ≤ sizeLine := by decide +kernel
@[simp] theorem sz_18 : 18 ≤ sizeLine := by decide +kernel
@[simp] theorem sz_19 : 19 ≤ sizeLine := by decide +kernel
@[simp] theorem sz_20 : 20 ≤ sizeLine := by decide +kernel
@[simp] theorem sz_21 : 21 ≤ sizeLine := by decide +kernel
@[simp] theorem sz_22 : 22 ≤ sizeLine := by decide +kernel
@[simp] theorem sz_23 : 23 ≤ sizeLine := by decide +kernel
@[simp] theorem sz_24 : 24 ≤ sizeLine := by decide +kernel
@[simp] theorem sz_25 : 25 ≤ sizeLine := by decide +kernel
@[simp] theorem sz_26 : 26 ≤ sizeLine := by decide +kernel
@[simp] theorem sz_ne : (sizeLine = 0) = False := by rw [sz]; simp
@[simp] theorem sz_lt1 : 0 < sizeLine := by decide +kernel
theorem szle {n : Nat} (h : n ≤ 16777216) : n ≤ sizeLine := by rw [sz]; exact h
def mOk (c m : Str) (x : T) (h : Hh) : Bool := match x with
  | .ref l => match insAt h l with
    | some (d, fs) => decide (d = c ∧ fs.lookup m = none)
    | none => false
  | _ => false
def fSet (cs : List (Str × List Str)) (x : T) (f : Str) (y : T) (σ : St3) (h2 : Hh) : Flo := match x with
  | .ref l => match insAt h2 l with
    | some (c, fs) => match cs.lookup c with
      | some as => if as.contains f && decide (fs.length < 1000) then .nx σ (h2.set l (.ins c (putT f y fs))) else .stk
      | none => .stk
    | none => .stk
  | _ => .stk
section
variable {σ : St3} {h : Hh}
@[simp] theorem e_sC (t : T) : sC t σ h = .ok t h := Eq.trans rfl rfl
@[simp] theorem e_s1 (f : T → Hh → Res T) (a : SE) : s1 f a σ h = (a σ h).bind f := Eq.trans rfl rfl
@[simp] theorem e_s2 (f : T → T → Hh → Res T) (a b : SE) : s2 f a b σ h = (a σ h).bind fun x h1 => (b σ h1).bind fun y h2 => f x y h2 := Eq.trans rfl rfl
@[simp] theorem e_sVar (i : Nat) : sVar i σ h = match σ[i]? with | some (some t) => .ok t h | _ => .stk := Eq.trans rfl rfl
@[simp] theorem e_sT (a : SE) : sT a σ h = (a σ h).bind fun x h1 => match x with | .bl b => .ok b h1 | _ => .stk := Eq.trans rfl rfl
@[simp] theorem e_stAnd (a b : ST) : stAnd a b σ h = (a σ h).bind fun x h1 => if x = true then b σ h1 else .ok false h1 := Eq.trans rfl rfl
@[simp] theorem e_stOr (a b : ST) : stOr a b σ h = (a σ h).bind fun x h1 => if x = true then .ok true h1 else b σ h1 := Eq.trans rfl rfl
@[simp] theorem e_stNot (a : ST) : stNot a σ h = (a σ h).bind fun x h1 => .ok (!x) h1 := Eq.trans rfl rfl
@[simp] theorem e_sB (a : ST) : sB a σ h = (a σ h).bind fun x h1 => .ok (.bl x) h1 := Eq.trans rfl rfl
@[simp] theorem e_sIf (c : ST) (a b : SE) : sIf c a b σ h = (c σ h).bind fun x h1 => if x = true then a σ h1 else b σ h1 := Eq.trans rfl rfl
@[simp] theorem e_sChain (f g : T → T → Hh → Res T) (a b c : SE) : sChain f g a b c σ h = (a σ h).bind fun x h1 => (b σ h1).bind fun y h2 => (f x y h2).bind fun z h3 => match z with
  | .bl k => if k = true then (c σ h3).bind fun w h4 => g y w h4 else .ok (.bl false) h3
  | _ => .stk := Eq.trans rfl rfl
@[simp] theorem e_saNil : saNil σ h = .ok [] h := Eq.trans rfl rfl
@[simp] theorem e_saCons (a : SE) (r : SA) : saCons a r σ h = (a σ h).bind fun x h1 => (r σ h1).bind fun xs h2 => .ok (x :: xs) h2 := Eq.trans rfl rfl
@[simp] theorem e_sTup (a : SA) : sTup a σ h = (a σ h).bind fun xs h1 => if xs.length ≤ sizeLine then .ok (.tup xs) h1 else .stk := Eq.trans rfl rfl
@[simp] theorem e_sLst (a : SA) : sLst a σ h = (a σ h).bind fun xs h1 => if xs.length ≤ sizeLine then alloc (.lst xs) h1 else .stk := Eq.trans rfl rfl
@[simp] theorem e_sCl (f : List T → Hh → Res T) (a : SA) : sCl f a σ h = (a σ h).bind f := Eq.trans rfl rfl
@[simp] theorem e_sOver (f : List T → Hh → Res T) (a : SA) : sOver f a σ h = (a σ h).bind f := Eq.trans rfl rfl
@[simp] theorem e_sLc (a : SA) : sLc a σ h = (a σ h).bind fun xs h1 => alloc (.lst xs) h1 := Eq.trans rfl rfl
@[simp] theorem e_sMt (f : T → List T → Hh → Res T) (o : SE) (a : SA) : sMt f o a σ h = (o σ h).bind fun x h1 => (a σ h1).bind fun xs h2 => f x xs h2 := Eq.trans rfl rfl
@[simp] theorem e_sMtL (f : T → List T → Hh → Res T) (o : SE) (a : SA) : sMtL f o a σ h = (o σ h).bind fun x h1 => if isL x h1 = true then (a σ h1).bind fun xs h2 => f x xs h2 else .stk := Eq.trans rfl rfl
@[simp] theorem e_soNone : soNone σ h = .ok none h := Eq.trans rfl rfl
@[simp] theorem e_soSome (a : SE) : soSome a σ h = (a σ h).bind fun x h1 => match x with | .int i => .ok (some i) h1 | _ => .stk := Eq.trans rfl rfl
@[simp] theorem e_sSl (a : SE) (lo hi : SO) : sSl a lo hi σ h = (a σ h).bind fun x h1 => (lo σ h1).bind fun l h2 => (hi σ h2).bind fun u h3 => oSl x l u h3 := Eq.trans rfl rfl
@[simp] theorem e_sDic0 : sDic0 σ h = alloc (.dic []) h := Eq.trans rfl rfl
@[simp] theorem e_alloc (o : Ob) : alloc o h = .ok (.ref h.length) (h ++ [o]) := Eq.trans rfl rfl
@[simp] theorem e_arN (n : Nat) (f : List T → Hh → Res T) (xs : List T) : arN n f xs h = if xs.length = n then f xs h else .stk := Eq.trans rfl rfl
@[simp] theorem e_siE (a : SE) : siE a σ h = (a σ h).bind srcOf := Eq.trans rfl rfl
@[simp] theorem e_siRange1 (a : SA) : siRange1 a σ h = (a σ h).bind rngOf := Eq.trans rfl rfl
@[simp] theorem e_rng {j : Int} (h0 : -1000000 ≤ j) (h2 : j ≤ 1000000) : rngOf [.int j] h = .ok (.its (rangeT 0 j.toNat)) h := by
  have a1 : RngOk j := by
    have : (2 ^ 62 : Int) = 4611686018427387904 := by decide +kernel
    unfold RngOk
    rw [this]; omega
  unfold rngOf
  simp only [a1, if_true]
@[simp] theorem e_stYes : stYes σ h = .ok true h := Eq.trans rfl rfl
@[simp] theorem e_sgName (i : Nat) (t : T) : sgName i t σ = some (σ.set i (some t)) := Eq.trans rfl rfl
@[simp] theorem e_sgsNil : sgsNil [] σ = some σ := Eq.trans rfl rfl
@[simp] theorem e_sgsCons (g : SG) (r : SGs) (t : T) (ts : List T) : sgsCons g r (t :: ts) σ = match g t σ with | some σ1 => r ts σ1 | none => none := Eq.trans rfl rfl
@[simp] theorem e_sgTup (n : Nat) (g : SGs) (ts : List T) : sgTup n g (.tup ts) σ = if ts.length = n then g ts σ else none := Eq.trans rfl rfl
@[simp] theorem e_saLc (si : SI) (g : SG) (tt : ST) (te : SE) (vs : List Nat) : saLc si g tt te vs σ h = (si σ h).bind fun s h1 => lcRun s g tt te (wipeT σ vs) (s.len h1) 0 [] h1 := Eq.trans rfl rfl
@[simp] theorem e_wipe0 : wipeT σ [] = σ := Eq.trans rfl rfl
@[simp] theorem e_wipe1 (v : Nat) (vs : List Nat) : wipeT σ (v :: vs) = (wipeT σ vs).set v none := Eq.trans rfl rfl
@[simp] theorem e_ssNil : ssNil σ h = .nx σ h := Eq.trans rfl rfl
@[simp] theorem e_ssCons (a b : SS) : ssCons a b σ h = (a σ h).seq b := Eq.trans rfl rfl
@[simp] theorem e_ssIf (c : ST) (a b : SS) : ssIf c a b σ h = (c σ h).flo σ fun x h1 => if x = true then a σ h1 else b σ h1 := Eq.trans rfl rfl
@[simp] theorem e_ssRet (a : SE) : ssRet a σ h = (a σ h).flo σ fun x h1 => .rt x h1 := Eq.trans rfl rfl
@[simp] theorem e_ssRetN : ssRetN σ h = .rt .non h := Eq.trans rfl rfl
@[simp] theorem e_ssExpr (a : SE) : ssExpr a σ h = (a σ h).flo σ fun _ h1 => .nx σ h1 := Eq.trans rfl rfl
@[simp] theorem e_ssAsg (a : SE) (g : SG) : ssAsg a g σ h = (a σ h).flo σ fun x h1 => match g x σ with | some σ1 => .nx σ1 h1 | none => .stk := Eq.trans rfl rfl
@[simp] theorem e_ssStk : ssStk σ h = .stk := Eq.trans rfl rfl
@[simp] theorem e_ssBreak : ssBreak σ h = .bk σ h := Eq.trans rfl rfl
@[simp] theorem e_ssCont : ssCont σ h = .ct σ h := Eq.trans rfl rfl
@[simp] theorem e_ssSub (o i v : SE) : ssSub o i v σ h = (v σ h).flo σ fun y h1 => (o σ h1).flo σ fun x h2 => (i σ h2).flo σ fun k h3 => match x, k with
  | .ref l, .int n => match lstAt h3 l with
    | some ts => match L2.ixN ts.length n with | some j => .nx σ (h3.set l (.lst (ts.set j y))) | none => .stk
    | none => .stk
  | _, _ => .stk := Eq.trans rfl rfl
@[simp] theorem e_ssFldC (cs : List (Str × List Str)) (o v : SE) (f : Str) : ssFldC cs o v f σ h = (v σ h).flo σ fun y h1 => (o σ h1).flo σ fun x h2 => fSet cs x f y σ h2 := Eq.trans rfl rfl
@[simp] theorem e_ssFor (si : SI) (g : SG) (b : SS) : ssFor si g b σ h = (si σ h).flo σ fun s h1 => forRun s g b (s.len h1) 0 σ h1 := Eq.trans rfl rfl
theorem e_sMeth0 (c m : Str) (n : Nat) (f : List T → Hh → Res T) (o : SE) (a : SA) : sMeth c m n f o a σ h = (o σ h).bind fun x h1 => if mOk c m x h1 = true then (a σ h1).bind fun xs h2 => arN n f (x :: xs) h2 else .stk := by
  have key : ∀ x h1, (match x with
      | .ref l => match insAt h1 l with
        | some (d, fs) => if d = c ∧ fs.lookup m = none then (a σ h1).bind fun xs h2 => arN n f (x :: xs) h2 else .stk
        | none => .stk
      | _ => .stk) = if mOk c m x h1 = true then (a σ h1).bind fun xs h2 => arN n f (x :: xs) h2 else .stk := by
    intro x h1
    cases x with
    | ref l =>
      cases hi : insAt h1 l with
      | none => simp only [mOk, hi]; rfl
      | some p =>
        obtain ⟨d, fs⟩ := p
        by_cases q : d = c ∧ fs.lookup m = none
        · simp only [mOk, hi]; rw [if_pos q, if_pos (by simp [q])]
        · simp only [mOk, hi]; rw [if_neg q, if_neg (by simpa using q)]
    | _ => rfl
  unfold sMeth
  congr 1
  funext x h1
  exact key x h1
@[simp] theorem e_sMeth (c m : Str) (n : Nat) (f : List T → Hh → Res T) (o : SE) (a : SA) : sMeth c m n f o a σ h = (o σ h).bind fun x h1 => if mOk c m x h1 = true then (a σ h1).bind fun xs h2 => arN n f (x :: xs) h2 else .stk := e_sMeth0 c m n f o a
@[simp] theorem e_sClK (n q : Nat) (pat : List Bool) (ds : List T) (f : List T → Hh → Res T) (a kw : SA) : sClK n q pat ds f a kw σ h = (a σ h).bind fun xs h1 => (kw σ h1).bind fun zs h2 => if xs.length = n ∧ zs.length = q then f (xs ++ weave pat ds zs) h2 else .stk := Eq.trans rfl rfl
@[simp] theorem e_bMakeK (c : Str) (q n : Nat) (pat : List Bool) (ds : List T) (f : List T → Hh → Res T) (a kw : SA) : bMakeK c q n pat ds f a kw σ h = (a σ h).bind fun xs h1 => (kw σ h1).bind fun zs h2 => if xs.length = n ∧ zs.length = q then bMake c (n + 1 + pat.length) f (xs ++ weave pat ds zs) h2 else .stk := Eq.trans rfl rfl
@[simp] theorem e_bMake (c : Str) (n : Nat) (f : List T → Hh → Res T) (xs : List T) : bMake c n f xs h = (arN n f (.ref h.length :: xs) (h ++ [.ins c []])).bind fun t h1 => match t with | .non => .ok (.ref h.length) h1 | _ => .stk := Eq.trans rfl rfl
@[simp] theorem e_add_ii (i j : Int) : oAdd (.int i) (.int j) h = .ok (.int (i + j)) h := Eq.trans rfl rfl
@[simp] theorem e_add_ss (i j : Str) : oAdd (.str i) (.str j) h = if i.length + j.length ≤ sizeLine then .ok (.str (i ++ j)) h else .stk := Eq.trans rfl rfl
@[simp] theorem e_add_tt (i j : List T) : oAdd (.tup i) (.tup j) h = if i.length + j.length ≤ sizeLine then .ok (.tup (i ++ j)) h else .stk := Eq.trans rfl rfl
@[simp] theorem e_sub_ii (i j : Int) : oSub (.int i) (.int j) h = .ok (.int (i - j)) h := Eq.trans rfl rfl
theorem mul_ok {i j : Int} (q : MulOk i j) : oMul (.int i) (.int j) h = .ok (.int (i * j)) h := by
  unfold oMul
  simp only [q, if_true]
theorem two64 : (2 ^ 64 : Int) = 18446744073709551616 := by decide +kernel
@[simp] theorem e_mul_l {i j : Int} (h0 : -18446744073709551616 < i) (h1 : i < 18446744073709551616) : oMul (.int i) (.int j) h = .ok (.int (i * j)) h := mul_ok (.inl (by rw [two64]; exact ⟨h0, h1⟩))
@[simp] theorem e_mul_r {i j : Int} (h0 : -18446744073709551616 < j) (h1 : j < 18446744073709551616) : oMul (.int i) (.int j) h = .ok (.int (i * j)) h := mul_ok (.inr (by rw [two64]; exact ⟨h0, h1⟩))
@[simp] theorem e_mod_ii (i j : Int) : oMod (.int i) (.int j) h = if 0 < j then .ok (.int (i % j)) h else .stk := Eq.trans rfl rfl
@[simp] theorem e_div_ii (i j : Int) : oDiv (.int i) (.int j) h = if 0 < j ∧ j < 1073741824 then .ok (.int (i / j)) h else .stk := Eq.trans rfl rfl
theorem pow_ok {i j : Int} (q : PowOk i j) : oPow (.int i) (.int j) h = .ok (.int (i ^ j.toNat)) h := by
  unfold oPow
  simp only [q, if_true]
@[simp] theorem e_pow_ii {i j : Int} (h0 : 0 ≤ j) (h1 : j ≤ 1000000) (h2 : i.natAbs < 18446744073709551616) : oPow (.int i) (.int j) h = .ok (.int (i ^ j.toNat)) h := pow_ok ⟨h0, h1, by
  have : (2 ^ 64 : Nat) = 18446744073709551616 := by decide +kernel
  rw [this]; exact h2⟩
@[simp] theorem e_lt_ii (i j : Int) : oLt (.int i) (.int j) h = .ok (.bl (decide (i < j))) h := Eq.trans rfl rfl
@[simp] theorem e_le_ii (i j : Int) : oLe (.int i) (.int j) h = .ok (.bl (decide (i ≤ j))) h := Eq.trans rfl rfl
@[simp] theorem e_gt_ii (i j : Int) : oGt (.int i) (.int j) h = .ok (.bl (decide (j < i))) h := Eq.trans rfl rfl
@[simp] theorem e_ge_ii (i j : Int) : oGe (.int i) (.int j) h = .ok (.bl (decide (j ≤ i))) h := Eq.trans rfl rfl
@[simp] theorem e_is_n (x : T) : oIs x .non h = .ok (.bl (isNonT x)) h := Eq.trans rfl rfl
@[simp] theorem e_is_b (a b : Bool) : oIs (.bl a) (.bl b) h = .ok (.bl (decide (a = b))) h := Eq.trans rfl rfl
@[simp] theorem e_isnot_n (x : T) : oIsNot x .non h = .ok (.bl (!isNonT x)) h := Eq.trans rfl rfl
@[simp] theorem e_isnot_b (a b : Bool) : oIsNot (.bl a) (.bl b) h = .ok (.bl (!decide (a = b))) h := Eq.trans rfl rfl
@[simp] theorem e_nonT0 : isNonT .non = true := Eq.trans rfl rfl
@[simp] theorem e_nonT1 (s : Str) : isNonT (.str s) = false := Eq.trans rfl rfl
@[simp] theorem e_nonT2 (s : List T) : isNonT (.tup s) = false := Eq.trans rfl rfl
@[simp] theorem e_nonT3 (s : Int) : isNonT (.int s) = false := Eq.trans rfl rfl
@[simp] theorem e_nonT4 (s : Bool) : isNonT (.bl s) = false := Eq.trans rfl rfl
@[simp] theorem e_eq_ii (i j : Int) : oEq (.int i) (.int j) h = .ok (.bl (decide (i = j))) h := by
  show Res.ok (T.bl (i == j)) h = _
  rw [show (i == j) = decide (i = j) from rfl]
@[simp] theorem e_eq_ss (i j : Str) : oEq (.str i) (.str j) h = .ok (.bl (decide (i = j))) h := by
  show Res.ok (T.bl (i == j)) h = _
  rw [show (i == j) = decide (i = j) from rfl]
@[simp] theorem e_ne_ii (i j : Int) : oNe (.int i) (.int j) h = .ok (.bl (!decide (i = j))) h := by
  show Res.ok (T.bl (!(i == j))) h = _
  rw [show (i == j) = decide (i = j) from rfl]
@[simp] theorem e_ne_ss (i j : Str) : oNe (.str i) (.str j) h = .ok (.bl (!decide (i = j))) h := by
  show Res.ok (T.bl (!(i == j))) h = _
  rw [show (i == j) = decide (i = j) from rfl]
@[simp] theorem e_ne_bb (i j : Bool) : oNe (.bl i) (.bl j) h = .ok (.bl (!decide (i = j))) h := by
  show Res.ok (T.bl (!(i == j))) h = _
  rw [show (i == j) = decide (i = j) by cases i <;> cases j <;> rfl]
@[simp] theorem e_eq_bb (i j : Bool) : oEq (.bl i) (.bl j) h = .ok (.bl (decide (i = j))) h := by
  show Res.ok (T.bl (i == j)) h = _
  rw [show (i == j) = decide (i = j) by cases i <;> cases j <;> rfl]
@[simp] theorem e_ix_tup (ts : List T) (i : Int) : oIx (.tup ts) (.int i) h = match L2.atI ts i with | some t => .ok t h | none => .stk := Eq.trans rfl rfl
@[simp] theorem e_ix_fl (ts : List T) (i : Int) : oIx (.fl ts) (.int i) h = match L2.atI ts i with | some t => .ok t h | none => .stk := Eq.trans rfl rfl
@[simp] theorem e_ix_ref (l : Nat) (i : Int) : oIx (.ref l) (.int i) h = match lstAt h l with
      | some ts => match L2.atI ts i with | some t => .ok t h | none => .stk
      | none => .stk := Eq.trans rfl rfl
@[simp] theorem e_ix_str (z : Str) (i : Int) : oIx (.str z) (.int i) h = if z.length ≤ sizeLine then (match L2.atI z.cps.toList i with | some c => .ok (.str ⟨#[c]⟩) h | none => .stk) else .stk := Eq.trans rfl rfl
@[simp] theorem e_sl_tup (ts : List T) (lo hi : Option Int) : oSl (.tup ts) lo hi h = .ok (.tup (cutT ts lo hi)) h := Eq.trans rfl rfl
@[simp] theorem e_sl_fl (ts : List T) (lo hi : Option Int) : oSl (.fl ts) lo hi h = alloc (.lst (cutT ts lo hi)) h := Eq.trans rfl rfl
@[simp] theorem e_sl_ref (l : Nat) (lo hi : Option Int) : oSl (.ref l) lo hi h = match lstAt h l with | some ts => alloc (.lst (cutT ts lo hi)) h | none => .stk := Eq.trans rfl rfl
@[simp] theorem e_sl_str (z : Str) (lo hi : Option Int) : oSl (.str z) lo hi h = if z.length ≤ sizeLine then .ok (.str (L2.cutS z lo hi)) h else .stk := Eq.trans rfl rfl
@[simp] theorem e_len_tup (ts : List T) : bLen [.tup ts] h = .ok (.int ts.length) h := Eq.trans rfl rfl
@[simp] theorem e_len_fl (ts : List T) : bLen [.fl ts] h = .ok (.int ts.length) h := Eq.trans rfl rfl
@[simp] theorem e_len_str (z : Str) : bLen [.str z] h = if z.length ≤ sizeLine then .ok (.int z.length) h else .stk := Eq.trans rfl rfl
@[simp] theorem e_len_ref (l : Nat) : bLen [.ref l] h = match lstAt h l with | some ts => .ok (.int ts.length) h | none => .stk := Eq.trans rfl rfl
@[simp] theorem e_int (i : Int) : bInt [.int i] h = .ok (.int i) h := Eq.trans rfl rfl
@[simp] theorem e_bTup (ts : List T) : bTup ts h = .ok (.tup ts) h := Eq.trans rfl rfl
@[simp] theorem e_tuple_tup (ts : List T) : bTuple [.tup ts] h = .ok (.tup ts) h := Eq.trans rfl rfl
@[simp] theorem e_tuple_ref (l : Nat) : bTuple [.ref l] h = match lstAt h l with | some ts => .ok (.tup ts) h | none => .stk := Eq.trans rfl rfl
@[simp] theorem e_list_tup (ts : List T) : bList [.tup ts] h = alloc (.lst ts) h := Eq.trans rfl rfl
@[simp] theorem e_list_ref (l : Nat) : bList [.ref l] h = match lstAt h l with | some ts => alloc (.lst ts) h | none => .stk := Eq.trans rfl rfl
@[simp] theorem e_srcOf_tup (ts : List T) : srcOf (.tup ts) h = .ok (.its ts) h := Eq.trans rfl rfl
@[simp] theorem e_srcOf_fl (ts : List T) : srcOf (.fl ts) h = .ok (.its ts) h := Eq.trans rfl rfl
@[simp] theorem e_srcOf_str (z : Str) : srcOf (.str z) h = .ok (.its (z.cps.toList.map fun c => .str ⟨#[c]⟩)) h := Eq.trans rfl rfl
@[simp] theorem e_srcOf_ref (l : Nat) : srcOf (.ref l) h = match lstAt h l with | some _ => .ok (.live l) h | none => .stk := Eq.trans rfl rfl
@[simp] theorem e_isL_ref (l : Nat) : isL (.ref l) h = (lstAt h l).isSome := Eq.trans rfl rfl
@[simp] theorem e_append (l : Nat) (y : T) : mAppend (.ref l) [y] h = match lstAt h l with
    | some ts => if ts.length < sizeLine then .ok .non (h.set l (.lst (ts ++ [y]))) else .stk
    | none => .stk := Eq.trans rfl rfl
@[simp] theorem e_isK_non (k : Kd) : oIsK k .non h = .ok (.bl false) h := Eq.trans rfl rfl
@[simp] theorem e_isK_str (k : Kd) (s : Str) : oIsK k (.str s) h = .ok (.bl (k == .str)) h := Eq.trans rfl rfl
@[simp] theorem e_isK_int (k : Kd) (s : Int) : oIsK k (.int s) h = .ok (.bl (k == .int)) h := Eq.trans rfl rfl
@[simp] theorem e_isK_bl (k : Kd) (s : Bool) : oIsK k (.bl s) h = .ok (.bl (k == .bool || k == .int)) h := Eq.trans rfl rfl
@[simp] theorem e_isK_tup (k : Kd) (s : List T) : oIsK k (.tup s) h = .ok (.bl (k == .tuple)) h := Eq.trans rfl rfl
theorem e_isK_lst {k : Kd} {l : Nat} {ts : List T} (e : lstAt h l = some ts) : oIsK k (.ref l) h = .ok (.bl (k == .list)) h := by
  unfold lstAt at e
  unfold oIsK isK
  split at e
  · rename_i q; simp only [q]
  · cases e
end
@[simp] theorem lstAt_set_self {h : Hh} {l : Nat} {ts : List T} (hl : l < h.length) : lstAt (h.set l (.lst ts)) l = some ts := by
  unfold lstAt; rw [List.getElem?_set_self hl]
theorem lstAt_set_ne {h : Hh} {l k : Nat} {o : Ob} (hl : l ≠ k) : lstAt (h.set l o) k = lstAt h k := by
  unfold lstAt; rw [List.getElem?_set_ne hl]
theorem lstAt_of {h : Hh} {l : Nat} {ts : List T} (e : h[l]? = some (.lst ts)) : lstAt h l = some ts := by
  unfold lstAt; rw [e]
theorem of_lstAt {h : Hh} {l : Nat} {ts : List T} (e : lstAt h l = some ts) : h[l]? = some (.lst ts) := by
  unfold lstAt at e; split at e
  · rename_i q; cases e; exact q
  · cases e
theorem lstAt_lt {h : Hh} {l : Nat} {ts : List T} (e : lstAt h l = some ts) : l < h.length := by
  have := of_lstAt e
  exact (List.getElem?_eq_some_iff.mp this).1
theorem lstAt_app {h : Hh} {l : Nat} {ts : List T} (o : List Ob) (e : lstAt h l = some ts) : lstAt (h ++ o) l = some ts := by
  have := lstAt_lt e
  unfold lstAt at e ⊢
  rw [List.getElem?_append_left this]; exact e
@[simp] theorem lstAt_new {h : Hh} {ts : List T} : lstAt (h ++ [.lst ts]) h.length = some ts := by
  unfold lstAt; simp
@[simp] theorem ixN_of {n : Nat} {i : Int} (h0 : 0 ≤ i) (h1 : i < n) : L2.ixN n i = some i.toNat := by
  unfold L2.ixN; rw [if_pos h0, if_pos h1]
@[simp] theorem atI_z {α : Type} (a : α) (r : List α) : L2.atI (a :: r) 0 = some a := by
  unfold L2.atI L2.ixN; simp [show (0 : Int) < (r.length : Int) + 1 by omega]
@[simp] theorem atI_1 {α : Type} (a b : α) (r : List α) : L2.atI (a :: b :: r) 1 = some b := by
  unfold L2.atI L2.ixN; simp [show (1 : Int) < (r.length : Int) + 1 + 1 by omega]
@[simp] theorem atI_2 {α : Type} (a b c : α) (r : List α) : L2.atI (a :: b :: c :: r) 2 = some c := by
  unfold L2.atI L2.ixN; simp [show (2 : Int) < (r.length : Int) + 1 + 1 + 1 by omega]
@[simp] theorem atI_3 {α : Type} (a b c d : α) (r : List α) : L2.atI (a :: b :: c :: d :: r) 3 = some d := by
  unfold L2.atI L2.ixN; simp [show (3 : Int) < (r.length : Int) + 1 + 1 + 1 + 1 by omega]
@[simp] theorem atI_4 {α : Type} (a b c d e : α) (r : List α) : L2.atI (a :: b :: c :: d :: e :: r) 4 = some e := by
  unfold L2.atI L2.ixN; simp [show (4 : Int) < (r.length : Int) + 1 + 1 + 1 + 1 + 1 by omega]
theorem atI_nat {α : Type} {xs : List α} {i : Nat} {x : α} (e : xs[i]? = some x) : L2.atI xs (i : Int) = some x := by
  have hl := (List.getElem?_eq_some_iff.mp e).1
  unfold L2.atI L2.ixN
  rw [if_pos (by omega), if_pos (by omega)]
  simpa using e
theorem atI_int {α : Type} {xs : List α} {i : Int} (h0 : 0 ≤ i) (h1 : i < xs.length) : ∃ x, L2.atI xs i = some x ∧ xs[i.toNat]? = some x := by
  have hl : i.toNat < xs.length := by omega
  refine ⟨xs[i.toNat], ?_, by simp [hl]⟩
  unfold L2.atI L2.ixN
  rw [if_pos h0, if_pos h1]
  simp [hl]
theorem atI_mem {α : Type} {xs : List α} {i : Int} (h0 : 0 ≤ i) (h1 : i < xs.length) : ∃ x, L2.atI xs i = some x ∧ x ∈ xs := by
  obtain ⟨x, e, q⟩ := atI_int h0 h1
  exact ⟨x, e, List.mem_of_getElem? q⟩
def Src.Is (s : Src) (ts : List T) (h : Hh) : Prop := match s with | .its us => us = ts | .live l => lstAt h l = some ts
theorem Src.Is.at {s : Src} {ts : List T} {h : Hh} (q : s.Is ts h) (i : Nat) : s.at h i = some ts[i]? := by
  cases s with
  | its us => obtain rfl : us = ts := q; rfl
  | live l => have e : lstAt h l = some ts := q; unfold Src.at; simp only [e]
theorem Src.Is.len {s : Src} {ts : List T} {h : Hh} (q : s.Is ts h) : s.len h = ts.length := by
  cases s with
  | its us => obtain rfl : us = ts := q; rfl
  | live l => have e : lstAt h l = some ts := q; unfold Src.len; simp only [e]
theorem lc_ind {s : Src} {ts : List T} {g : SG} {tt : ST} {te : SE} {σ : St3} (hz : ts.length ≤ sizeLine) (I : Nat → List T → Hh → Prop) (hI : ∀ i acc h, I i acc h → s.Is ts h)
    (hs : ∀ i x acc h, ts[i]? = some x → I i acc h → ∃ σ1, g x σ = some σ1 ∧ ((∃ h1, tt σ1 h = .ok false h1 ∧ I (i + 1) acc h1) ∨ ∃ h1 t h2, tt σ1 h = .ok true h1 ∧ te σ1 h1 = .ok t h2 ∧ I (i + 1) (acc ++ [t]) h2)) :
    ∀ k i acc h, i + k = ts.length → acc.length ≤ i → I i acc h → ∃ acc' h', lcRun s g tt te σ k i acc h = .ok acc' h' ∧ I ts.length acc' h' ∧ acc'.length ≤ ts.length
  | 0, i, acc, h, e, ha, q => by
    have e1 : i = ts.length := by omega
    refine ⟨acc, h, ?_, e1 ▸ q, by omega⟩
    unfold lcRun
    rw [(hI _ _ _ q).at, List.getElem?_eq_none (by omega)]
  | k + 1, i, acc, h, e, ha, q => by
    have hl : i < ts.length := by omega
    have ex : ts[i]? = some ts[i] := by simp [hl]
    obtain ⟨σ1, e1, q1⟩ := hs i _ acc h ex q
    unfold lcRun
    rw [(hI _ _ _ q).at, ex]
    simp only [e1]
    rcases q1 with ⟨h1, e2, q2⟩ | ⟨h1, t, h2, e2, e3, q2⟩
    · simp only [e2]
      exact lc_ind hz I hI hs k (i + 1) acc h1 (by omega) (by omega) q2
    · simp only [e2, e3, if_true]
      rw [if_pos (by omega)]
      exact lc_ind hz I hI hs k (i + 1) _ h2 (by omega) (by simp; omega) q2
theorem lc_run {s : Src} {ts : List T} {g : SG} {tt : ST} {te : SE} {σ : St3} {h : Hh} (hz : ts.length ≤ sizeLine) (I : Nat → List T → Hh → Prop) (hI : ∀ i acc h, I i acc h → s.Is ts h) (h0 : I 0 [] h)
    (hs : ∀ i x acc h, ts[i]? = some x → I i acc h → ∃ σ1, g x σ = some σ1 ∧ ((∃ h1, tt σ1 h = .ok false h1 ∧ I (i + 1) acc h1) ∨ ∃ h1 t h2, tt σ1 h = .ok true h1 ∧ te σ1 h1 = .ok t h2 ∧ I (i + 1) (acc ++ [t]) h2)) :
    ∃ acc' h', lcRun s g tt te σ (s.len h) 0 [] h = .ok acc' h' ∧ I ts.length acc' h' ∧ acc'.length ≤ ts.length := by
  rw [(hI _ _ _ h0).len]
  exact lc_ind hz I hI hs _ _ _ _ (by omega) (Nat.le_refl _) h0
theorem lc_map {s : Src} {ts : List T} {g : SG} {te : SE} {σ : St3} {h : Hh} (f : T → T) (hz : ts.length ≤ sizeLine) (hI : s.Is ts h) (hs : ∀ x ∈ ts, ∃ σ1, g x σ = some σ1 ∧ te σ1 h = .ok (f x) h) :
    lcRun s g stYes te σ (s.len h) 0 [] h = .ok (ts.map f) h := by
  obtain ⟨acc, h', e, ⟨rfl, rfl⟩, _⟩ := lc_run (s := s) (ts := ts) (g := g) (tt := stYes) (te := te) (σ := σ) (h := h) hz (fun i acc h1 => acc = (ts.take i).map f ∧ h1 = h) (fun i acc h1 q => q.2 ▸ hI) ⟨by simp, rfl⟩ fun i x acc h1 ex ⟨q1, q2⟩ => by
    obtain ⟨σ1, e1, e2⟩ := hs x (List.mem_of_getElem? ex)
    subst q2
    refine ⟨σ1, e1, .inr ⟨h1, f x, h1, rfl, e2, ?_, rfl⟩⟩
    rw [q1, List.take_add_one, ex]
    simp
  rw [e, List.take_length]
theorem lc_filter {s : Src} {ts : List T} {g : SG} {tt : ST} {te : SE} {σ : St3} {h : Hh} (p : T → Bool) (f : T → T) (hz : ts.length ≤ sizeLine) (hI : s.Is ts h) (hs : ∀ x ∈ ts, ∃ σ1, g x σ = some σ1 ∧ tt σ1 h = .ok (p x) h ∧ te σ1 h = .ok (f x) h) :
    lcRun s g tt te σ (s.len h) 0 [] h = .ok ((ts.filter p).map f) h := by
  obtain ⟨acc, h', e, ⟨rfl, rfl⟩, _⟩ := lc_run (s := s) (ts := ts) (g := g) (tt := tt) (te := te) (σ := σ) (h := h) hz (fun i acc h1 => acc = ((ts.take i).filter p).map f ∧ h1 = h) (fun i acc h1 q => q.2 ▸ hI) ⟨by simp, rfl⟩ fun i x acc h1 ex ⟨q1, q2⟩ => by
    obtain ⟨σ1, e1, e2, e3⟩ := hs x (List.mem_of_getElem? ex)
    subst q2
    refine ⟨σ1, e1, ?_⟩
    have et : ts.take (i + 1) = ts.take i ++ [x] := by rw [List.take_add_one, ex]; rfl
    cases hp : p x with
    | false => exact .inl ⟨h1, by rw [e2, hp], by rw [q1, et, List.filter_append]; simp [hp], rfl⟩
    | true => exact .inr ⟨h1, f x, h1, by rw [e2, hp], e3, by rw [q1, et, List.filter_append]; simp [hp], rfl⟩
  rw [e, List.take_length]
theorem range_get : ∀ (n : Nat) (lo : Int) (i : Nat), i < n → (rangeT lo n)[i]? = some (.int (lo + i))
  | n + 1, lo, 0, _ => by simp [rangeT]
  | n + 1, lo, i + 1, hi => by
    unfold rangeT
    rw [List.getElem?_cons_succ, range_get n (lo + 1) i (by omega)]
    congr 2; omega
@[simp] theorem range_length : ∀ (n : Nat) (lo : Int), (rangeT lo n).length = n
  | 0, _ => rfl
  | n + 1, lo => by unfold rangeT; rw [List.length_cons, range_length n]
theorem range_at {n : Nat} {i : Nat} {x : T} (e : (rangeT 0 n)[i]? = some x) : x = .int i ∧ i < n := by
  have hl := (List.getElem?_eq_some_iff.mp e).1
  rw [range_length] at hl
  rw [range_get n 0 i hl] at e
  cases e
  exact ⟨by simp, hl⟩
end W3
end

section
namespace W3
open PySem
def BoxL (c : Nat) (i d s n : Int) : List T := [.ref c, .int i, .int d, .int s, .int n]
def IsBox (h : Hh) (l : Nat) : Prop := ∃ (c : Nat) (cells : List Int) (i d s n : Int), lstAt h l = some (BoxL c i d s n) ∧ lstAt h c = some (cells.map T.int) ∧ 0 ≤ i ∧ 0 ≤ d
def BoxC (h : Hh) (l : Nat) : Option Nat := match lstAt h l with | some (.ref c :: _) => some c | _ => none
structure Kp (l n : Nat) (h h' : Hh) : Prop where
  le : n ≤ h'.length
  keep : ∀ k, k < n → k ≠ l → h'[k]? = h[k]?
  box : IsBox h' l
  bc : BoxC h' l = BoxC h l
abbrev Up (l : Nat) (h h' : Hh) : Prop := Kp l h.length h h'
theorem IsBox.ne {h : Hh} {l : Nat} {c : Nat} {cells : List Int} {i d s n : Int} (e : lstAt h l = some (BoxL c i d s n)) (e2 : lstAt h c = some (cells.map T.int)) : l ≠ c := by
  intro q
  subst q
  rw [e] at e2
  cases cells with
  | nil => cases e2
  | cons a r => injection e2 with e2; injection e2 with e2 _; cases e2
theorem IsBox.lt {h : Hh} {l : Nat} (b : IsBox h l) : l < h.length := by
  obtain ⟨c, cells, i, d, s, n, e, _⟩ := b
  exact lstAt_lt e
theorem IsBox.clt {h : Hh} {l c : Nat} (b : IsBox h l) (hc : BoxC h l = some c) : c < h.length := by
  obtain ⟨c, cells, i, d, s, n, e, e2, _⟩ := b
  unfold BoxC at hc
  rw [e] at hc
  cases hc
  exact lstAt_lt e2
theorem Up.refl {l : Nat} {h : Hh} (b : IsBox h l) : Up l h h := ⟨Nat.le_refl _, fun _ _ _ => rfl, b, rfl⟩
theorem Kp.refl {l n : Nat} {h : Hh} (b : IsBox h l) (hn : n ≤ h.length) : Kp l n h h := ⟨hn, fun _ _ _ => rfl, b, rfl⟩
theorem Kp.trans {l n m : Nat} {h h1 h2 : Hh} (a : Kp l n h h1) (b : Kp l m h1 h2) (hm : n ≤ m) : Kp l n h h2 :=
  ⟨Nat.le_trans hm b.le, fun k hk hne => (b.keep k (Nat.lt_of_lt_of_le hk hm) hne).trans (a.keep k hk hne), b.box, b.bc.trans a.bc⟩
theorem Kp.up {l n : Nat} {h h1 h2 : Hh} (a : Kp l n h h1) (b : Up l h1 h2) : Kp l n h h2 := a.trans b a.le
theorem IsBox.app {l : Nat} {h : Hh} (b : IsBox h l) (o : List Ob) : IsBox (h ++ o) l := by
  obtain ⟨c, cells, i, d, s, n, e, e2, h1, h2⟩ := b
  exact ⟨c, cells, i, d, s, n, lstAt_app o e, lstAt_app o e2, h1, h2⟩
theorem Up.app {l : Nat} {h : Hh} (b : IsBox h l) (o : List Ob) : Up l h (h ++ o) := by
  refine ⟨by simp, fun k hk _ => List.getElem?_append_left hk, b.app o, ?_⟩
  obtain ⟨c, cells, i, d, s, n, e, e2, h1, h2⟩ := b
  unfold BoxC
  rw [e, lstAt_app o e]
theorem Kp.app {l n : Nat} {h h1 : Hh} (a : Kp l n h h1) (o : List Ob) : Kp l n h (h1 ++ o) := a.up (Up.app a.box o)
theorem Kp.lst {l n : Nat} {h h' : Hh} (u : Kp l n h h') {k : Nat} {ts : List T} (e : lstAt h k = some ts) (hk : k < n) (hne : k ≠ l) : lstAt h' k = some ts := by
  have := of_lstAt e
  exact lstAt_of ((u.keep k hk hne).trans this)
theorem Up.lst {l : Nat} {h h' : Hh} (u : Up l h h') {k : Nat} {ts : List T} (e : lstAt h k = some ts) (hne : k ≠ l) : lstAt h' k = some ts := Kp.lst u e (lstAt_lt e) hne
theorem IsBox.set {l : Nat} {h : Hh} (b : IsBox h l) {k : Nat} (o : Ob) (hk : k ≠ l) (hc : BoxC h l ≠ some k) : IsBox (h.set k o) l ∧ BoxC (h.set k o) l = BoxC h l := by
  obtain ⟨c, cells, i, d, s, n, e, e2, h1, h2⟩ := b
  have hkc : k ≠ c := by
    intro q
    apply hc
    unfold BoxC
    rw [e]
    simp [BoxL, q]
  refine ⟨⟨c, cells, i, d, s, n, by rw [lstAt_set_ne hk]; exact e, by rw [lstAt_set_ne hkc]; exact e2, h1, h2⟩, ?_⟩
  unfold BoxC
  rw [lstAt_set_ne hk]
theorem Kp.set {l n : Nat} {h h1 : Hh} (a : Kp l n h h1) {k : Nat} (o : Ob) (hb : IsBox h l) (hl : h.length ≤ n) (hn : n ≤ k) : Kp l n h (h1.set k o) := by
  have h0 := hb.lt
  have q := a.box.set (k := k) o (by omega) (by rw [a.bc]; intro z; have := hb.clt z; omega)
  exact ⟨by rw [List.length_set]; exact a.le, fun j hj hne => by rw [List.getElem?_set_ne (by omega)]; exact a.keep j hj hne, q.1, q.2.trans a.bc⟩
theorem cut_ints (ns : List Int) (lo hi : Option Int) : ∃ ms : List Int, cutT (ns.map T.int) lo hi = ms.map T.int ∧ ms.length ≤ ns.length := by
  refine ⟨cutT ns lo hi, ?_, ?_⟩
  · unfold cutT
    rw [List.length_map, List.map_take, List.map_drop]
  · unfold cutT
    rw [List.length_take, List.length_drop]
    omega
theorem map_int_get {ns : List Int} {i : Nat} {x : T} (e : (ns.map T.int)[i]? = some x) : ∃ n, x = .int n := by
  rw [List.getElem?_map] at e
  cases q : ns[i]? with
  | none => rw [q] at e; cases e
  | some n => rw [q] at e; cases e; exact ⟨n, rfl⟩
theorem str_app (a b : Str) : (a ++ b).cps.toList = a.cps.toList ++ b.cps.toList := by
  show (a.cps ++ b.cps).toList = _
  simp
theorem str_len (a : Str) : a.length = a.cps.toList.length := by simp [Str.length]
@[simp] theorem str_len_app (a b : Str) : (a ++ b).length = a.length + b.length := by
  rw [str_len, str_app, List.length_append, ← str_len, ← str_len]
@[simp] theorem str_len_one (c : Nat) : Str.length ⟨#[c]⟩ = 1 := Eq.trans rfl rfl
def LETS : Str := "abcdefghijklmnopqrstuvwxyz"
theorem lets_len : LETS.cps.toList.length = 26 := by decide +kernel
theorem lets_nd : LETS.cps.toList.Nodup := by decide +kernel
def Lt (s : Str) : Prop := ∀ c ∈ s.cps.toList, c ∈ LETS.cps.toList
theorem Lt.app {a b : Str} (ha : Lt a) (hb : Lt b) : Lt (a ++ b) := by
  intro c hc
  rw [str_app, List.mem_append] at hc
  exact hc.elim (ha c) (hb c)
theorem Lt.one {c : Nat} (h : c ∈ LETS.cps.toList) : Lt ⟨#[c]⟩ := by
  intro x hx
  simp at hx
  rw [hx]; exact h
theorem Lt.nil : Lt "" := by
  intro c hc
  have : (Str.ofString "").cps.toList = [] := by decide +kernel
  rw [this] at hc
  cases hc
def Nm (s : Str) : Prop := 1 ≤ s.length ∧ s.length ≤ 8 ∧ Lt s
structure NmL (ss : List Str) : Prop where
  nd : ss.Nodup
  nm : ∀ s ∈ ss, Nm s
theorem NmL.snoc {ss : List Str} (h : NmL ss) {s : Str} (hs : Nm s) (hn : s ∉ ss) : NmL (ss ++ [s]) := by
  refine ⟨List.nodup_append.mpr ⟨h.nd, by simp, fun a ha b hb => ?_⟩, fun x hx => ?_⟩
  · simp at hb
    intro e
    subst hb
    exact hn (e ▸ ha)
  · rw [List.mem_append] at hx
    rcases hx with hx | hx
    · exact h.nm x hx
    · simp at hx; rw [hx]; exact hs
theorem cut7 (w : Str) : (L2.cutS w none (some 7)).cps.toList = w.cps.toList.take 7 := by
  unfold L2.cutS HT.sIx
  simp [str_len]
theorem cut7_len (w : Str) : (L2.cutS w none (some 7)).length = min 7 w.length := by
  rw [str_len, cut7, List.length_take, str_len]
theorem cut7_lt {w : Str} (h : Lt w) : Lt (L2.cutS w none (some 7)) := by
  intro c hc
  rw [cut7] at hc
  exact h c (List.mem_of_mem_take hc)
theorem free_name (w : Str) (ss : List Str) (hs : ss.length ≤ 25) : ∃ c ∈ LETS.cps.toList, w ++ ⟨#[c]⟩ ∉ ss := by
  by_cases h : ∃ c ∈ LETS.cps.toList, w ++ ⟨#[c]⟩ ∉ ss
  · exact h
  · exfalso
    have hall : (LETS.cps.toList.map fun c => w ++ (⟨#[c]⟩ : Str)) ⊆ ss := by
      intro x hx
      obtain ⟨c, hc, rfl⟩ := List.mem_map.mp hx
      by_cases q : w ++ (⟨#[c]⟩ : Str) ∈ ss
      · exact q
      · exact absurd ⟨c, hc, q⟩ h
    have hnd : (LETS.cps.toList.map fun c => w ++ (⟨#[c]⟩ : Str)).Nodup := by
      refine List.Pairwise.map _ (fun a b hab e => ?_) lets_nd
      have := congrArg (fun s : Str => s.cps.toList) e
      simp only [str_app] at this
      simp at this
      exact hab this
    have := List.Nodup.length_le_of_subset hnd hall
    rw [List.length_map, lets_len] at this
    omega
abbrev tSs (ss : List Str) : List T := ss.map T.str
theorem optL_strs (h : Hh) (n : Nat) : ∀ ss : List Str, optL (toD h (n + 1)) (tSs ss) = some (ss.map PyData.str)
  | [] => rfl
  | s :: ss => by
    have e1 : toD h (n + 1) (.str s) = some (.str s) := rfl
    show optL (toD h (n + 1)) (.str s :: tSs ss) = _
    unfold optL
    rw [optL_strs h n ss, e1]
    rfl
theorem any_strs (s : Str) : ∀ ss : List Str, ((ss.map PyData.str).any fun z => PyData.eqv z (.str s)) = decide (s ∈ ss)
  | [] => by simp
  | t :: ss => by
    rw [List.map_cons, List.any_cons, any_strs s ss]
    have : PyData.eqv (.str t) (.str s) = decide (t = s) := by rw [PyData.eqv]; rfl
    rw [this]
    by_cases q : t = s
    · simp [q]
    · have q' : ¬ s = t := fun e => q e.symm
      simp [q, q']
theorem e_in_tup {s : Str} {ss : List Str} {h : Hh} : inT (.str s) (.tup (tSs ss)) h = some (decide (s ∈ ss)) := by
  show (match toD h 24 (.str s), (optL (toD h 23) (tSs ss)).map PyData.tuple with
    | some d, some (.list ds) => some (ds.any fun z => PyData.eqv z d)
    | some d, some (.tuple ds) => some (ds.any fun z => PyData.eqv z d)
    | _, _ => none) = _
  rw [optL_strs h 22]
  show some ((ss.map PyData.str).any fun z => PyData.eqv z (.str s)) = _
  rw [any_strs]
theorem e_in_ref {s : Str} {ss : List Str} {h : Hh} {r : Nat} (e : lstAt h r = some (tSs ss)) : inT (.str s) (.ref r) h = some (decide (s ∈ ss)) := by
  have e1 : toD h 24 (.ref r) = some (.list (ss.map PyData.str)) := by
    show (match h[r]? with | some (.lst ts) => (optL (toD h 23) ts).map PyData.list | _ => none) = _
    rw [of_lstAt e]
    show (optL (toD h 23) (tSs ss)).map PyData.list = _
    rw [optL_strs h 22]
    rfl
  show (match toD h 24 (.str s), toD h 24 (.ref r) with
    | some d, some (.list ds) => some (ds.any fun z => PyData.eqv z d)
    | some d, some (.tuple ds) => some (ds.any fun z => PyData.eqv z d)
    | _, _ => none) = _
  rw [e1]
  show some ((ss.map PyData.str).any fun z => PyData.eqv z (.str s)) = _
  rw [any_strs]
theorem oIn_ref {s : Str} {ss : List Str} {h : Hh} {r : Nat} (e : lstAt h r = some (tSs ss)) : oIn (.str s) (.ref r) h = .ok (.bl (decide (s ∈ ss))) h := by
  unfold oIn; rw [e_in_ref e]
theorem oNotIn_ref {s : Str} {ss : List Str} {h : Hh} {r : Nat} (e : lstAt h r = some (tSs ss)) : oNotIn (.str s) (.ref r) h = .ok (.bl (!decide (s ∈ ss))) h := by
  unfold oNotIn; rw [e_in_ref e]
@[simp] theorem oIn_tup {s : Str} {ss : List Str} {h : Hh} : oIn (.str s) (.tup (tSs ss)) h = .ok (.bl (decide (s ∈ ss))) h := by
  unfold oIn; rw [e_in_tup]
@[simp] theorem oNotIn_tup {s : Str} {ss : List Str} {h : Hh} : oNotIn (.str s) (.tup (tSs ss)) h = .ok (.bl (!decide (s ∈ ss))) h := by
  unfold oNotIn; rw [e_in_tup]
abbrev Fn := List T → Hh → Res T
end W3
end

section
namespace W3
open PySem
abbrev EQ := Str → List (Str × T) → Hh → Prop
def Res.wp {α : Type} (r : Res α) (Q : α → Hh → Prop) (E : EQ) : Prop :=
  match r with | .ok a h => Q a h | .exc c fs h => E c fs h | .stk => False
structure FQ where
  n : St3 → Hh → Prop
  r : T → Hh → Prop
  b : St3 → Hh → Prop
  c : St3 → Hh → Prop
  e : Str → List (Str × T) → St3 → Hh → Prop
def Flo.wp (r : Flo) (Q : FQ) : Prop :=
  match r with | .nx σ h => Q.n σ h | .rt t h => Q.r t h | .bk σ h => Q.b σ h | .ct σ h => Q.c σ h | .exc c fs σ h => Q.e c fs σ h | .stk => False
section
variable {α β : Type} {Q : α → Hh → Prop} {E : EQ}
@[simp] theorem wp_ok (a : α) (h : Hh) : (Res.ok a h).wp Q E = Q a h := Eq.trans rfl rfl
@[simp] theorem wp_exc (c : Str) (fs : List (Str × T)) (h : Hh) : (Res.exc c fs h : Res α).wp Q E = E c fs h := Eq.trans rfl rfl
@[simp] theorem wp_stk : (Res.stk : Res α).wp Q E = False := Eq.trans rfl rfl
def kQ (f : α → Hh → Res β) (Q : β → Hh → Prop) (E : EQ) : α → Hh → Prop := fun a h => (f a h).wp Q E
@[simp] theorem kQ_app {Q : β → Hh → Prop} (f : α → Hh → Res β) (a : α) (h : Hh) : kQ f Q E a h = (f a h).wp Q E := Eq.trans rfl rfl
@[simp] theorem wp_bind {Q : β → Hh → Prop} (r : Res α) (f : α → Hh → Res β) : (r.bind f).wp Q E = r.wp (kQ f Q E) E := by
  cases r <;> rfl
@[simp] theorem wp_if (c : Prop) [Decidable c] (a b : Res α) : (if c then a else b).wp Q E = ((c → a.wp Q E) ∧ (¬ c → b.wp Q E)) := by
  by_cases q : c <;> simp [q]
theorem Res.wp.mono {r : Res α} {Q Q' : α → Hh → Prop} {E E' : EQ} (w : r.wp Q E) (hq : ∀ a h, Q a h → Q' a h) (he : ∀ c fs h, E c fs h → E' c fs h) : r.wp Q' E' := by
  cases r with
  | ok a h => exact hq a h w
  | exc c fs h => exact he c fs h w
  | stk => exact w
theorem Res.wp.imp {r : Res α} {Q Q' : α → Hh → Prop} {E : EQ} (w : r.wp Q E) (hq : ∀ a h, Q a h → Q' a h) : r.wp Q' E := w.mono hq fun _ _ _ h => h
abbrev noE : EQ := fun _ _ _ => False
theorem Res.wp.ok {r : Res α} (w : r.wp Q noE) : ∃ a h, r = .ok a h ∧ Q a h := by
  cases r with
  | ok a h => exact ⟨a, h, rfl, w⟩
  | exc c fs h => exact w.elim
  | stk => exact w.elim
end
section
variable {Q : FQ}
@[simp] theorem fp_nx (σ : St3) (h : Hh) : (Flo.nx σ h).wp Q = Q.n σ h := Eq.trans rfl rfl
@[simp] theorem fp_rt (t : T) (h : Hh) : (Flo.rt t h).wp Q = Q.r t h := Eq.trans rfl rfl
@[simp] theorem fp_bk (σ : St3) (h : Hh) : (Flo.bk σ h).wp Q = Q.b σ h := Eq.trans rfl rfl
@[simp] theorem fp_ct (σ : St3) (h : Hh) : (Flo.ct σ h).wp Q = Q.c σ h := Eq.trans rfl rfl
@[simp] theorem fp_exc (c : Str) (fs : List (Str × T)) (σ : St3) (h : Hh) : (Flo.exc c fs σ h).wp Q = Q.e c fs σ h := Eq.trans rfl rfl
@[simp] theorem fp_stk : (Flo.stk).wp Q = False := Eq.trans rfl rfl
def FQ.seq (Q : FQ) (k : SS) : FQ := ⟨fun σ h => (k σ h).wp Q, Q.r, Q.b, Q.c, Q.e⟩
@[simp] theorem fs_n (k : SS) (σ : St3) (h : Hh) : (Q.seq k).n σ h = (k σ h).wp Q := Eq.trans rfl rfl
@[simp] theorem fs_r (k : SS) : (Q.seq k).r = Q.r := Eq.trans rfl rfl
@[simp] theorem fs_b (k : SS) : (Q.seq k).b = Q.b := Eq.trans rfl rfl
@[simp] theorem fs_c (k : SS) : (Q.seq k).c = Q.c := Eq.trans rfl rfl
@[simp] theorem fs_e (k : SS) : (Q.seq k).e = Q.e := Eq.trans rfl rfl
def FQ.loop (Q : FQ) (J : St3 → Hh → Prop) : FQ := ⟨J, Q.r, Q.n, J, Q.e⟩
@[simp] theorem fl_n (J : St3 → Hh → Prop) : (Q.loop J).n = J := Eq.trans rfl rfl
@[simp] theorem fl_r (J : St3 → Hh → Prop) : (Q.loop J).r = Q.r := Eq.trans rfl rfl
@[simp] theorem fl_b (J : St3 → Hh → Prop) : (Q.loop J).b = Q.n := Eq.trans rfl rfl
@[simp] theorem fl_c (J : St3 → Hh → Prop) : (Q.loop J).c = J := Eq.trans rfl rfl
@[simp] theorem fl_e (J : St3 → Hh → Prop) : (Q.loop J).e = Q.e := Eq.trans rfl rfl
def FQ.df (Q : T → Hh → Prop) (E : EQ) : FQ := ⟨fun _ h => Q .non h, Q, fun _ _ => False, fun _ _ => False, fun c fs _ h => E c fs h⟩
@[simp] theorem fd_n (Q : T → Hh → Prop) (E : EQ) (σ : St3) (h : Hh) : (FQ.df Q E).n σ h = Q .non h := Eq.trans rfl rfl
@[simp] theorem fd_r (Q : T → Hh → Prop) (E : EQ) : (FQ.df Q E).r = Q := Eq.trans rfl rfl
@[simp] theorem fd_e (Q : T → Hh → Prop) (E : EQ) (c : Str) (fs : List (Str × T)) (σ : St3) (h : Hh) : (FQ.df Q E).e c fs σ h = E c fs h := Eq.trans rfl rfl
def fQ {α : Type} (k : α → Hh → Flo) (Q : FQ) : α → Hh → Prop := fun a h => (k a h).wp Q
@[simp] theorem fQ_app {α : Type} (k : α → Hh → Flo) (a : α) (h : Hh) : fQ k Q a h = (k a h).wp Q := Eq.trans rfl rfl
def eQ (Q : FQ) (σ : St3) : EQ := fun c fs h => Q.e c fs σ h
@[simp] theorem eQ_app (σ : St3) (c : Str) (fs : List (Str × T)) (h : Hh) : eQ Q σ c fs h = Q.e c fs σ h := Eq.trans rfl rfl
@[simp] theorem eQ_seq (σ : St3) (k : SS) : eQ (Q.seq k) σ = eQ Q σ := Eq.trans rfl rfl
@[simp] theorem eQ_loop (σ : St3) (J : St3 → Hh → Prop) : eQ (Q.loop J) σ = eQ Q σ := Eq.trans rfl rfl
@[simp] theorem eQ_df (σ : St3) (Q : T → Hh → Prop) (E : EQ) : eQ (FQ.df Q E) σ = E := Eq.trans rfl rfl
@[simp] theorem fp_flo {α : Type} (r : Res α) (σ : St3) (k : α → Hh → Flo) : (r.flo σ k).wp Q = r.wp (fQ k Q) (eQ Q σ) := by
  cases r <;> rfl
@[simp] theorem fp_seq (r : Flo) (k : SS) : (r.seq k).wp Q = r.wp (Q.seq k) := by
  cases r <;> rfl
@[simp] theorem fp_if (c : Prop) [Decidable c] (a b : Flo) : (if c then a else b).wp Q = ((c → a.wp Q) ∧ (¬ c → b.wp Q)) := by
  by_cases q : c <;> simp [q]
theorem Flo.wp.mono {r : Flo} {Q Q' : FQ} (w : r.wp Q) (hn : ∀ σ h, Q.n σ h → Q'.n σ h) (hr : ∀ t h, Q.r t h → Q'.r t h) (hb : ∀ σ h, Q.b σ h → Q'.b σ h) (hc : ∀ σ h, Q.c σ h → Q'.c σ h) (he : ∀ c fs σ h, Q.e c fs σ h → Q'.e c fs σ h) : r.wp Q' := by
  cases r with
  | nx σ h => exact hn σ h w
  | rt t h => exact hr t h w
  | bk σ h => exact hb σ h w
  | ct σ h => exact hc σ h w
  | exc c fs σ h => exact he c fs σ h w
  | stk => exact w
end
@[simp] theorem wp_defRun (n : Nat) (b : SS) (ts : List T) (h : Hh) (Q : T → Hh → Prop) (E : EQ) : (defRun n b ts h).wp Q E = (b (startT n ts) h).wp (FQ.df Q E) := by
  unfold defRun
  cases b (startT n ts) h <;> rfl
theorem wp_for {s : Src} {ts : List T} {g : SG} {b : SS} {σ : St3} {h : Hh} {Q : FQ} (I : Nat → St3 → Hh → Prop) (hI : ∀ i σ h, I i σ h → s.Is ts h) (h0 : I 0 σ h)
    (hs : ∀ i x σ h, ts[i]? = some x → I i σ h → ∃ σ1, g x σ = some σ1 ∧ (b σ1 h).wp (Q.loop (I (i + 1))))
    (he : ∀ σ h, I ts.length σ h → Q.n σ h) : (forRun s g b (s.len h) 0 σ h).wp Q := by
  rw [(hI _ _ _ h0).len]
  suffices H : ∀ k i σ h, i + k = ts.length → I i σ h → (forRun s g b k i σ h).wp Q from H _ _ _ _ (by omega) h0
  intro k
  induction k with
  | zero =>
    intro i σ h e q
    have e1 : i = ts.length := by omega
    unfold forRun
    rw [(hI _ _ _ q).at, List.getElem?_eq_none (by omega)]
    exact he σ h (e1 ▸ q)
  | succ k ih =>
    intro i σ h e q
    have ex : ts[i]? = some ts[i] := by simp [show i < ts.length by omega]
    obtain ⟨σ1, e1, w⟩ := hs i _ σ h ex q
    unfold forRun
    rw [(hI _ _ _ q).at, ex]
    simp only [e1]
    revert w
    cases b σ1 h with
    | nx σ2 h2 => exact fun w => ih (i + 1) σ2 h2 (by omega) w
    | ct σ2 h2 => exact fun w => ih (i + 1) σ2 h2 (by omega) w
    | bk σ2 h2 => exact fun w => w
    | rt t h2 => exact fun w => w
    | exc c fs σ2 h2 => exact fun w => w
    | stk => exact fun w => w
theorem wp_lc {s : Src} {ts : List T} {g : SG} {tt : ST} {te : SE} {σ : St3} {h : Hh} {Q : List T → Hh → Prop} {E : EQ} (hz : ts.length ≤ sizeLine) (I : Nat → List T → Hh → Prop) (hI : ∀ i acc h, I i acc h → s.Is ts h) (h0 : I 0 [] h)
    (hs : ∀ i x acc h, ts[i]? = some x → I i acc h → ∃ σ1, g x σ = some σ1 ∧ (tt σ1 h).wp (fun b h1 => if b = true then (te σ1 h1).wp (fun t h2 => I (i + 1) (acc ++ [t]) h2) noE else I (i + 1) acc h1) noE)
    (he : ∀ acc h, I ts.length acc h → Q acc h) : (lcRun s g tt te σ (s.len h) 0 [] h).wp Q E := by
  obtain ⟨acc', h', e, q, _⟩ := lc_run (s := s) (ts := ts) (g := g) (tt := tt) (te := te) (σ := σ) (h := h) hz I hI h0 fun i x acc h ex q => by
    obtain ⟨σ1, e1, w⟩ := hs i x acc h ex q
    refine ⟨σ1, e1, ?_⟩
    obtain ⟨b, h1, e2, w2⟩ := w.ok
    cases b with
    | false => exact .inl ⟨h1, e2, by simpa using w2⟩
    | true =>
      have w2 : (te σ1 h1).wp (fun t h2 => I (i + 1) (acc ++ [t]) h2) noE := by simpa using w2
      obtain ⟨t, h2, e3, w3⟩ := w2.ok
      exact .inr ⟨h1, t, h2, e2, e3, w3⟩
  rw [e]
  exact he _ _ q
theorem wp_lcm {s : Src} {ts : List T} {g : SG} {te : SE} {σ : St3} {h : Hh} {Q : List T → Hh → Prop} {E : EQ} (f : T → T) (hz : ts.length ≤ sizeLine) (hI : s.Is ts h) (hs : ∀ x ∈ ts, ∃ σ1, g x σ = some σ1 ∧ te σ1 h = .ok (f x) h) (k : Q (ts.map f) h) :
    (lcRun s g stYes te σ (s.len h) 0 [] h).wp Q E := by
  rw [lc_map f hz hI hs]; exact k
theorem wp_lcf {s : Src} {ts : List T} {g : SG} {tt : ST} {te : SE} {σ : St3} {h : Hh} {Q : List T → Hh → Prop} {E : EQ} (p : T → Bool) (f : T → T) (hz : ts.length ≤ sizeLine) (hI : s.Is ts h) (hs : ∀ x ∈ ts, ∃ σ1, g x σ = some σ1 ∧ tt σ1 h = .ok (p x) h ∧ te σ1 h = .ok (f x) h) (k : Q ((ts.filter p).map f) h) :
    (lcRun s g tt te σ (s.len h) 0 [] h).wp Q E := by
  rw [lc_filter p f hz hI hs]; exact k
structure Fr (S : Nat → Prop) (h h' : Hh) : Prop where
  le : h.length ≤ h'.length
  keep : ∀ k, k < h.length → ¬ S k → h'[k]? = h[k]?
theorem Fr.refl {S : Nat → Prop} {h : Hh} : Fr S h h := ⟨Nat.le_refl _, fun _ _ _ => rfl⟩
theorem Fr.trans {S : Nat → Prop} {h h1 h2 : Hh} (a : Fr S h h1) (b : Fr S h1 h2) : Fr S h h2 :=
  ⟨Nat.le_trans a.le b.le, fun k hk hs => (b.keep k (Nat.lt_of_lt_of_le hk a.le) hs).trans (a.keep k hk hs)⟩
end W3
end

section
namespace W3
open PySem
def MixW (f : Fn) : Prop := ∀ {v k : Int} {h : Hh} {Q : T → Hh → Prop} {E : EQ}, (∀ z, Q (.int z) h) → (f [.int v, .int k] h).wp Q E
def DrawW (f : Fn) : Prop := ∀ {h : Hh} {l : Nat} {m : Int} {Q : T → Hh → Prop} {E : EQ}, IsBox h l → 0 < m → m < 1073741824 → (∀ d h', 0 ≤ d → d < m → Up l h h' → Q (.int d) h') → (f [.ref l, .int m] h).wp Q E
def BoxW (f : Fn) : Prop := ∀ {ns : List Int} {h : Hh} {Q : T → Hh → Prop} {E : EQ}, ns.length ≤ 63 → (∀ l h', IsBox h' l → h.length ≤ l → (∀ k, k < h.length → h'[k]? = h[k]?) → (∀ c, BoxC h' l = some c → h.length ≤ c) → Q (.ref l) h') → (f [.fl (ns.map T.int)] h).wp Q E
def NamesW (f : Fn) : Prop := ∀ {h : Hh} {l : Nat} {m : Int} {Q : T → Hh → Prop} {E : EQ}, IsBox h l → 0 ≤ m → m ≤ 25 → (∀ r ss h', lstAt h' r = some (tSs ss) → (ss.length : Int) = m → NmL ss → Up l h h' → h.length ≤ r → Q (.ref r) h') → (f [.ref l, .int m] h).wp Q E
@[simp] theorem e_startT (n : Nat) (ts : List T) : startT n ts = ts.map some ++ List.replicate (n - ts.length) none := Eq.trans rfl rfl
theorem lstAt_app_ge {h o : Hh} {k : Nat} : lstAt (h ++ o) (h.length + k) = lstAt o k := by
  unfold lstAt; rw [List.getElem?_append_right (by omega)]; simp
@[simp] theorem lstAt_app_k {h o : Hh} {k : Nat} : lstAt (h ++ o) (h.length + k) = lstAt o k := lstAt_app_ge
@[simp] theorem lstAt_app_z {h o : Hh} : lstAt (h ++ o) h.length = lstAt o 0 := by
  have := @lstAt_app_ge h o 0; simpa using this
@[simp] theorem lstAt_0 (o : Ob) (r : Hh) : lstAt (o :: r) 0 = match o with | .lst ts => some ts | _ => none := by
  unfold lstAt; cases o <;> rfl
@[simp] theorem lstAt_s (o : Ob) (r : Hh) (k : Nat) : lstAt (o :: r) (k + 1) = lstAt r k := by
  unfold lstAt; simp
@[simp] theorem e_neg (i : Int) (h : Hh) : oNeg (.int i) h = .ok (.int (-i)) h := Eq.trans rfl rfl
@[simp] theorem e_set_ap {h o : Hh} {k : Nat} {x : Ob} : (h ++ o).set (h.length + k) x = h ++ o.set k x := by
  rw [List.set_append_right _ _ (by omega)]; simp
@[simp] theorem e_set_ap0 {h o : Hh} {x : Ob} : (h ++ o).set h.length x = h ++ o.set 0 x := by
  rw [List.set_append_right _ _ (by omega)]; simp
theorem isK_ok {k : Kd} {x : T} {h : Hh} {b : Bool} (e : isK k x h = some b) : oIsK k x h = .ok (.bl b) h := by
  unfold oIsK; rw [e]
theorem lets_at {d : Int} (d0 : 0 ≤ d) (d1 : d < 26) : ∃ c, c ∈ LETS.cps.toList ∧ L2.atI (Str.ofString "abcdefghijklmnopqrstuvwxyz").cps.toList d = some c := by
  have hl : (Str.ofString "abcdefghijklmnopqrstuvwxyz").cps.toList.length = 26 := by decide +kernel
  obtain ⟨c, e, q⟩ := atI_mem (xs := (Str.ofString "abcdefghijklmnopqrstuvwxyz").cps.toList) d0 (by rw [hl]; omega)
  exact ⟨c, q, e⟩
@[simp] theorem lets_len2 : (Str.ofString "abcdefghijklmnopqrstuvwxyz").length = 26 := by decide +kernel
end W3
end

section
namespace W3
open PySem
abbrev Ent := Option Str
def tE : Ent → T | none => .non | some s => .str s
@[simp] theorem tE_n : tE none = .non := Eq.trans rfl rfl
@[simp] theorem tE_s (s : Str) : tE (some s) = .str s := Eq.trans rfl rfl
def tRow (r : List Ent) : T := .tup (r.map tE)
inductive Nr where | alone (r : List Ent) | looks (g : Str) (rs : List (List Ent))
def Nr.tLooks : Nr → T | .alone _ => .non | .looks g _ => .str g
def Nr.tNear : Nr → T | .alone r => tRow r | .looks _ rs => .tup (rs.map tRow)
structure Fd where
  first : Str
  nr : Nr
  far : Option (List Ent)
def tFar : Option (List Ent) → T | none => .non | some r => tRow r
def Fd.ts (f : Fd) : List T := [.str f.first, f.nr.tLooks, f.nr.tNear, tFar f.far]
def Fd.t (f : Fd) : T := .tup f.ts
def tPair (p : Str × Fd) : T := .tup [.str p.1, p.2.t]
structure Fm where
  words : List Str
  fields : List (Str × Fd)
  room : Int
def Fm.names (f : Fm) : List Str := f.fields.map Prod.fst
def Fm.tW (f : Fm) : T := .tup (tSs f.words)
def Fm.tF (f : Fm) : T := .tup (f.fields.map tPair)
structure RowOk (n : Nat) (r : List Ent) : Prop where
  len : r.length = n
  nm : ∀ s, some s ∈ r → Nm s
def NrOk (n : Nat) (ns : List Str) (nm : Str) : Nr → Prop
  | .alone r => RowOk n r
  | .looks g rs => g ∈ ns ∧ g ≠ nm ∧ rs.length = n ∧ ∀ r ∈ rs, RowOk n r
structure FdOk (ws ns : List Str) (nm : Str) (f : Fd) : Prop where
  first : f.first ∈ ws
  nr : NrOk ws.length ns nm f.nr
  far : ∀ r, f.far = some r → RowOk ws.length r
structure FmOk (f : Fm) : Prop where
  w2 : 2 ≤ f.words.length
  w3 : f.words.length ≤ 3
  wn : NmL f.words
  f1 : 1 ≤ f.fields.length
  f3 : f.fields.length ≤ 3
  fn : NmL f.names
  fs : ∀ p ∈ f.fields, FdOk f.words f.names p.1 p.2
  r1 : 1 ≤ f.room
  r3 : f.room ≤ 3
theorem box_ne {h : Hh} {l r : Nat} {ss : List Str} (b : IsBox h l) (e : lstAt h r = some (tSs ss)) : r ≠ l := by
  obtain ⟨c, cells, i, d, s, n, e1, _⟩ := b
  intro q
  subst q
  rw [e1] at e
  cases ss with
  | nil => cases e
  | cons a t => injection e with e; injection e with e _; cases e
def EntriesW (f : Fn) : Prop := ∀ {h : Hh} {l r : Nat} {a b : Str} {n : Nat} {Q : T → Hh → Prop} {E : EQ}, IsBox h l → lstAt h r = some [.str a, .str b] → Nm a → Nm b → n ≤ 25 → (∀ row h', RowOk n row → Up l h h' → Q (tRow row) h') → (f [.ref l, .ref r, .int n] h).wp Q E
def FieldW (f : Fn) : Prop := ∀ {h : Hh} {l rn rt : Nat} {ws ns : List Str} {nm a b : Str} {Q : T → Hh → Prop} {E : EQ}, IsBox h l → lstAt h rn = some (tSs ns) → lstAt h rt = some [.str a, .str b] → Nm a → Nm b → 2 ≤ ws.length → ws.length ≤ 25 → ns.length ≤ 25 →
  (∀ fd h', FdOk ws ns nm fd → Up l h h' → Q fd.t h') → (f [.ref l, .tup (tSs ws), .ref rn, .str nm, .ref rt] h).wp Q E
def PartsW (f : Fn) : Prop := ∀ {h : Hh} {l : Nat} {Q : T → Hh → Prop} {E : EQ}, IsBox h l → (∀ fm h', FmOk fm → Up l h h' → Q (.tup [fm.tW, fm.tF, .int fm.room]) h') → (f [.ref l] h).wp Q E
theorem lstAt_two {h : Hh} {r : Nat} {a b : Str} (e : lstAt h r = some [.str a, .str b]) : lstAt h r = some (tSs [a, b]) := e
theorem atI_map {α β : Type} (f : α → β) {xs : List α} {i : Int} (h0 : 0 ≤ i) (h1 : i < xs.length) : ∃ x, L2.atI (xs.map f) i = some (f x) ∧ x ∈ xs := by
  obtain ⟨y, e, q⟩ := atI_int (xs := xs.map f) h0 (by simpa using h1)
  rw [List.getElem?_map] at q
  cases z : xs[i.toNat]? with
  | none => rw [z] at q; cases q
  | some x => rw [z] at q; cases q; exact ⟨x, e, List.mem_of_getElem? z⟩
end W3
end

section
namespace W3
open PySem
theorem eq_of_wp {r : Res T} {v : T} {h : Hh} (w : r.wp (fun a h' => a = v ∧ h' = h) noE) : r = .ok v h := by
  obtain ⟨a, h', e, rfl, rfl⟩ := w.ok
  exact e
def Jd (v : T) (h : Hh) : Prop := match v with
  | .ref l => (∃ ts, h[l]? = some (.lst ts)) ∨ ∃ d, h[l]? = some (.dic d)
  | .cls _ => False
  | .str s => s.length ≤ 1000
  | .tup ts => ts.length ≤ 1000
  | _ => True
@[simp] theorem Jd_non (h : Hh) : Jd .non h := trivial
@[simp] theorem Jd_bl (b : Bool) (h : Hh) : Jd (.bl b) h := trivial
@[simp] theorem Jd_int (b : Int) (h : Hh) : Jd (.int b) h := trivial
@[simp] theorem Jd_str (b : Str) (h : Hh) : Jd (.str b) h = (b.length ≤ 1000) := Eq.trans rfl rfl
@[simp] theorem Jd_tup (b : List T) (h : Hh) : Jd (.tup b) h = (b.length ≤ 1000) := Eq.trans rfl rfl
@[simp] theorem Jd_fl (b : List T) (h : Hh) : Jd (.fl b) h := trivial
theorem Jd_lst {l : Nat} {ts : List T} {h : Hh} (e : lstAt h l = some ts) : Jd (.ref l) h := .inl ⟨ts, of_lstAt e⟩
def isStr : T → Bool | .str _ => true | _ => false
def isTup : T → Bool | .tup _ => true | _ => false
def isInt : T → Bool | .int _ => true | .bl _ => true | _ => false
def isBl : T → Bool | .bl _ => true | _ => false
theorem j_str {v : T} {h : Hh} (j : Jd v h) : oIsK .str v h = .ok (.bl (isStr v)) h := by
  apply isK_ok
  cases v with
  | ref l => rcases j with ⟨ts, e⟩ | ⟨d, e⟩ <;> simp only [isK, e] <;> rfl
  | cls c => exact j.elim
  | _ => rfl
theorem j_tup {v : T} {h : Hh} (j : Jd v h) : oIsK .tuple v h = .ok (.bl (isTup v)) h := by
  apply isK_ok
  cases v with
  | ref l => rcases j with ⟨ts, e⟩ | ⟨d, e⟩ <;> simp only [isK, e] <;> rfl
  | cls c => exact j.elim
  | _ => rfl
theorem j_int {v : T} {h : Hh} (j : Jd v h) : oIsK .int v h = .ok (.bl (isInt v)) h := by
  apply isK_ok
  cases v with
  | ref l => rcases j with ⟨ts, e⟩ | ⟨d, e⟩ <;> simp only [isK, e] <;> rfl
  | cls c => exact j.elim
  | _ => rfl
theorem j_bl {v : T} {h : Hh} (j : Jd v h) : oIsK .bool v h = .ok (.bl (isBl v)) h := by
  apply isK_ok
  cases v with
  | ref l => rcases j with ⟨ts, e⟩ | ⟨d, e⟩ <;> simp only [isK, e] <;> rfl
  | cls c => exact j.elim
  | _ => rfl
def ltB (s : Str) : Bool := s.cps.toList.all fun c => decide (c ∈ LETS.cps.toList)
def nmB (s : Str) : Bool := decide (1 ≤ s.length ∧ s.length ≤ 8) && ltB s
def nameB : T → Bool | .str s => nmB s | _ => false
theorem nmB_iff {s : Str} : nmB s = true ↔ Nm s := by
  unfold nmB ltB Nm Lt
  rw [Bool.and_eq_true, decide_eq_true_eq, List.all_eq_true, and_assoc]
  simp only [decide_eq_true_eq]
def integerB : T → Bool | .int _ => true | _ => false
def oneB (v : T) (ss : List Str) : Bool := match v with | .str s => decide (s ∈ ss) | _ => false
@[simp] theorem blsOf_map {α : Type} (p : α → Bool) : ∀ xs : List α, blsOf (xs.map fun x => T.bl (p x)) = some (xs.map p)
  | [] => rfl
  | x :: xs => by
    show (blsOf (xs.map fun x => T.bl (p x))).map (p x :: ·) = _
    rw [blsOf_map p xs]; rfl
@[simp] theorem bAll_map {α : Type} (p : α → Bool) (xs : List α) (h : Hh) : bAll (xs.map fun x => T.bl (p x)) h = .ok (.bl (xs.all p)) h := by
  unfold bAll; rw [blsOf_map]; simp
@[simp] theorem bAny_map {α : Type} (p : α → Bool) (xs : List α) (h : Hh) : bAny (xs.map fun x => T.bl (p x)) h = .ok (.bl (xs.any p)) h := by
  unfold bAny; rw [blsOf_map]; simp
theorem oIn_ch (c : Nat) (s : Str) (h : Hh) : oIn (.str ⟨#[c]⟩) (.str s) h = .ok (.bl (decide (c ∈ s.cps.toList))) h := by
  unfold oIn inT
  simp only [StrLaws.found_one]
abbrev keyS (s : Str) : L2.Key := .inr s
theorem keysT_strs : ∀ ss : List Str, keysT (tSs ss) = some (ss.map keyS)
  | [] => rfl
  | s :: ss => by
    show (match keyT (.str s), keysT (tSs ss) with | some k, some ks => some (k :: ks) | _, _ => none) = _
    rw [keysT_strs ss]; rfl
theorem list_snoc {α : Type} {P : List α → Prop} (h0 : P []) (h1 : ∀ l x, P l → P (l ++ [x])) (l : List α) : P l := by
  have : ∀ r : List α, P r.reverse := fun r => by
    induction r with
    | nil => exact h0
    | cons x r ih => rw [List.reverse_cons]; exact h1 _ _ ih
  have q := this l.reverse
  rwa [List.reverse_reverse] at q
theorem uq_nodup (ks : List L2.Key) : (uq ks).length = ks.length ↔ ks.Nodup := by
  refine list_snoc (P := fun ks => (uq ks).length = ks.length ↔ ks.Nodup) (by simp [uq]) (fun l x ih => ?_) ks
  rw [uq_snoc, List.nodup_append]
  have hm := uq_mem l x
  have hl := uq_len l
  by_cases hx : x ∈ uq l
  · rw [if_pos hx]
    constructor
    · intro e; rw [List.length_append] at e; simp at e; omega
    · intro ⟨_, _, q⟩; exact absurd rfl (q x (hm.mp hx) x (by simp))
  · rw [if_neg hx]
    rw [List.length_append, List.length_append]
    constructor
    · intro e
      refine ⟨ih.mp (by omega), by simp, fun a ha b hb => ?_⟩
      simp at hb
      intro q
      exact hx (hm.mpr (hb ▸ q ▸ ha))
    · intro ⟨q, _⟩; have := ih.mpr q; omega
theorem lenSet_strs {ss : List Str} {h : Hh} (hz : ss.length ≤ 4000) : ∃ n : Int, bLenSet (tSs ss) h = .ok (.int n) h ∧ (n = ss.length ↔ ss.Nodup) := by
  refine ⟨(uq (ss.map keyS)).length, ?_, ?_⟩
  · unfold bLenSet
    rw [keysT_strs]
    have : scanBound = 4096 := rfl
    simp only [List.length_map]
    rw [if_pos (by omega)]
  · have q := uq_nodup (ss.map keyS)
    rw [List.length_map] at q
    have q2 : (ss.map keyS).Nodup ↔ ss.Nodup := by
      unfold List.Nodup
      rw [List.pairwise_map]
      simp [keyS]
    rw [← q2, ← q]
    omega
def JdN : Nat → T → Hh → Prop
  | 0, v, h => Jd v h
  | n + 1, v, h => Jd v h ∧ ∀ ts, v = .tup ts → ∀ t ∈ ts, JdN n t h
theorem JdN.jd {n : Nat} {v : T} {h : Hh} (j : JdN n v h) : Jd v h := by
  cases n with
  | zero => exact j
  | succ n => exact j.1
theorem JdN.tup {n : Nat} {ts : List T} {h : Hh} (j : JdN (n + 1) (.tup ts) h) {t : T} (ht : t ∈ ts) : JdN n t h := j.2 ts rfl t ht
def entB (t : T) : Bool := isNonT t || nameB t
def rowB (v : T) (n : Int) : Bool := match v with | .tup ts => decide ((ts.length : Int) = n) && ts.all entB | _ => false
def nearB (v looks : T) (n : Int) : Bool := if isNonT looks then rowB v n else match v with | .tup ts => decide ((ts.length : Int) = n) && ts.all (fun t => rowB t n) | _ => false
def strOf : T → Str | .str s => s | _ => ⟨#[]⟩
def namesB (v : T) (lo hi : Int) : Bool := match v with | .tup ts => decide (lo ≤ ts.length ∧ (ts.length : Int) ≤ hi) && (ts.all nameB && decide ((ts.map strOf).Nodup)) | _ => false
def pairB (v : T) : Bool := match v with | .tup [a, .tup b] => nameB a && decide (b.length = 4) | _ => false
def fstOf : T → T | .tup (a :: _) => a | t => t
def fieldsB (v : T) : Bool := match v with | .tup ts => decide (1 ≤ ts.length ∧ ts.length ≤ 3) && (ts.all pairB && decide ((ts.map fun t => strOf (fstOf t)).Nodup)) | _ => false
theorem names_strs : ∀ {ts : List T}, ts.all nameB = true → ts = tSs (ts.map strOf)
  | [], _ => rfl
  | t :: ts, q => by
    rw [List.all_cons, Bool.and_eq_true] at q
    rw [List.map_cons, show tSs (strOf t :: ts.map strOf) = .str (strOf t) :: tSs (ts.map strOf) from rfl, ← names_strs q.2]
    cases t with
    | str s => rfl
    | _ => exact absurd q.1 (by simp [nameB])
abbrev IsB (f : Fn) (n : Nat) (p : T → Bool) : Prop := ∀ {v : T} {h : Hh}, JdN n v h → f [v] h = .ok (.bl (p v)) h
def RowE (f : Fn) : Prop := ∀ {v : T} {n : Int} {h : Hh}, JdN 1 v h → f [v, .int n] h = .ok (.bl (rowB v n)) h
def NearE (f : Fn) : Prop := ∀ {v looks : T} {n : Int} {h : Hh}, JdN 2 v h → f [v, looks, .int n] h = .ok (.bl (nearB v looks n)) h
def NamesE (f : Fn) : Prop := ∀ {v : T} {a b : Int} {h : Hh}, JdN 1 v h → b ≤ 4000 → f [v, .int a, .int b] h = .ok (.bl (namesB v a b)) h
def OneE (f : Fn) : Prop := (∀ {v : T} {ss : List Str} {h : Hh}, Jd v h → f [v, .tup (tSs ss)] h = .ok (.bl (oneB v ss)) h) ∧ ∀ {v : T} {r : Nat} {ss : List Str} {h : Hh}, Jd v h → lstAt h r = some (tSs ss) → f [v, .ref r] h = .ok (.bl (oneB v ss)) h
@[simp] theorem isStr_s (s : Str) : isStr (.str s) = true := Eq.trans rfl rfl
@[simp] theorem isTup_s (s : List T) : isTup (.tup s) = true := Eq.trans rfl rfl
theorem of_isStr {v : T} (h : isStr v = true) : ∃ s, v = .str s := by cases v <;> first | exact ⟨_, rfl⟩ | cases h
theorem of_isTup {v : T} (h : isTup v = true) : ∃ s, v = .tup s := by cases v <;> first | exact ⟨_, rfl⟩ | cases h
theorem nameB_not {v : T} (h : ¬ isStr v = true) : nameB v = false := by cases v <;> first | rfl | exact absurd rfl h
theorem lcm_all {p : T → Bool} {s : Src} {ts : List T} {g : SG} {te : SE} {σ : St3} {h : Hh} {Q : T → Hh → Prop} {E E' : EQ} (hz : ts.length ≤ sizeLine) (hI : s.Is ts h) (hs : ∀ x ∈ ts, ∃ σ1, g x σ = some σ1 ∧ te σ1 h = .ok (.bl (p x)) h) (k : Q (.bl (ts.all p)) h) :
    (lcRun s g stYes te σ (s.len h) 0 [] h).wp (kQ bAll Q E') E := by
  refine wp_lcm (fun x => T.bl (p x)) hz hI hs ?_
  simp
  exact k
end W3
end

section
namespace W3
open PySem
def Fm.ins (fm : Fm) : List (Str × T) := [("words", fm.tW), ("fields", fm.tF), ("room", .int fm.room)]
def FormAt (h : Hh) (l : Nat) (fm : Fm) : Prop := h[l]? = some (.ins "Form" fm.ins)
theorem insAt_of {h : Hh} {l : Nat} {c : Str} {fs : List (Str × T)} (e : h[l]? = some (.ins c fs)) : insAt h l = some (c, fs) := by unfold insAt; rw [e]
theorem FormAt.ins {h : Hh} {l : Nat} {fm : Fm} (e : FormAt h l fm) : insAt h l = some (("Form" : Str), fm.ins) := insAt_of e
theorem mOk_of {h : Hh} {l : Nat} {c m : Str} {fs : List (Str × T)} (e : insAt h l = some (c, fs)) (hm : fs.lookup m = none) : mOk c m (.ref l) h = true := by
  unfold mOk; simp only [e]; simp [hm]
theorem FormAt.m {h : Hh} {l : Nat} {fm : Fm} {m : Str} (e : FormAt h l fm) (hm : fm.ins.lookup m = none) : mOk "Form" m (.ref l) h = true := mOk_of e.ins hm
theorem fld_of {cs : List (Str × List Str)} {h : Hh} {l : Nat} {c : Str} {fs : List (Str × T)} {as : List Str} {f : Str} {t : T} (e : insAt h l = some (c, fs)) (hc : cs.lookup c = some as) (ha : as.contains f = true) (hf : fs.lookup f = some t) : oFldC cs f (.ref l) h = .ok t h := by
  simp only [oFldC, e, hc, ha, hf, if_true]
theorem sfld_of {cs : List (Str × List Str)} {h : Hh} {l : Nat} {c : Str} {fs : List (Str × T)} {as : List Str} {f : Str} {y : T} {σ : St3} (e : insAt h l = some (c, fs)) (hc : cs.lookup c = some as) (ha : as.contains f = true) (hl : fs.length < 1000) :
    fSet cs (.ref l) f y σ h = .nx σ (h.set l (.ins c (putT f y fs))) := by
  simp only [fSet, e, hc, ha, hl, decide_true, Bool.and_true, if_true]
theorem jdN_str {n : Nat} {s : Str} {h : Hh} (hs : s.length ≤ 1000) : JdN n (.str s) h := by
  cases n with
  | zero => exact hs
  | succ n => exact ⟨hs, fun ts e => by cases e⟩
theorem jdN_non {n : Nat} {h : Hh} : JdN n .non h := by
  cases n with
  | zero => trivial
  | succ n => exact ⟨trivial, fun ts e => by cases e⟩
theorem jdN_int {n : Nat} {i : Int} {h : Hh} : JdN n (.int i) h := by
  cases n with
  | zero => trivial
  | succ n => exact ⟨trivial, fun ts e => by cases e⟩
theorem jdN_bl {n : Nat} {i : Bool} {h : Hh} : JdN n (.bl i) h := by
  cases n with
  | zero => trivial
  | succ n => exact ⟨trivial, fun ts e => by cases e⟩
theorem jdN_tup {n : Nat} {ts : List T} {h : Hh} (hl : ts.length ≤ 1000) (ht : ∀ t ∈ ts, JdN n t h) : JdN (n + 1) (.tup ts) h := ⟨hl, fun us e t q => by cases e; exact ht t q⟩
theorem jdN_ref {n : Nat} {l : Nat} {h : Hh} (j : Jd (.ref l) h) : JdN n (.ref l) h := by
  cases n with
  | zero => exact j
  | succ n => exact ⟨j, fun ts e => by cases e⟩
theorem Nm.short {s : Str} (h : Nm s) : s.length ≤ 1000 := by have := h.2.1; omega
theorem jdN_ent {n k : Nat} {r : List Ent} {e : Ent} {h : Hh} (ro : RowOk k r) (he : e ∈ r) : JdN n (tE e) h := by
  cases e with
  | none => exact jdN_non
  | some s => exact jdN_str (ro.nm s he).short
theorem jdN_row {n k : Nat} {r : List Ent} {h : Hh} (ro : RowOk k r) (hk : k ≤ 1000) : JdN (n + 1) (tRow r) h :=
  jdN_tup (by rw [List.length_map, ro.len]; exact hk) fun t ht => by
    obtain ⟨e, he, rfl⟩ := List.mem_map.mp ht
    exact jdN_ent ro he
theorem rowB_row {k : Nat} {r : List Ent} (ro : RowOk k r) : rowB (tRow r) k = true := by
  simp only [rowB, tRow, List.length_map, ro.len, decide_true, Bool.true_and, List.all_map, List.all_eq_true]
  intro e he
  cases e with
  | none => rfl
  | some s => simp [entB, nameB, nmB_iff.mpr (ro.nm s he)]
theorem nearB_nr {k : Nat} {ns : List Str} {nm : Str} {nr : Nr} (o : NrOk k ns nm nr) : nearB nr.tNear nr.tLooks k = true := by
  cases nr with
  | alone r => simp [Nr.tNear, Nr.tLooks, nearB, rowB_row o]
  | looks g rs =>
    obtain ⟨_, _, hl, hr⟩ := o
    simp [Nr.tNear, Nr.tLooks, nearB, hl]
    intro r hr'
    exact rowB_row (hr r hr')
theorem jdN_near {k : Nat} {ns : List Str} {nm : Str} {nr : Nr} {h : Hh} (o : NrOk k ns nm nr) (hk : k ≤ 1000) : JdN 2 nr.tNear h := by
  cases nr with
  | alone r => exact jdN_row o hk
  | looks g rs =>
    obtain ⟨_, _, hl, hr⟩ := o
    refine jdN_tup (by rw [List.length_map, hl]; exact hk) fun t ht => ?_
    obtain ⟨r, hr', rfl⟩ := List.mem_map.mp ht
    exact jdN_row (hr r hr') hk
theorem jdN_names {n : Nat} {ss : List Str} {h : Hh} (o : NmL ss) (hk : ss.length ≤ 1000) : JdN (n + 1) (.tup (tSs ss)) h :=
  jdN_tup (by rw [List.length_map]; exact hk) fun t ht => by
    obtain ⟨s, hs, rfl⟩ := List.mem_map.mp ht
    exact jdN_str (o.nm s hs).short
theorem strOf_tSs (ss : List Str) : (tSs ss).map strOf = ss := by
  rw [List.map_map]
  exact List.map_id' ss
theorem namesB_names {ss : List Str} {a b : Int} (o : NmL ss) (h1 : a ≤ ss.length) (h2 : (ss.length : Int) ≤ b) : namesB (.tup (tSs ss)) a b = true := by
  show (decide (a ≤ (tSs ss).length ∧ ((tSs ss).length : Int) ≤ b) && ((tSs ss).all nameB && decide (((tSs ss).map strOf).Nodup))) = true
  rw [strOf_tSs]
  simp [h1, h2, o.nd]
  intro s hs
  simp [nameB, nmB_iff.mpr (o.nm s hs)]
theorem fieldsB_fm {fm : Fm} (o : FmOk fm) : fieldsB fm.tF = true := by
  have e : (fm.fields.map tPair).map (fun t => strOf (fstOf t)) = fm.names := by rw [List.map_map]; rfl
  simp only [fieldsB, Fm.tF, List.length_map, o.f1, o.f3, e, o.fn.nd, and_self, decide_true, Bool.true_and, Bool.and_true, List.all_eq_true]
  intro t ht
  obtain ⟨p, hp, rfl⟩ := List.mem_map.mp ht
  simp [tPair, pairB, Fd.t, nameB, Fd.ts, nmB_iff.mpr (o.fn.nm p.1 (List.mem_map.mpr ⟨p, hp, rfl⟩))]
def FieldsE (f : Fn) : Prop := IsB f 2 fieldsB
def FNamesE (f : Fn) : Prop := ∀ {fm : Fm} {l : Nat} {h : Hh}, FormAt h l fm → fm.fields.length ≤ 1000 → f [.ref l] h = .ok (.tup (tSs fm.names)) h
end W3
end

section
namespace W3
open PySem
def flatT : T → Bool | .non => true | .bl _ => true | .int _ => true | .str _ => true | _ => false
def LstT (h : Hh) (t : T) (ts : List T) : Prop := (∃ l, t = .ref l ∧ lstAt h l = some ts) ∨ t = .fl ts
def SameV (h : Hh) : Nat → T → T → Prop
  | 0, t, u => t = u ∧ flatT t = true
  | n + 1, t, u => (t = u ∧ flatT t = true) ∨ ∃ ts us, ((t = .tup ts ∧ u = .tup us) ∨ (LstT h t ts ∧ LstT h u us)) ∧ ts.length = us.length ∧ ts.length ≤ 100000 ∧ ∀ (i : Nat) (x y : T), ts[i]? = some x → us[i]? = some y → SameV h n x y
def PureT : Nat → T → Prop
  | 0, t => flatT t = true
  | n + 1, t => flatT t = true ∨ ∃ ts, t = .tup ts ∧ ts.length ≤ 100000 ∧ ∀ x ∈ ts, PureT n x
theorem PureT.same {h : Hh} : ∀ {n : Nat} {t : T}, PureT n t → SameV h n t t
  | 0, t, p => ⟨rfl, p⟩
  | n + 1, t, p => by
    rcases p with p | ⟨ts, rfl, hl, p⟩
    · exact .inl ⟨rfl, p⟩
    · refine .inr ⟨ts, ts, .inl ⟨rfl, rfl⟩, rfl, hl, fun i x y ex ey => ?_⟩
      rw [ex] at ey; cases ey
      exact (p x (List.mem_of_getElem? ex)).same
theorem SameV.lists {h : Hh} {n a b : Nat} {ts : List T} (ea : lstAt h a = some ts) (eb : lstAt h b = some ts) (hl : ts.length ≤ 100000) (p : ∀ x ∈ ts, PureT n x) : SameV h (n + 1) (.ref a) (.ref b) := by
  refine .inr ⟨ts, ts, .inr ⟨.inl ⟨a, rfl, ea⟩, .inl ⟨b, rfl, eb⟩⟩, rfl, hl, fun i x y ex ey => ?_⟩
  rw [ex] at ey; cases ey
  exact (p x (List.mem_of_getElem? ex)).same
def SameW (n : Nat) (f : Fn) : Prop := ∀ {t u : T} {h : Hh}, SameV h n t u → f [t, u] h = .ok (.bl true) h
@[simp] theorem e_isK_fl (k : Kd) (s : List T) (h : Hh) : oIsK k (.fl s) h = .ok (.bl (k == .list)) h := Eq.trans rfl rfl
theorem LstT.isK {h : Hh} {t : T} {ts : List T} (e : LstT h t ts) (k : Kd) : oIsK k t h = .ok (.bl (k == .list)) h := by
  rcases e with ⟨l, rfl, e⟩ | rfl
  · exact e_isK_lst e
  · rfl
theorem LstT.len {h : Hh} {t : T} {ts : List T} (e : LstT h t ts) : bLen [t] h = .ok (.int ts.length) h := by
  rcases e with ⟨l, rfl, e⟩ | rfl
  · simp [e]
  · rfl
theorem LstT.ix {h : Hh} {t : T} {ts : List T} (e : LstT h t ts) (i : Int) : oIx t (.int i) h = match L2.atI ts i with | some t => .ok t h | none => .stk := by
  rcases e with ⟨l, rfl, e⟩ | rfl
  · rw [e_ix_ref]; simp only [e] <;> rfl
  · rfl
@[simp] theorem e_saLc2 (si : SI) (g : SG) (tt : ST) (si1 : SI) (g1 : SG) (tt1 : ST) (te : SE) (vs vs1 : List Nat) {σ : St3} {h : Hh} : saLc2 si g tt si1 g1 tt1 te vs vs1 σ h = (si σ h).bind fun s h1 => lc2Run s g tt si1 g1 tt1 te vs1 (wipeT σ vs) (s.len h1) 0 [] h1 := Eq.trans rfl rfl
def enterL (fm : Fm) : List T := fm.names.flatMap fun n => fm.words.map fun w => .tup [.str "enter", .str n, .str w]
def leaveL (fm : Fm) : List T := fm.names.map fun n => .tup [.str "leave", .str n]
def plainL (fm : Fm) : List T := enterL fm ++ leaveL fm ++ [.tup [.str "send"], .tup [.str "answer", .int 0], .tup [.str "answer", .int 1], .tup [.str "answer", .int 2]]
def wholeL (fm : Fm) : List T := plainL fm ++ [.tup [.str "reset"]]
@[simp] theorem e_extend (l b : Nat) (h : Hh) : mExtend (.ref l) [.ref b] h = match lstAt h l, lstAt h b with
    | some ts, some zs => if ts.length + zs.length ≤ sizeLine then .ok .non (h.set l (.lst (ts ++ zs))) else .stk
    | _, _ => .stk := Eq.trans rfl rfl
@[simp] theorem e_clear (l : Nat) (h : Hh) : mClear (.ref l) [] h = match lstAt h l with
    | some _ => .ok .non (h.set l (.lst []))
    | none => .stk := Eq.trans rfl rfl
@[simp] theorem e_add_rr (l b : Nat) (h : Hh) : oAdd (.ref l) (.ref b) h = match lstAt h l, lstAt h b with
    | some xs, some zs => if xs.length + zs.length ≤ sizeLine then alloc (.lst (xs ++ zs)) h else .stk
    | _, _ => .stk := Eq.trans rfl rfl
theorem pure_strs {n : Nat} {ss : List T} (h : ∀ t ∈ ss, flatT t = true) (hl : ss.length ≤ 100000) : PureT (n + 1) (.tup ss) := .inr ⟨ss, rfl, hl, fun x hx => by
  cases n with
  | zero => exact h x hx
  | succ n => exact .inl (h x hx)⟩
theorem wholeL_mem {fm : Fm} {d : T} (hd : d ∈ wholeL fm) : (∃ n ∈ fm.names, ∃ w ∈ fm.words, d = .tup [.str "enter", .str n, .str w]) ∨ (∃ n ∈ fm.names, d = .tup [.str "leave", .str n]) ∨ d = .tup [.str "send"] ∨ (∃ k : Int, 0 ≤ k ∧ k < 3 ∧ d = .tup [.str "answer", .int k]) ∨ d = .tup [.str "reset"] := by
  unfold wholeL plainL enterL leaveL at hd
  simp only [List.mem_append, List.mem_flatMap, List.mem_map, List.mem_cons, List.not_mem_nil, or_false] at hd
  rcases hd with ((⟨n, hn, w, hw, rfl⟩ | ⟨n, hn, rfl⟩) | rfl | rfl | rfl | rfl) | rfl
  · exact .inl ⟨n, hn, w, hw, rfl⟩
  · exact .inr (.inl ⟨n, hn, rfl⟩)
  · exact .inr (.inr (.inl rfl))
  · exact .inr (.inr (.inr (.inl ⟨0, by omega, by omega, rfl⟩)))
  · exact .inr (.inr (.inr (.inl ⟨1, by omega, by omega, rfl⟩)))
  · exact .inr (.inr (.inr (.inl ⟨2, by omega, by omega, rfl⟩)))
  · exact .inr (.inr (.inr (.inr rfl)))
theorem wholeL_pure {fm : Fm} {d : T} (hd : d ∈ wholeL fm) : PureT 1 d := by
  rcases wholeL_mem hd with ⟨n, _, w, _, rfl⟩ | ⟨n, _, rfl⟩ | rfl | ⟨k, _, _, rfl⟩ | rfl <;> exact pure_strs (by simp [flatT]) (by simp)
theorem FormAt.app {h : Hh} {l : Nat} {fm : Fm} (e : FormAt h l fm) (o : Hh) : FormAt (h ++ o) l fm := by
  unfold FormAt
  rw [List.getElem?_append_left (List.getElem?_eq_some_iff.mp e).1]; exact e
theorem FormAt.set {h : Hh} {l k : Nat} {fm : Fm} (e : FormAt h l fm) (o : Ob) (hk : k ≠ l) : FormAt (h.set k o) l fm := by
  unfold FormAt
  rw [List.getElem?_set_ne hk]; exact e
theorem FormAt.lt {h : Hh} {l : Nat} {fm : Fm} (e : FormAt h l fm) : l < h.length := (List.getElem?_eq_some_iff.mp e).1
theorem FormAt.ne {h : Hh} {l r : Nat} {fm : Fm} {ts : List T} (e : FormAt h l fm) (q : lstAt h r = some ts) : r ≠ l := by
  intro z
  subst z
  have := of_lstAt q
  unfold FormAt at e
  rw [e] at this
  cases this
end W3
end

section
namespace W3
open PySem
@[simp] theorem e_raise (c : Str) (ns : List Str) (a : SA) (σ : St3) (h : Hh) : ssRaiseX c ns a σ h = (a σ h).flo σ fun xs h1 => if xs.length = ns.length then .exc c (ns.zip xs).reverse σ h1 else .stk := Eq.trans rfl rfl
def FQ.tr (Q : FQ) (XS : XSub) (hs : List Hdl) : FQ := ⟨Q.n, Q.r, Q.b, Q.c, fun c fs σ h => (tryGo XS hs c fs σ h).wp Q⟩
section
variable {Q : FQ} {XS : XSub} {hs : List Hdl}
@[simp] theorem ft_n : (Q.tr XS hs).n = Q.n := Eq.trans rfl rfl
@[simp] theorem ft_r : (Q.tr XS hs).r = Q.r := Eq.trans rfl rfl
@[simp] theorem ft_b : (Q.tr XS hs).b = Q.b := Eq.trans rfl rfl
@[simp] theorem ft_c : (Q.tr XS hs).c = Q.c := Eq.trans rfl rfl
@[simp] theorem ft_e (c : Str) (fs : List (Str × T)) (σ : St3) (h : Hh) : (Q.tr XS hs).e c fs σ h = (tryGo XS hs c fs σ h).wp Q := Eq.trans rfl rfl
@[simp] theorem fp_try (a : SS) (σ : St3) (h : Hh) : (ssTryX XS a hs σ h).wp Q = (a σ h).wp (Q.tr XS hs) := by
  unfold ssTryX
  cases a σ h <;> rfl
end
@[simp] theorem xf_part2 (n p : T) (σ : St3) (h : Hh) : sXf [("field", n), ("part", p)] "part" σ h = .ok p h := by
  have : List.lookup ("part" : Str) [(("field" : Str), n), ("part", p)] = some p := by
    simp only [List.lookup, show (("part" : Str) == "field") = false by decide +kernel, show (("part" : Str) == "part") = true by decide +kernel]
  unfold sXf; rw [this]
@[simp] theorem xf_field2 (n p : T) (σ : St3) (h : Hh) : sXf [("field", n), ("part", p)] "field" σ h = .ok n h := by
  have : List.lookup ("field" : Str) [(("field" : Str), n), ("part", p)] = some n := by
    simp only [List.lookup, show (("field" : Str) == "field") = true by decide +kernel]
  unfold sXf; rw [this]
def eqS (t : T) (s : Str) : Bool := match t with | .str g => decide (g = s) | _ => false
def fieldErr (ws ns : List Str) (nm : Str) (a b c d : T) : Option Str :=
  if oneB a ws = false then some "first"
  else if isNonT b = false ∧ (oneB b ns = false ∨ eqS b nm = true) then some "looks"
  else if nearB c b ws.length = false then some "near"
  else if isNonT d = false ∧ rowB d ws.length = false then some "far"
  else none
def fErr (ws ns : List Str) : List T → Option (Str × Str)
  | [] => none
  | .tup [.str nm, .tup [a, b, c, d]] :: r => match fieldErr ws ns nm a b c d with
    | some p => some (p, nm)
    | none => fErr ws ns r
  | _ :: r => none
theorem fErr_cons {ws ns : List Str} {nm : Str} {a b c d : T} {r : List T} : fErr ws ns (.tup [.str nm, .tup [a, b, c, d]] :: r) = match fieldErr ws ns nm a b c d with | some p => some (p, nm) | none => fErr ws ns r := rfl
def roomB : T → Bool | .int i => decide (1 ≤ i ∧ i ≤ 3) | _ => false
def itsOf : T → List T | .tup ts => ts | _ => []
def initErr (W V R : T) : Option (Str × Str) :=
  if namesB W 2 3 = false then some ("words", "")
  else if fieldsB V = false then some ("fields", "")
  else match fErr ((itsOf W).map strOf) ((itsOf V).map fun t => strOf (fstOf t)) (itsOf V) with
    | some e => some e
    | none => if roomB R = false then some ("room", "") else none
theorem exc_of_wp {r : Res T} {c : Str} {fs : List (Str × T)} {h : Hh} (w : r.wp (fun _ _ => False) (fun c' fs' h' => c' = c ∧ fs' = fs ∧ h' = h)) : r = .exc c fs h := by
  cases r with
  | ok a h => exact w.elim
  | exc c fs h => obtain ⟨rfl, rfl, rfl⟩ := w; rfl
  | stk => exact w.elim
theorem JdN.down {n : Nat} : ∀ {v : T} {h : Hh}, JdN (n + 1) v h → JdN n v h := by
  induction n with
  | zero => exact fun j => j.1
  | succ n ih => exact fun j => ⟨j.1, fun ts e t ht => ih (j.2 ts e t ht)⟩
theorem JdN.to {n k : Nat} {v : T} {h : Hh} (j : JdN (n + k) v h) : JdN n v h := by
  induction k with
  | zero => exact j
  | succ k ih => exact ih j.down
theorem Jd.ext {v : T} {h h' : Hh} (e : ∀ (k : Nat) (o : Ob), h[k]? = some o → h'[k]? = some o) (j : Jd v h) : Jd v h' := by
  cases v with
  | ref l => rcases j with ⟨ts, q⟩ | ⟨d, q⟩; exact .inl ⟨ts, e _ _ q⟩; exact .inr ⟨d, e _ _ q⟩
  | _ => exact j
theorem JdN.ext {n : Nat} : ∀ {v : T} {h h' : Hh}, (∀ (k : Nat) (o : Ob), h[k]? = some o → h'[k]? = some o) → JdN n v h → JdN n v h' := by
  induction n with
  | zero => exact fun e j => Jd.ext e j
  | succ n ih => exact fun e j => ⟨Jd.ext e j.1, fun ts q t ht => ih e (j.2 ts q t ht)⟩
theorem ext_app (h o : Hh) : ∀ (k : Nat) (x : Ob), h[k]? = some x → (h ++ o)[k]? = some x := fun k x e => by
  rw [List.getElem?_append_left (List.getElem?_eq_some_iff.mp e).1]; exact e
theorem oneB_str {t : T} {ss : List Str} (h : oneB t ss = true) : ∃ s, t = .str s ∧ s ∈ ss := by
  cases t with
  | str s => exact ⟨s, rfl, by simpa [oneB] using h⟩
  | _ => simp [oneB] at h
def xForm (p : Str) (n : T) : List (Str × T) := [("field", n), ("part", .str p)]
def CheckE (f : Fn) : Prop := ∀ {nm : Str} {a b c d : T} {ws ns : List Str} {r : Nat} {h : Hh}, JdN 3 (.tup [a, b, c, d]) h → ws.length ≤ 1000 → lstAt h r = some (tSs ns) →
  f [.str nm, .tup [a, b, c, d], .tup (tSs ws), .ref r] h = match fieldErr ws ns nm a b c d with | none => .ok .non h | some p => .exc "InvalidForm" (xForm p (.str nm)) h
def InitE (f : Fn) : Prop := ∀ {W V R : T} {l : Nat} {h : Hh} {Q : T → Hh → Prop} {E : EQ}, JdN 1 W h → JdN 5 V h → JdN 0 R h → h[l]? = some (.ins "Form" []) →
  (initErr W V R = none → ∀ h', h'[l]? = some (.ins "Form" [("words", W), ("fields", V), ("room", R)]) → h'.length = h.length + 1 → (∀ k, k < h.length → k ≠ l → h'[k]? = h[k]?) → Q .non h') →
  (∀ p n, initErr W V R = some (p, n) → ∀ o, E "InvalidForm" (xForm p (.str n)) (h ++ o)) → (f [.ref l, W, V, R] h).wp Q E
theorem fieldsB_mem {V : T} (hv : fieldsB V = true) : ∃ ts, V = .tup ts ∧ ts.length ≤ 3 ∧ ∀ x ∈ ts, ∃ s a b c d, x = .tup [.str s, .tup [a, b, c, d]] ∧ Nm s := by
  unfold fieldsB at hv
  split at hv
  · rename_i ts
    simp only [Bool.and_eq_true, decide_eq_true_eq] at hv
    refine ⟨ts, rfl, hv.1.2, fun x hx => ?_⟩
    have := List.all_eq_true.mp hv.2.1 x hx
    unfold pairB at this
    split at this
    · rename_i a b
      simp only [Bool.and_eq_true, decide_eq_true_eq] at this
      obtain ⟨q1, q2⟩ := this
      cases a with
      | str s =>
        match b, q2 with
        | [a, b, c, d], _ => exact ⟨s, a, b, c, d, rfl, nmB_iff.mp q1⟩
      | _ => simp [nameB] at q1
    · cases this
  · cases hv
theorem namesB_mem {V : T} {lo hi : Int} (hv : namesB V lo hi = true) : ∃ ss : List Str, V = .tup (tSs ss) ∧ NmL ss ∧ lo ≤ ss.length ∧ (ss.length : Int) ≤ hi := by
  unfold namesB at hv
  split at hv
  · rename_i ts
    simp only [Bool.and_eq_true, decide_eq_true_eq] at hv
    refine ⟨ts.map strOf, by rw [← names_strs hv.2.1], ⟨hv.2.2, fun s hs => ?_⟩, by simpa using hv.1.1, by simpa using hv.1.2⟩
    obtain ⟨t, ht, rfl⟩ := List.mem_map.mp hs
    have := List.all_eq_true.mp hv.2.1 t ht
    cases t with
    | str s => exact nmB_iff.mp this
    | _ => simp [nameB] at this
  · cases hv
end W3
end

section
namespace W3
open PySem
theorem grow {h h' : Hh} (hl : h.length ≤ h'.length) (hk : ∀ k, k < h.length → h'[k]? = h[k]?) : ∃ o, h' = h ++ o := by
  refine ⟨h'.drop h.length, ?_⟩
  apply List.ext_getElem?
  intro k
  by_cases q : k < h.length
  · rw [List.getElem?_append_left q]; exact hk k q
  · rw [List.getElem?_append_right (by omega), List.getElem?_drop]
    congr 1; omega
theorem fieldErr_ok {ws ns : List Str} {nm : Str} {fd : Fd} (o : FdOk ws ns nm fd) : fieldErr ws ns nm (.str fd.first) fd.nr.tLooks fd.nr.tNear (tFar fd.far) = none := by
  unfold fieldErr
  rw [if_neg (by simp [oneB, o.first])]
  rw [if_neg (by
    intro ⟨h1, h2⟩
    cases hn : fd.nr with
    | alone r => rw [hn] at h1; simp [Nr.tLooks, isNonT] at h1
    | looks g rs =>
      have nk := o.nr
      rw [hn] at h2 nk
      obtain ⟨q1, q2, _, _⟩ := nk
      rcases h2 with h2 | h2
      · simp [Nr.tLooks, oneB, q1] at h2
      · simp [Nr.tLooks, eqS] at h2; exact q2 h2)]
  rw [if_neg (by rw [nearB_nr o.nr]; simp)]
  rw [if_neg (by
    intro ⟨h1, h2⟩
    cases hf : fd.far with
    | none => rw [hf] at h1; simp [tFar, isNonT] at h1
    | some r => rw [hf, tFar, rowB_row (o.far r hf)] at h2; cases h2)]
theorem fErr_ok {ws ns : List Str} : ∀ {ps : List (Str × Fd)}, (∀ p ∈ ps, FdOk ws ns p.1 p.2) → fErr ws ns (ps.map tPair) = none
  | [], _ => rfl
  | p :: ps, h => by
    rw [List.map_cons, show tPair p = .tup [.str p.1, .tup [.str p.2.first, p.2.nr.tLooks, p.2.nr.tNear, tFar p.2.far]] from rfl, fErr_cons, fieldErr_ok (h p (by simp))]
    exact fErr_ok fun q hq => h q (by simp [hq])
theorem initErr_fm {fm : Fm} (o : FmOk fm) : initErr fm.tW fm.tF (.int fm.room) = none := by
  have w2 := o.w2; have w3 := o.w3
  have e : (fm.fields.map tPair).map (fun t => strOf (fstOf t)) = fm.names := by rw [List.map_map]; rfl
  unfold initErr
  rw [if_neg (by rw [Fm.tW, namesB_names o.wn (by omega) (by omega)]; simp), if_neg (by rw [fieldsB_fm o]; simp)]
  simp only [Fm.tW, Fm.tF, itsOf, strOf_tSs, e, fErr_ok o.fs]
  rw [if_neg (by simp [roomB, o.r1, o.r3])]
def fdAt (fm : Fm) (v : T) : Option (Str × Fd) := match v with | .str s => fm.fields.find? (fun p => decide (p.1 = s)) | _ => none
def PartsOfE (f : Fn) : Prop := ∀ {fm : Fm} {l : Nat} {v : T} {h : Hh}, FormAt h l fm → FmOk fm → Jd v h → f [.ref l, v] h = match fdAt fm v with | some p => .ok p.2.t h | none => .exc "UnknownField" [("field", v)] h
def putF (k : Bool) (fd : Fd) (t : T) : List T := if k then [.str fd.first, fd.nr.tLooks, t, tFar fd.far] else [.str fd.first, fd.nr.tLooks, fd.nr.tNear, t]
end W3
namespace W3
open PySem
def AnsQ (W V R : T) (h : Hh) (Q : T → Hh → Prop) (E : EQ) : Prop :=
  (initErr W V R = none → ∀ (o : Hh) (a : Nat), (h ++ o)[a]? = some (Ob.ins "Form" [("words", W), ("fields", V), ("room", R)]) → Q (.ref a) (h ++ o)) ∧ ∀ p n, initErr W V R = some (p, n) → ∀ o : Hh, E "InvalidForm" (xForm p (.str n)) (h ++ o)
theorem init_ans {f : Fn} (I : InitE f) {W V R : T} {h : Hh} {Q : T → Hh → Prop} {E : EQ} (jw : JdN 1 W h) (jv : JdN 5 V h) (jr : JdN 0 R h) (hq : initErr W V R = none → ∀ o : Hh, (h ++ o)[h.length]? = some (Ob.ins "Form" [("words", W), ("fields", V), ("room", R)]) → Q .non (h ++ o))
    (he : ∀ p n, initErr W V R = some (p, n) → ∀ o : Hh, E "InvalidForm" (xForm p (.str n)) (h ++ o)) : (f [.ref h.length, W, V, R] (h ++ [.ins "Form" []])).wp Q E := by
  refine I (JdN.ext (ext_app _ _) jw) (JdN.ext (ext_app _ _) jv) (JdN.ext (ext_app _ _) jr) (by simp) (fun e h' hl ln kp => ?_) (fun p n e o => by rw [List.append_assoc]; exact he p n e _)
  simp at ln
  obtain ⟨o, rfl⟩ := grow (h := h) (h' := h') (by omega) (fun k hk => by rw [kp k (by simp; omega) (by omega), List.getElem?_append_left hk])
  exact hq e o hl
theorem AnsQ.app {W V R : T} {h : Hh} {Q : T → Hh → Prop} {E : EQ} (q : AnsQ W V R h Q E) (o : Hh) : AnsQ W V R (h ++ o) Q E :=
  ⟨fun e o2 a ha => by rw [List.append_assoc] at ha ⊢; exact q.1 e _ a ha, fun p n e o2 => by rw [List.append_assoc]; exact q.2 p n e _⟩
theorem jdN_fm {fm : Fm} {h : Hh} (o : FmOk fm) : JdN 5 fm.tF h := by
  have w3 := o.w3
  refine jdN_tup (by rw [List.length_map]; have := o.f3; omega) fun t ht => ?_
  obtain ⟨p, hp, rfl⟩ := List.mem_map.mp ht
  refine jdN_tup (by simp) fun t ht => ?_
  simp at ht
  have fo := o.fs p hp
  rcases ht with rfl | rfl
  · exact jdN_str (o.fn.nm p.1 (List.mem_map.mpr ⟨p, hp, rfl⟩)).short
  · refine jdN_tup (by simp [Fd.ts]) fun t ht => ?_
    simp [Fd.ts] at ht
    rcases ht with rfl | rfl | rfl | rfl
    · exact jdN_str (o.wn.nm _ fo.first).short
    · cases hn : p.2.nr with
      | alone r => exact jdN_non
      | looks g rs =>
        have nk := fo.nr
        rw [hn] at nk
        exact jdN_str (o.fn.nm g nk.1).short
    · exact jdN_near fo.nr (by omega)
    · cases hf : p.2.far with
      | none => exact jdN_non
      | some r => exact jdN_row (fo.far r hf) (by omega)
theorem sIx_nat (n d k : Nat) : HT.sIx n d (some (k : Int)) = min k n := by
  exact HT.sIx_nat n d k
theorem cut_to {α : Type} (xs : List α) (k : Nat) : cutT xs none (some (k : Int)) = xs.take k := by
  unfold cutT
  rw [sIx_nat, show HT.sIx xs.length 0 none = 0 from rfl, List.drop_zero, Nat.sub_zero]
  by_cases h : k ≤ xs.length
  · rw [Nat.min_eq_left h]
  · rw [Nat.min_eq_right (by omega), List.take_length, List.take_of_length_le (by omega)]
theorem cut_from {α : Type} (xs : List α) (k : Nat) : cutT xs (some (k : Int)) none = xs.drop k := by
  unfold cutT
  rw [sIx_nat, show HT.sIx xs.length xs.length none = xs.length from rfl]
  by_cases h : k ≤ xs.length
  · rw [Nat.min_eq_left h, List.take_of_length_le (by rw [List.length_drop]; omega)]
  · rw [Nat.min_eq_right (by omega), List.drop_length, List.drop_eq_nil_of_le (by omega)]; simp
@[simp] theorem e_neD_s (s : Str) (y : T) (h : Hh) : oNeD (.str s) y h = oNe (.str s) y h := by unfold oNeD; simp [dicB]
theorem fdAt_some {fm : Fm} (o : FmOk fm) {p : Str × Fd} (hp : p ∈ fm.fields) : fdAt fm (.str p.1) = some p := by
  unfold fdAt
  simp only []
  have nd : (fm.fields.map Prod.fst).Nodup := o.fn.nd
  generalize fm.fields = ps at hp nd
  induction ps with
  | nil => cases hp
  | cons q ps ih =>
    rw [List.map_cons, List.nodup_cons] at nd
    rcases List.mem_cons.mp hp with z | z
    · subst z; simp
    · have hne : ¬ q.1 = p.1 := fun e => nd.1 (e ▸ List.mem_map.mpr ⟨p, z, rfl⟩)
      rw [List.find?_cons, show decide (q.1 = p.1) = false by simpa using hne]
      exact ih z nd.2
theorem same_flat {h : Hh} {n : Nat} {t : T} (f : flatT t = true) : SameV h n t t := by
  cases n with
  | zero => exact ⟨rfl, f⟩
  | succ n => exact .inl ⟨rfl, f⟩
theorem SameV.ext {h h' : Hh} (e : ∀ (k : Nat) (o : Ob), h[k]? = some o → h'[k]? = some o) : ∀ {n : Nat} {t u : T}, SameV h n t u → SameV h' n t u
  | 0, _, _, q => q
  | n + 1, _, _, q => by
    rcases q with q | ⟨ts, us, hk, hl, hz, hs⟩
    · exact .inl q
    · have ll : ∀ {t : T} {ts : List T}, LstT h t ts → LstT h' t ts := fun {t ts} z => by
        rcases z with ⟨l, rfl, z⟩ | rfl
        · exact .inl ⟨l, rfl, lstAt_of (e _ _ (of_lstAt z))⟩
        · exact .inr rfl
      refine .inr ⟨ts, us, ?_, hl, hz, fun i x y ex ey => (hs i x y ex ey).ext e⟩
      rcases hk with z | ⟨z1, z2⟩
      · exact .inl z
      · exact .inr ⟨ll z1, ll z2⟩
theorem SameV.up {h : Hh} : ∀ {n : Nat} {t u : T}, SameV h n t u → SameV h (n + 1) t u
  | 0, _, _, q => .inl q
  | n + 1, _, _, q => by
    rcases q with q | ⟨ts, us, hk, hl, hz, hs⟩
    · exact .inl q
    · exact .inr ⟨ts, us, hk, hl, hz, fun i x y ex ey => (hs i x y ex ey).up⟩
end W3
end

section
namespace W3
open PySem
theorem PureT.up : ∀ {n : Nat} {t : T}, PureT n t → PureT (n + 1) t
  | 0, _, h => .inl h
  | n + 1, _, h => by
    rcases h with h | ⟨ts, rfl, hl, hs⟩
    · exact .inl h
    · exact .inr ⟨ts, rfl, hl, fun x hx => (hs x hx).up⟩
theorem PureT.add {n : Nat} {t : T} (h : PureT n t) : ∀ k, PureT (n + k) t
  | 0 => h
  | k + 1 => (h.add k).up
theorem PureT.tup {n : Nat} {ts : List T} (hl : ts.length ≤ 100000) (h : ∀ x ∈ ts, PureT n x) : PureT (n + 1) (.tup ts) := .inr ⟨ts, rfl, hl, h⟩
theorem pure_flat {n : Nat} {t : T} (h : flatT t = true) : PureT n t := by
  cases n with
  | zero => exact h
  | succ n => exact .inl h
theorem pure_row {n k : Nat} {r : List Ent} (ro : RowOk k r) (hk : k ≤ 1000) : PureT (n + 1) (tRow r) :=
  PureT.tup (by rw [List.length_map, ro.len]; omega) fun x hx => by
    obtain ⟨e, _, rfl⟩ := List.mem_map.mp hx
    cases e <;> exact pure_flat rfl
theorem pure_near {n k : Nat} {ns : List Str} {nm : Str} {nr : Nr} (o : NrOk k ns nm nr) (hk : k ≤ 1000) : PureT (n + 2) nr.tNear := by
  cases nr with
  | alone r => exact (pure_row (n := n) o hk).up
  | looks g rs =>
    obtain ⟨_, _, hl, hr⟩ := o
    refine PureT.tup (by rw [List.length_map, hl]; omega) fun t ht => ?_
    obtain ⟨r, hr', rfl⟩ := List.mem_map.mp ht
    exact pure_row (hr r hr') hk
theorem pure_fd {ws ns : List Str} {nm : Str} {fd : Fd} (o : FdOk ws ns nm fd) (hw : ws.length ≤ 1000) : PureT 3 fd.t := by
  refine PureT.tup (by simp [Fd.ts]) fun t ht => ?_
  simp [Fd.ts] at ht
  rcases ht with rfl | rfl | rfl | rfl
  · exact pure_flat rfl
  · cases hn : fd.nr <;> exact pure_flat rfl
  · exact pure_near (n := 0) o.nr hw
  · cases hf : fd.far with
    | none => exact pure_flat rfl
    | some r => exact pure_row (n := 1) (o.far r hf) hw
theorem pure_tF {fm : Fm} (o : FmOk fm) : PureT 5 fm.tF := by
  have w3 := o.w3; have f3 := o.f3
  refine PureT.tup (by rw [List.length_map]; omega) fun t ht => ?_
  obtain ⟨p, hp, rfl⟩ := List.mem_map.mp ht
  refine PureT.tup (by simp) fun t ht => ?_
  simp at ht
  rcases ht with rfl | rfl
  · exact pure_flat rfl
  · exact pure_fd (o.fs p hp) (by omega)
theorem FormAt.upK {h h' : Hh} {l a : Nat} {fm : Fm} (e : FormAt h a fm) (u : Up l h h') (hne : a ≠ l) : FormAt h' a fm := by
  unfold FormAt
  rw [u.keep a e.lt hne]
  exact e
end W3
end

section
namespace W3
open PySem
@[simp] theorem e_siEnum (a : SA) (σ : St3) (h : Hh) : siEnum a σ h = (a σ h).bind enumOf := Eq.trans rfl rfl
@[simp] theorem enumL_len (k : Nat) (ts : List T) : (enumL k ts).length = ts.length := by
  induction ts generalizing k with
  | nil => rfl
  | cons t ts ih => simp [enumL, ih]
end W3
end

section
namespace W3
open PySem
def wordsB (fm : Fm) (v : T) : Bool := match v with | .tup ts => decide (ts.length = fm.fields.length) && ts.all (fun t => oneB t fm.words) | _ => false
end W3
end

section
namespace W3
open PySem
end W3
end

section
namespace W3
open PySem
@[simp] theorem e_ssForH (si : SI) (g : SGH) (b : SS) (σ : St3) (h : Hh) : ssForH si g b σ h = (si σ h).flo σ fun s h1 => forRunH s g b (s.len h1) 0 σ h1 := Eq.trans rfl rfl
def PickAt (h : Hh) (l : Nat) (t : T) : Prop := ∃ (r : Nat) (a b c : Int), t = .ref r ∧ lstAt h r = some [.int a, .int b, .int c] ∧ r ≠ l
theorem PickAt.up {h h' : Hh} {l : Nat} {t : T} (p : PickAt h l t) (u : Up l h h') : PickAt h' l t := by
  obtain ⟨r, a, b, c, rfl, e, hne⟩ := p
  exact ⟨r, a, b, c, rfl, u.lst e hne, hne⟩
end W3
end

section
namespace W3
open PySem
def flatJ : T → Prop | .non => True | .bl _ => True | .int _ => True | .str s => s.length ≤ 1000 | _ => False
def GV (l : Nat) (h : Hh) : Nat → T → Prop
  | 0, t => flatJ t
  | n + 1, t => flatJ t ∨ (∃ ts, t = .tup ts ∧ ts.length ≤ 1000 ∧ ∀ x ∈ ts, GV l h n x) ∨ ∃ r ts, t = .ref r ∧ r ≠ l ∧ lstAt h r = some ts ∧ ts.length ≤ 1000 ∧ ∀ x ∈ ts, GV l h n x
theorem flatJ.flat {t : T} (h : flatJ t) : flatT t = true := by cases t <;> first | rfl | exact h.elim
theorem flatJ.jdN {t : T} {n : Nat} {h : Hh} (f : flatJ t) : JdN n t h := by
  cases t with
  | non => exact jdN_non
  | bl b => exact jdN_bl
  | int i => exact jdN_int
  | str s => exact jdN_str f
  | _ => exact f.elim
theorem GV.flat {l : Nat} {h : Hh} {n : Nat} {t : T} (f : flatJ t) : GV l h n t := by
  cases n with
  | zero => exact f
  | succ n => exact .inl f
theorem GV.tup {l : Nat} {h : Hh} {n : Nat} {ts : List T} (hl : ts.length ≤ 1000) (g : ∀ x ∈ ts, GV l h n x) : GV l h (n + 1) (.tup ts) := .inr (.inl ⟨ts, rfl, hl, g⟩)
theorem GV.lst {l : Nat} {h : Hh} {n r : Nat} {ts : List T} (hr : r ≠ l) (e : lstAt h r = some ts) (hl : ts.length ≤ 1000) (g : ∀ x ∈ ts, GV l h n x) : GV l h (n + 1) (.ref r) := .inr (.inr ⟨r, ts, rfl, hr, e, hl, g⟩)
theorem GV.up {l : Nat} {h h' : Hh} (u : Up l h h') : ∀ {n : Nat} {t : T}, GV l h n t → GV l h' n t
  | 0, _, g => g
  | n + 1, _, g => by
    rcases g with g | ⟨ts, rfl, hl, g⟩ | ⟨r, ts, rfl, hr, e, hl, g⟩
    · exact .inl g
    · exact .inr (.inl ⟨ts, rfl, hl, fun x hx => (g x hx).up u⟩)
    · exact .inr (.inr ⟨r, ts, rfl, hr, u.lst e hr, hl, fun x hx => (g x hx).up u⟩)
theorem GV.same {l : Nat} {h : Hh} : ∀ {n : Nat} {t : T}, GV l h n t → SameV h n t t
  | 0, _, g => ⟨rfl, flatJ.flat g⟩
  | n + 1, _, g => by
    rcases g with g | ⟨ts, rfl, hl, g⟩ | ⟨r, ts, rfl, hr, e, hl, g⟩
    · exact .inl ⟨rfl, flatJ.flat g⟩
    · refine .inr ⟨ts, ts, .inl ⟨rfl, rfl⟩, rfl, by omega, fun i x y ex ey => ?_⟩
      rw [ex] at ey; cases ey
      exact (g x (List.mem_of_getElem? ex)).same
    · refine .inr ⟨ts, ts, .inr ⟨.inl ⟨r, rfl, e⟩, .inl ⟨r, rfl, e⟩⟩, rfl, by omega, fun i x y ex ey => ?_⟩
      rw [ex] at ey; cases ey
      exact (g x (List.mem_of_getElem? ex)).same
theorem GV.jdN {l : Nat} {h : Hh} : ∀ {n : Nat} {t : T} {m : Nat}, GV l h n t → JdN m t h
  | 0, _, _, g => flatJ.jdN g
  | n + 1, _, m, g => by
    rcases g with g | ⟨ts, rfl, hl, g⟩ | ⟨r, ts, rfl, hr, e, hl, g⟩
    · exact flatJ.jdN g
    · cases m with
      | zero => exact hl
      | succ m => exact ⟨hl, fun us e t ht => by cases e; exact (g t ht).jdN⟩
    · exact jdN_ref (Jd_lst e)
theorem GV.jd {l : Nat} {h : Hh} {n : Nat} {t : T} (g : GV l h n t) : Jd t h := (g.jdN (m := 0))
theorem GV.more {l : Nat} {h : Hh} : ∀ {n : Nat} {t : T}, GV l h n t → GV l h (n + 1) t
  | 0, _, g => .inl g
  | n + 1, _, g => by
    rcases g with g | ⟨ts, rfl, hl, g⟩ | ⟨r, ts, rfl, hr, e, hl, g⟩
    · exact .inl g
    · exact .inr (.inl ⟨ts, rfl, hl, fun x hx => (g x hx).more⟩)
    · exact .inr (.inr ⟨r, ts, rfl, hr, e, hl, fun x hx => (g x hx).more⟩)
end W3
end

section
namespace W3
open PySem
def G0 (l b : Nat) (h : Hh) (t : T) : Prop := match t with
  | .ref r => r ≠ l ∧ ((∃ ts, h[r]? = some (.lst ts)) ∨ ∃ d, h[r]? = some (.dic d))
  | .cls _ => False
  | .fl _ => False
  | .str s => s.length ≤ 1000
  | .tup ts => ts.length ≤ b
  | _ => True
def GJ (l b : Nat) (h : Hh) : Nat → T → Prop
  | 0, t => G0 l b h t
  | n + 1, t => G0 l b h t ∧ ∀ ts, t = .tup ts → ∀ x ∈ ts, GJ l b h n x
def GA (l b : Nat) (h : Hh) (t : T) : Prop := ∀ n, GJ l b h n t
section
variable {l b : Nat} {h h' : Hh} {t : T}
theorem GJ.g0 {n : Nat} (g : GJ l b h n t) : G0 l b h t := by
  cases n with
  | zero => exact g
  | succ n => exact g.1
theorem GA.g0 (g : GA l b h t) : G0 l b h t := g 0
theorem GA.of0 (g : G0 l b h t) (hn : ∀ ts, t ≠ .tup ts) : GA l b h t := fun n => by
  cases n with
  | zero => exact g
  | succ n => exact ⟨g, fun ts e => absurd e (hn ts)⟩
theorem GA.non : GA l b h .non := .of0 trivial fun _ e => by cases e
theorem GA.bl {x : Bool} : GA l b h (.bl x) := .of0 trivial fun _ e => by cases e
theorem GA.int {x : Int} : GA l b h (.int x) := .of0 trivial fun _ e => by cases e
theorem GA.str {x : Str} (hs : x.length ≤ 1000) : GA l b h (.str x) := .of0 hs fun _ e => by cases e
theorem GA.lst {r : Nat} {ts : List T} (hr : r ≠ l) (e : lstAt h r = some ts) : GA l b h (.ref r) := .of0 ⟨hr, .inl ⟨ts, of_lstAt e⟩⟩ fun _ e => by cases e
theorem GA.dic {r : Nat} {d : List (T × T)} (hr : r ≠ l) (e : h[r]? = some (.dic d)) : GA l b h (.ref r) := .of0 ⟨hr, .inr ⟨d, e⟩⟩ fun _ e => by cases e
theorem GA.tup {ts : List T} (hl : ts.length ≤ b) (g : ∀ x ∈ ts, GA l b h x) : GA l b h (.tup ts) := fun n => by
  cases n with
  | zero => exact hl
  | succ n => exact ⟨hl, fun us e x hx => by cases e; exact g x hx n⟩
theorem GA.mem {ts : List T} (g : GA l b h (.tup ts)) {x : T} (hx : x ∈ ts) : GA l b h x := fun n => (g (n + 1)).2 ts rfl x hx
theorem GA.len {ts : List T} (g : GA l b h (.tup ts)) : ts.length ≤ b := g.g0
theorem G0.more {b' : Nat} (hb : b ≤ b') (g : G0 l b h t) : G0 l b' h t := by
  cases t with
  | tup ts => exact Nat.le_trans g hb
  | _ => exact g
theorem GJ.more {b' : Nat} (hb : b ≤ b') : ∀ {n : Nat} {t : T}, GJ l b h n t → GJ l b' h n t
  | 0, _, g => G0.more hb g
  | n + 1, _, g => ⟨G0.more hb g.1, fun ts e x hx => (g.2 ts e x hx).more hb⟩
theorem GA.more {b' : Nat} (g : GA l b h t) (hb : b ≤ b') : GA l b' h t := fun n => (g n).more hb
theorem G0.up (u : Up l h h') (g : G0 l b h t) : G0 l b h' t := by
  cases t with
  | ref r =>
    obtain ⟨hr, g⟩ := g
    refine ⟨hr, ?_⟩
    have hl : r < h.length := by rcases g with ⟨_, e⟩ | ⟨_, e⟩ <;> exact (List.getElem?_eq_some_iff.mp e).1
    rw [u.keep r hl hr]
    exact g
  | _ => exact g
theorem GJ.up (u : Up l h h') : ∀ {n : Nat} {t : T}, GJ l b h n t → GJ l b h' n t
  | 0, _, g => G0.up u g
  | n + 1, _, g => ⟨G0.up u g.1, fun ts e x hx => (g.2 ts e x hx).up u⟩
theorem GA.up (g : GA l b h t) (u : Up l h h') : GA l b h' t := fun n => (g n).up u
theorem G0.jd (hb : b ≤ 1000) (g : G0 l b h t) : Jd t h := by
  cases t with
  | ref r => exact g.2
  | tup ts => exact Nat.le_trans g hb
  | cls c => exact g.elim
  | fl c => exact g.elim
  | str s => exact g
  | _ => trivial
theorem GJ.jdN (hb : b ≤ 1000) : ∀ {n : Nat} {t : T}, GJ l b h n t → JdN n t h
  | 0, _, g => G0.jd hb g
  | n + 1, _, g => ⟨G0.jd hb g.1, fun ts e x hx => (g.2 ts e x hx).jdN hb⟩
theorem GA.jdN {n : Nat} (g : GA l b h t) (hb : b ≤ 1000) : JdN n t h := (g n).jdN hb
theorem GA.jd (g : GA l b h t) (hb : b ≤ 1000) : Jd t h := g.g0.jd hb
theorem cutT_mem {α : Type} {xs : List α} {lo hi : Option Int} {x : α} (hx : x ∈ cutT xs lo hi) : x ∈ xs := by
  unfold cutT at hx
  exact List.mem_of_mem_drop (List.mem_of_mem_take hx)
theorem GA.cut {ts : List T} (g : ∀ x ∈ ts, GA l b h x) {lo hi : Option Int} : ∀ x ∈ cutT ts lo hi, GA l b h x := fun x hx => g x (cutT_mem hx)
end
theorem GA.ent {l b : Nat} {h : Hh} {k : Nat} {r : List Ent} {e : Ent} (ro : RowOk k r) (he : e ∈ r) : GA l b h (tE e) := by
  cases e with
  | none => exact .non
  | some s => exact .str (ro.nm s he).short
theorem GA.row {l b : Nat} {h : Hh} {k : Nat} {r : List Ent} (ro : RowOk k r) (hk : k ≤ b) : GA l b h (tRow r) :=
  .tup (by rw [List.length_map, ro.len]; exact hk) fun t ht => by
    obtain ⟨e, he, rfl⟩ := List.mem_map.mp ht
    exact .ent ro he
theorem GA.fd {l b : Nat} {h : Hh} {ws ns : List Str} {nm : Str} {fd : Fd} (o : FdOk ws ns nm fd) (hw : ws.length ≤ b) (wn : NmL ws) (nn : NmL ns) : ∀ t ∈ fd.ts, GA l b h t := by
  intro t ht
  simp [Fd.ts] at ht
  rcases ht with rfl | rfl | rfl | rfl
  · exact .str (wn.nm _ o.first).short
  · cases hn : fd.nr with
    | alone r => exact .non
    | looks g rs =>
      have nk := o.nr
      rw [hn] at nk
      exact .str (nn.nm g nk.1).short
  · have nk := o.nr
    cases hn : fd.nr with
    | alone r => rw [hn] at nk; exact .row nk hw
    | looks g rs =>
      rw [hn] at nk
      refine .tup (by rw [List.length_map, nk.2.2.1]; exact hw) fun t ht => ?_
      obtain ⟨r, hr, rfl⟩ := List.mem_map.mp ht
      exact .row (nk.2.2.2 r hr) hw
  · cases hf : fd.far with
    | none => exact .non
    | some r => exact .row (o.far r hf) hw
def PairsG (l b : Nat) (h : Hh) (ts : List T) : Prop := ∀ x ∈ ts, ∃ nm fd, x = .tup [.str nm, fd] ∧ nm.length ≤ 8 ∧ GA l b h fd
theorem PairsG.up {l b : Nat} {h h' : Hh} {ts : List T} (p : PairsG l b h ts) (u : Up l h h') : PairsG l b h' ts := fun x hx => by
  obtain ⟨nm, fd, e, hn, g⟩ := p x hx
  exact ⟨nm, fd, e, hn, g.up u⟩
theorem PairsG.more {l b b' : Nat} {h : Hh} {ts : List T} (p : PairsG l b h ts) (hb : b ≤ b') : PairsG l b' h ts := fun x hx => by
  obtain ⟨nm, fd, e, hn, g⟩ := p x hx
  exact ⟨nm, fd, e, hn, g.more hb⟩
theorem PairsG.ga {l b : Nat} {h : Hh} {ts : List T} (p : PairsG l b h ts) (hb : 2 ≤ b) : ∀ x ∈ ts, GA l b h x := fun x hx => by
  obtain ⟨nm, fd, rfl, hn, g⟩ := p x hx
  refine .tup (by simpa using hb) fun y hy => ?_
  simp at hy
  rcases hy with rfl | rfl
  · exact .str (by omega)
  · exact g
end W3
end

section
namespace W3
open PySem
theorem idx_of_nodup {ss : List Str} (nd : ss.Nodup) {i : Nat} {w : Str} (e : ss[i]? = some w) : ss.idxOf w = i := by
  obtain ⟨hi, rfl⟩ := List.getElem?_eq_some_iff.mp e
  exact List.Nodup.idxOf_getElem nd i hi
def wIx (fm : Fm) (w : Str) : Nat := fm.words.idxOf w
def fIx (fm : Fm) (n : Str) : Nat := fm.names.idxOf n
def wAt (fm : Fm) (ss : List Str) (n : Str) : Str := (ss[fIx fm n]?).getD ⟨#[]⟩
def rowAt (r : List Ent) (i : Nat) : Ent := (r[i]?).getD none
def nearV (fm : Fm) (ss : List Str) (p : Str × Fd) : Ent := match p.2.nr with
  | .alone r => rowAt r (wIx fm (wAt fm ss p.1))
  | .looks g rs => rowAt ((rs[wIx fm (wAt fm ss p.1)]?).getD []) (wIx fm (wAt fm ss g))
def farV (fm : Fm) (p : Str × Fd) (w : Str) : Ent := match p.2.far with
  | none => none
  | some r => rowAt r (wIx fm w)
def trueV (fm : Fm) (ss : List Str) (p : Str × Fd) : Ent := match nearV fm ss p with
  | none => farV fm p (wAt fm ss p.1)
  | some m => some m
structure WsOk (fm : Fm) (ss : List Str) : Prop where
  len : ss.length = fm.fields.length
  mem : ∀ s ∈ ss, s ∈ fm.words
theorem WsOk.b {fm : Fm} {ss : List Str} (o : WsOk fm ss) : wordsB fm (.tup (tSs ss)) = true := by
  simp only [wordsB, List.length_map, o.len, decide_true, Bool.true_and, List.all_eq_true]
  intro t ht
  obtain ⟨s, hs, rfl⟩ := List.mem_map.mp ht
  simp [oneB, o.mem s hs]
theorem WsOk.at {fm : Fm} {ss : List Str} (o : WsOk fm ss) {n : Str} (hn : n ∈ fm.names) : ss[fIx fm n]? = some (wAt fm ss n) ∧ wAt fm ss n ∈ fm.words := by
  have hl : fIx fm n < ss.length := by
    have := List.idxOf_lt_length_iff.mpr hn
    rw [o.len]; simpa [fIx, Fm.names] using this
  have e : ss[fIx fm n]? = some ss[fIx fm n] := by simp [hl]
  unfold wAt
  rw [e]
  exact ⟨rfl, o.mem _ (List.getElem_mem hl)⟩
theorem mem_names {fm : Fm} {p : Str × Fd} (hp : p ∈ fm.fields) : p.1 ∈ fm.names := List.mem_map.mpr ⟨p, hp, rfl⟩
theorem findE_strs (w : Str) : ∀ (ss : List Str) (k : Nat), w ∈ ss → findE (.str w) (ss.map PyData.str) k = some (k + ss.idxOf w)
  | [], _, h => by cases h
  | s :: ss, k, h => by
    rw [List.map_cons]
    unfold findE
    have : PyData.eqv (.str s) (.str w) = decide (s = w) := by rw [PyData.eqv]; rfl
    rw [this, List.idxOf_cons]
    by_cases q : s = w
    · simp [q]
    · have h2 : w ∈ ss := by
        rcases List.mem_cons.mp h with z | z
        · exact absurd z.symm q
        · exact z
      have e1 : (s == w) = false := by simpa using q
      simp [q, e1]
      rw [findE_strs w ss (k + 1) h2]
      congr 1; omega
@[simp] theorem isT_tup (ts : List T) : isT (.tup ts) = true := Eq.trans rfl rfl
@[simp] theorem e_sMtA (f : T → List T → Hh → Res T) (o : SE) (a : SA) (σ : St3) (h : Hh) : sMtA f o a σ h = (o σ h).bind fun x h1 => if (isL x h1 || isT x) = true then (a σ h1).bind fun xs h2 => f x xs h2 else .stk := Eq.trans rfl rfl
theorem index_tup {w : Str} {ss : List Str} {h : Hh} (hw : w ∈ ss) : mIndex (.tup (tSs ss)) [.str w] h = .ok (.int (ss.idxOf w : Nat)) h := by
  have e1 : toD h 24 (.tup (tSs ss)) = some (.tuple (ss.map PyData.str)) := by
    show (optL (toD h 23) (tSs ss)).map PyData.tuple = _
    rw [optL_strs h 22]; rfl
  have e2 : toD h 24 (.str w) = some (.str w) := rfl
  unfold mIndex
  simp only [e1, e2, findE_strs w ss 0 hw, Nat.zero_add]
theorem init_fm {f : Fn} (I : InitE f) {fm : Fm} {W V : T} {h hh : Hh} {n : Nat} {Q : T → Hh → Prop} {E : EQ} (o : FmOk fm) (eh : hh = h ++ [.ins "Form" []]) (en : n = h.length) (eW : W = fm.tW) (eV : V = fm.tF) (hq : ∀ o : Hh, FormAt (h ++ o) h.length fm → Q .non (h ++ o)) : (f [.ref n, W, V, .int fm.room] hh).wp Q E := by
  subst eh en eW eV
  have w3 := o.w3
  exact init_ans I (jdN_names o.wn (by omega)) (jdN_fm o) jdN_int (fun _ o2 fa => hq o2 fa) (fun p n e => by rw [initErr_fm o] at e; cases e)
end W3
end

section
namespace W3
open PySem
abbrev Prs := List (Str × Str)
def tPr (p : Str × Str) : T := .tup [.str p.1, .str p.2]
def dPr (p : Str × Str) : PyData := .tuple [.str p.1, .str p.2]
abbrev leP (p q : Str × Str) : Bool := PySem.W.dataLe false dPr p q
def sortP (ps : Prs) : Prs := ps.mergeSort leP
@[simp] theorem e_sorted_tup (ts : List T) (h : Hh) : bSorted [.tup ts] h = bSortI ts h := Eq.trans rfl rfl
@[simp] theorem e_sorted_ref (l : Nat) (h : Hh) : bSorted [.ref l] h = match lstAt h l with | some ts => bSortI ts h | none => .stk := Eq.trans rfl rfl
@[simp] theorem e_siZip (a : SA) (σ : St3) (h : Hh) : siZip a σ h = (a σ h).bind zipOf := Eq.trans rfl rfl
def namePairB (t : T) : Bool := match t with | .tup [.str a, .str b] => nmB a && nmB b && !decide (a = b) | _ => false
def prOf (t : T) : Str × Str := match t with | .tup [.str a, .str b] => (a, b) | _ => (⟨#[]⟩, ⟨#[]⟩)
def pairsB (v : T) : Bool := match v with | .tup ts => ts.all namePairB && decide ((ts.map prOf).Nodup) | _ => false
structure PrsOk (ps : Prs) : Prop where
  nd : ps.Nodup
  nm : ∀ p ∈ ps, Nm p.1 ∧ Nm p.2 ∧ p.1 ≠ p.2
theorem prOf_tPr (ps : Prs) : (ps.map tPr).map prOf = ps := by
  rw [List.map_map]
  exact List.map_id' ps
theorem pairsB_prs {ps : Prs} (o : PrsOk ps) : pairsB (.tup (ps.map tPr)) = true := by
  simp only [pairsB, prOf_tPr, o.nd, decide_true, Bool.and_true, List.all_map, List.all_eq_true]
  intro p hp
  obtain ⟨h1, h2, h3⟩ := o.nm p hp
  simp [namePairB, tPr, nmB_iff.mpr h1, nmB_iff.mpr h2, h3]
def MEN : List (Str × List Str) := [("opens", ["enter", "leave", "send"]), ("checks", ["enter", "leave"]), ("around", ["own", "looks"]), ("taken", ["any", "same", "last"]), ("sending", ["bar", "wait", "go"])]
def fitsB (part : Str) (v : T) : Bool := if part = "wipes" then isBl v else (decide (part = "around") && pairsB v) || (match MEN.lookup part with | some ss => oneB v ss | none => false)
def PARTSL : List Str := ["opens", "checks", "around", "wipes", "taken", "sending"]
def ruleErr : List Str → List T → Option Str
  | p :: ps, v :: vs => if fitsB p v = false then some p else ruleErr ps vs
  | _, _ => none
def sortAro (v : T) : T := match v with | .tup ts => .tup ((sortP (ts.map prOf)).map tPr) | v => v
def ruleIns (o c a w t s : T) : List (Str × T) := [("opens", o), ("checks", c), ("around", sortAro a), ("wipes", w), ("taken", t), ("sending", s)]
def shortT (v : T) : Prop := ∀ ts, v = .tup ts → ts.length < 64
inductive Aro where | word (s : Str) | pairs (ps : Prs)
def Aro.t : Aro → T | .word s => .str s | .pairs ps => .tup (ps.map tPr)
structure Ru where
  opens : Str
  checks : Str
  around : Aro
  wipes : Bool
  taken : Str
  sending : Str
structure RuOk (r : Ru) : Prop where
  o : r.opens ∈ (["enter", "leave", "send"] : List Str)
  c : r.checks ∈ (["enter", "leave"] : List Str)
  aw : ∀ s, r.around = .word s → s ∈ (["own", "looks"] : List Str)
  ap : ∀ ps, r.around = .pairs ps → PrsOk ps ∧ ps.length < 64 ∧ sortP ps = ps
  t : r.taken ∈ (["any", "same", "last"] : List Str)
  s : r.sending ∈ (["bar", "wait", "go"] : List Str)
def Ru.ins (r : Ru) : List (Str × T) := [("opens", .str r.opens), ("checks", .str r.checks), ("around", r.around.t), ("wipes", .bl r.wipes), ("taken", .str r.taken), ("sending", .str r.sending)]
def RuleAt (h : Hh) (l : Nat) (r : Ru) : Prop := h[l]? = some (.ins "Rule" r.ins)
theorem RuleAt.lt {h : Hh} {l : Nat} {r : Ru} (e : RuleAt h l r) : l < h.length := (List.getElem?_eq_some_iff.mp e).1
theorem RuleAt.app {h : Hh} {l : Nat} {r : Ru} (e : RuleAt h l r) (o : Hh) : RuleAt (h ++ o) l r := by
  unfold RuleAt
  rw [List.getElem?_append_left e.lt]
  exact e
theorem RuleAt.upK {h h' : Hh} {l a : Nat} {r : Ru} (e : RuleAt h a r) (u : Up l h h') (hne : a ≠ l) : RuleAt h' a r := by
  unfold RuleAt
  rw [u.keep a e.lt hne]
  exact e
theorem RuleAt.ins {h : Hh} {l : Nat} {r : Ru} (e : RuleAt h l r) : insAt h l = some (("Rule" : Str), r.ins) := insAt_of e
end W3
end

section
namespace W3
open PySem
def Fm.firsts (fm : Fm) : List Str := fm.fields.map fun p => p.2.first
def stepIns (d b a e : T) : List (Str × T) := [("deed", d), ("before", b), ("after", a), ("events", e)]
def StepAt (h : Hh) (l : Nat) (d b a e : T) : Prop := h[l]? = some (.ins "Step" (stepIns d b a e))
theorem StepAt.lt {h : Hh} {l : Nat} {d b a e : T} (q : StepAt h l d b a e) : l < h.length := (List.getElem?_eq_some_iff.mp q).1
theorem StepAt.app {h : Hh} {l : Nat} {d b a e : T} (q : StepAt h l d b a e) (o : Hh) : StepAt (h ++ o) l d b a e := by
  unfold StepAt
  rw [List.getElem?_append_left q.lt]
  exact q
theorem StepAt.ins {h : Hh} {l : Nat} {d b a e : T} (q : StepAt h l d b a e) : insAt h l = some (("Step" : Str), stepIns d b a e) := insAt_of q
theorem firsts_len (fm : Fm) : fm.firsts.length = fm.fields.length := List.length_map _
end W3
end

section
namespace W3
open PySem
end W3
end

section
namespace W3
open PySem
def parT (fm : Fm) : T := .tup [fm.tW, .tup (fm.fields.map tPair), .int fm.room]
def farNames (fm : Fm) : List Str := (fm.fields.filter fun p => p.2.far.isSome).map Prod.fst
theorem far_mem {fm : Fm} {s : Str} (h : s ∈ farNames fm) : ∃ p ∈ fm.fields, p.2.far.isSome = true ∧ p.1 = s := by
  obtain ⟨p, hp, rfl⟩ := List.mem_map.mp h
  obtain ⟨h1, h2⟩ := List.mem_filter.mp hp
  exact ⟨p, h1, h2, rfl⟩
end W3
end

section
namespace W3
open PySem
def GF (t : T) : Prop := ∀ (l : Nat) (h : Hh), GA l 100 h t
theorem GF.str {s : Str} (h : s.length ≤ 1000) : GF (.str s) := fun _ _ => .str h
theorem GF.non : GF .non := fun _ _ => .non
theorem GF.bl {b : Bool} : GF (.bl b) := fun _ _ => .bl
theorem GF.int {i : Int} : GF (.int i) := fun _ _ => .int
theorem GF.tup {ts : List T} (hl : ts.length ≤ 100) (g : ∀ x ∈ ts, GF x) : GF (.tup ts) := fun l h => .tup hl fun x hx => g x hx l h
theorem GF.ent {k : Nat} {r : List Ent} {e : Ent} (ro : RowOk k r) (he : e ∈ r) : GF (tE e) := fun _ _ => .ent ro he
theorem GF.mem {ts : List T} (g : GF (.tup ts)) {x : T} (hx : x ∈ ts) : GF x := fun l h => (g l h).mem hx
end W3
end

section
namespace W3
open PySem
abbrev Kn := Option (Str × Ent)
abbrev Qn := Str × Str × Bool
def tK : Kn → T | none => .non | some (w, e) => .tup [.str w, tE e]
def tQ (q : Qn) : T := .tup [.str q.1, .str q.2.1, .bl q.2.2]
structure Sd where
  words : List Str
  shown : List Bool
  mess : List Ent
  known : List Kn
  quest : List Qn
  wait : Bool
def Sd.t (d : Sd) : T := .tup [.tup (tSs d.words), .tup (d.shown.map T.bl), .tup (d.mess.map tE), .tup (d.known.map tK), .tup (d.quest.map tQ), .bl d.wait]
def KnOk (fm : Fm) (p : Str × Fd) (k : Kn) : Prop := ∀ w e, k = some (w, e) → p.2.far.isSome = true ∧ w ∈ fm.words ∧ e = farV fm p w
def QnOk (fm : Fm) (q : Qn) : Prop := q.1 ∈ farNames fm ∧ q.2.1 ∈ fm.words
structure SdOk (fm : Fm) (snd : Str) (d : Sd) : Prop where
  ws : WsOk fm d.words
  sl : d.shown.length = fm.fields.length
  ml : d.mess.length = fm.fields.length
  mn : ∀ s, some s ∈ d.mess → Nm s
  kl : d.known.length = fm.fields.length
  kn : ∀ q ∈ fm.fields.zip d.known, KnOk fm q.1 q.2
  ql : (d.quest.length : Int) ≤ fm.room
  qn : ∀ q ∈ d.quest, QnOk fm q
  wt : d.wait = true → snd = "wait" ∧ d.quest ≠ []
theorem all_map {α : Type} {B : T → Bool} {f : α → T} {P : α → Prop} (st : ∀ t, B t = true → ∃ x, t = f x ∧ P x) : ∀ {ts : List T}, ts.all B = true → ∃ xs : List α, ts = xs.map f ∧ ∀ x ∈ xs, P x
  | [], _ => ⟨[], rfl, by simp⟩
  | t :: ts, h => by
    rw [List.all_cons, Bool.and_eq_true] at h
    obtain ⟨x, rfl, px⟩ := st t h.1
    obtain ⟨xs, rfl, pxs⟩ := all_map st h.2
    exact ⟨x :: xs, rfl, fun y hy => by
      rcases List.mem_cons.mp hy with rfl | z
      · exact px
      · exact pxs y z⟩
end W3
end

section
namespace W3
open PySem
structure Pl where
  w : Nat
  s : Nat
  m : Nat
  k : Nat
  q : Nat
  t : Nat
def Pl.all (p : Pl) : List Nat := [p.w, p.s, p.m, p.k, p.q, p.t]
def crsIns (lf lr : Nat) (p : Pl) (wt : Bool) : List (Str × T) := [("form", .ref lf), ("rule", .ref lr), ("words_now", .ref p.w), ("shown_fields", .ref p.s), ("messages", .ref p.m), ("far_words", .ref p.k), ("questions", .ref p.q), ("is_waiting", .bl wt), ("told", .ref p.t)]
structure CrsAt (n : Nat) (h : Hh) (a lf lr : Nat) (p : Pl) (d : Sd) (told : List T) : Prop where
  ins : h[a]? = some (.ins "Course" (crsIns lf lr p d.wait))
  ww : lstAt h p.w = some (tSs d.words)
  ss : lstAt h p.s = some (d.shown.map T.bl)
  mm : lstAt h p.m = some (d.mess.map tE)
  kk : lstAt h p.k = some (d.known.map tK)
  qq : lstAt h p.q = some (d.quest.map tQ)
  tt : lstAt h p.t = some told
  nd : p.all.Nodup
  la : n ≤ a
  lo : ∀ x ∈ p.all, n ≤ x
def Fz (n : Nat) (h h' : Hh) : Prop := h.length ≤ h'.length ∧ ∀ k, k < n → h'[k]? = h[k]?
theorem Fz.refl (n : Nat) (h : Hh) : Fz n h h := ⟨Nat.le_refl _, fun _ _ => rfl⟩
theorem Fz.trans {n : Nat} {h h1 h2 : Hh} (a : Fz n h h1) (b : Fz n h1 h2) : Fz n h h2 := ⟨Nat.le_trans a.1 b.1, fun k hk => (b.2 k hk).trans (a.2 k hk)⟩
theorem Fz.app {n : Nat} {h : Hh} (hn : n ≤ h.length) (o : Hh) : Fz n h (h ++ o) := ⟨by simp, fun k hk => List.getElem?_append_left (by omega)⟩
theorem Fz.set {n k : Nat} {h : Hh} (hn : n ≤ k) (o : Ob) : Fz n h (h.set k o) := ⟨by simp, fun j hj => by rw [List.getElem?_set_ne (by omega)]⟩
theorem Fz.out {h h' : Hh} (f : Fz h.length h h') : ∃ z, h' = h ++ z := by
  refine ⟨h'.drop h.length, ?_⟩
  apply List.ext_getElem?
  intro i
  by_cases hi : i < h.length
  · rw [f.2 i hi, List.getElem?_append_left hi]
  · rw [List.getElem?_append_right (by omega), List.getElem?_drop]
    congr 1
    omega
theorem FormAt.fz {n : Nat} {h h' : Hh} {l : Nat} {fm : Fm} (e : FormAt h l fm) (f : Fz n h h') (hl : l < n) : FormAt h' l fm := by
  unfold FormAt
  rw [f.2 l hl]
  exact e
theorem RuleAt.fz {n : Nat} {h h' : Hh} {l : Nat} {r : Ru} (e : RuleAt h l r) (f : Fz n h h') (hl : l < n) : RuleAt h' l r := by
  unfold RuleAt
  rw [f.2 l hl]
  exact e
section
variable {n : Nat} {h : Hh} {a lf lr : Nat} {p : Pl} {d : Sd} {told : List T}
theorem CrsAt.at (c : CrsAt n h a lf lr p d told) : insAt h a = some (("Course" : Str), crsIns lf lr p d.wait) := insAt_of c.ins
theorem CrsAt.alt (c : CrsAt n h a lf lr p d told) : a < h.length := (List.getElem?_eq_some_iff.mp c.ins).1
theorem CrsAt.nl (c : CrsAt n h a lf lr p d told) : n ≤ h.length := Nat.le_of_lt (Nat.lt_of_le_of_lt c.la c.alt)
theorem CrsAt.app (c : CrsAt n h a lf lr p d told) (o : Hh) : CrsAt n (h ++ o) a lf lr p d told where
  ins := by rw [List.getElem?_append_left c.alt]; exact c.ins
  ww := lstAt_app o c.ww
  ss := lstAt_app o c.ss
  mm := lstAt_app o c.mm
  kk := lstAt_app o c.kk
  qq := lstAt_app o c.qq
  tt := lstAt_app o c.tt
  nd := c.nd
  la := c.la
  lo := c.lo
theorem CrsAt.ne (c : CrsAt n h a lf lr p d told) {x : Nat} {ts : List T} (e : lstAt h x = some ts) : x ≠ a := by
  intro q
  subst q
  have := of_lstAt e
  rw [c.ins] at this
  cases this
theorem CrsAt.tell (c : CrsAt n h a lf lr p d told) (e : T) : CrsAt n (h.set p.t (.lst (told ++ [e]))) a lf lr p d (told ++ [e]) := by
  have nd := c.nd
  simp [Pl.all] at nd
  obtain ⟨⟨_, _, _, _, n1⟩, ⟨_, _, _, n2⟩, ⟨_, _, n3⟩, ⟨_, n4⟩, n5⟩ := nd
  exact ⟨by rw [List.getElem?_set_ne (c.ne c.tt)]; exact c.ins, by rw [lstAt_set_ne (Ne.symm n1)]; exact c.ww, by rw [lstAt_set_ne (Ne.symm n2)]; exact c.ss, by rw [lstAt_set_ne (Ne.symm n3)]; exact c.mm, by rw [lstAt_set_ne (Ne.symm n4)]; exact c.kk, by rw [lstAt_set_ne (Ne.symm n5)]; exact c.qq, by rw [lstAt_set_self (lstAt_lt c.tt)], c.nd, c.la, c.lo⟩
theorem CrsAt.wait (c : CrsAt n h a lf lr p d told) (b : Bool) : CrsAt n (h.set a (.ins "Course" (crsIns lf lr p b))) a lf lr p { d with wait := b } told :=
  ⟨by rw [List.getElem?_set_self c.alt], by rw [lstAt_set_ne (Ne.symm (c.ne c.ww))]; exact c.ww, by rw [lstAt_set_ne (Ne.symm (c.ne c.ss))]; exact c.ss, by rw [lstAt_set_ne (Ne.symm (c.ne c.mm))]; exact c.mm, by rw [lstAt_set_ne (Ne.symm (c.ne c.kk))]; exact c.kk, by rw [lstAt_set_ne (Ne.symm (c.ne c.qq))]; exact c.qq, by rw [lstAt_set_ne (Ne.symm (c.ne c.tt))]; exact c.tt, c.nd, c.la, c.lo⟩
end
end W3
end

section
namespace W3
open PySem
section
variable {n : Nat} {h : Hh} {a lf lr : Nat} {p : Pl} {d : Sd} {told : List T}
end
end W3
end

section
namespace W3
open PySem
theorem farV_nm {fm : Fm} (o : FmOk fm) {p : Str × Fd} (hp : p ∈ fm.fields) {w s : Str} (e : farV fm p w = some s) : Nm s := by
  unfold farV at e
  cases hf : p.2.far with
  | none => rw [hf] at e; cases e
  | some r =>
    rw [hf] at e
    simp only [rowAt] at e
    cases hr : r[wIx fm w]? with
    | none => rw [hr] at e; cases e
    | some x =>
      rw [hr] at e
      simp at e
      subst e
      exact ((o.fs p hp).far r hf).nm s (List.mem_of_getElem? hr)
end W3
end

section
namespace W3
open PySem
inductive Ev where
  | entered (n w : Str) | dropped | opened (n : Str) | wiped (n : Str) | checked (n : Str) (e : Ent) | asked (n w : Str)
  | answered (n w : Str) (e : Ent) (tk : Bool) | sent (ws : List Str) | waits | held | reset
def Ev.t : Ev → T
  | .entered n w => .tup [.str "entered", .str n, .str w]
  | .dropped => .tup [.str "dropped"]
  | .opened n => .tup [.str "opened", .str n]
  | .wiped n => .tup [.str "wiped", .str n]
  | .checked n e => .tup [.str "checked", .str n, tE e]
  | .asked n w => .tup [.str "asked", .str n, .str w]
  | .answered n w e tk => .tup [.str "answered", .str n, .str w, tE e, .bl tk]
  | .sent ws => .tup [.str "sent", .tup (tSs ws)]
  | .waits => .tup [.str "waits"]
  | .held => .tup [.str "held"]
  | .reset => .tup [.str "reset"]
abbrev tEs (es : List Ev) : List T := es.map Ev.t
def endV (d : Sd) (told : List Ev) : Sd × List Ev := if d.wait = true then ({ d with wait := false }, told ++ [.dropped]) else (d, told)
def resetV (fm : Fm) (d : Sd) (told : List Ev) : Sd × List Ev := endV { d with words := fm.firsts, shown := List.replicate fm.fields.length false, mess := List.replicate fm.fields.length none } (told ++ [.reset])
inductive Rz where
  | ok (d : Sd) (t : List Ev)
  | many (n : Str)
def Rz.bind : Rz → (Sd → List Ev → Rz) → Rz
  | .ok d t, k => k d t
  | .many n, _ => .many n
def nameAt (fm : Fm) (i : Nat) : Str := (fm.names[i]?).getD ⟨#[]⟩
def showC (fm : Fm) (i : Nat) (d : Sd) (told : List Ev) : Sd × List Ev := if d.shown[i]? = some false then ({ d with shown := d.shown.set i true }, told ++ [.opened (nameAt fm i)]) else (d, told)
def knEnt (w : Str) : Option Kn → Ent × Bool
  | some (some (v, e)) => if v = w then (e, false) else (none, true)
  | _ => (none, true)
def entryC (fm : Fm) (p : Str × Fd) (d : Sd) : Ent × Bool :=
  match nearV fm d.words p with
  | none => if p.2.far.isSome = true then knEnt (wAt fm d.words p.1) (d.known[fIx fm p.1]?) else (none, false)
  | some s => (some s, false)
def elder (n : Str) (q : Qn) : Qn := (q.1, q.2.1, q.2.2 && !decide (q.1 = n))
def askC (fm : Fm) (n w : Str) (d : Sd) (told : List Ev) : Rz :=
  if (n, w, true) ∈ d.quest then .ok d told
  else if (d.quest.length : Int) = fm.room then .many n
  else .ok { d with quest := d.quest.map (elder n) ++ [(n, w, true)] } (told ++ [.asked n w])
def checkC (fm : Fm) (p : Str × Fd) (d : Sd) (told : List Ev) : Rz :=
  if (entryC fm p d).2 = true then askC fm p.1 (wAt fm d.words p.1) { d with mess := d.mess.set (fIx fm p.1) (entryC fm p d).1 } (told ++ [.checked p.1 (entryC fm p d).1])
  else .ok { d with mess := d.mess.set (fIx fm p.1) (entryC fm p d).1 } (told ++ [.checked p.1 (entryC fm p d).1])
def checksC (fm : Fm) : List (Str × Fd) → Sd → List Ev → Rz
  | [], d, t => .ok d t
  | p :: ps, d, t => (checkC fm p d t).bind (checksC fm ps)
def looksAt : Nr → Option Str | .alone _ => none | .looks g _ => some g
def readsC (fm : Fm) (n : Str) : List (Str × Fd) := fm.fields.filter fun q => decide (looksAt q.2.nr = some n)
def foundC (fm : Fm) (r : Ru) (n : Str) : List (Str × Fd) := match r.around with
  | .word s => if s = "own" then [] else readsC fm n
  | .pairs ps => fm.fields.filter fun q => decide ((n, q.1) ∈ ps)
def openC (fm : Fm) (d : Sd) (p : Str × Fd) : Bool := (d.shown[fIx fm p.1]?).getD false
def withC (fm : Fm) (r : Ru) (n : Str) (d : Sd) : List (Str × Fd) := (foundC fm r n).filter (openC fm d)
def aroundL (fm : Fm) (r : Ru) (p : Str × Fd) (d : Sd) : List (Str × Fd) := (if openC fm d p = true then [p] else []) ++ withC fm r p.1 d
def aroundC (fm : Fm) (r : Ru) (p : Str × Fd) (d : Sd) (told : List Ev) : Rz := checksC fm (aroundL fm r p d) d told
def wipeC (r : Ru) (n : Str) (i : Nat) (d : Sd) (told : List Ev) : Sd × List Ev := if r.wipes = true ∧ (rowAt d.mess i).isSome = true then ({ d with mess := d.mess.set i none }, told ++ [.wiped n]) else (d, told)
def enter1 (fm : Fm) (p : Str × Fd) (w : Str) (d : Sd) (told : List Ev) : Sd × List Ev := endV { d with words := d.words.set (fIx fm p.1) w } (told ++ [.entered p.1 w])
def enter2 (fm : Fm) (r : Ru) (p : Str × Fd) (x : Sd × List Ev) : Sd × List Ev := if r.opens = "enter" then showC fm (fIx fm p.1) x.1 x.2 else x
def enterS (fm : Fm) (r : Ru) (p : Str × Fd) (w : Str) (d : Sd) (told : List Ev) : Sd × List Ev := wipeC r p.1 (fIx fm p.1) (enter2 fm r p (enter1 fm p w d told)).1 (enter2 fm r p (enter1 fm p w d told)).2
def enterC (fm : Fm) (r : Ru) (p : Str × Fd) (w : Str) (d : Sd) (told : List Ev) : Rz :=
  if wAt fm d.words p.1 = w then .ok d told
  else if r.checks = "enter" then aroundC fm r p (enterS fm r p w d told).1 (enterS fm r p w d told).2
  else .ok (enterS fm r p w d told).1 (enterS fm r p w d told).2
def leaveS (fm : Fm) (r : Ru) (p : Str × Fd) (d : Sd) (told : List Ev) : Sd × List Ev := if r.opens = "send" then (d, told) else showC fm (fIx fm p.1) d told
def leaveC (fm : Fm) (r : Ru) (p : Str × Fd) (d : Sd) (told : List Ev) : Rz := aroundC fm r p (leaveS fm r p d told).1 (leaveS fm r p d told).2
def showsC (fm : Fm) : Nat → Sd → List Ev → Sd × List Ev
  | 0, d, t => (d, t)
  | k + 1, d, t => showC fm k (showsC fm k d t).1 (showsC fm k d t).2
def hasErr (d : Sd) : Bool := d.mess.any fun e => e.isSome
def endSend (r : Ru) (d : Sd) (told : List Ev) : Sd × List Ev :=
  if hasErr d = true then (d, told ++ [.held])
  else if d.quest = [] ∨ r.sending = "go" then (d, told ++ [.sent d.words])
  else if r.sending = "wait" then ({ d with wait := true }, told ++ [.waits])
  else (d, told ++ [.held])
def sendC (fm : Fm) (r : Ru) (d : Sd) (told : List Ev) : Rz :=
  if d.wait = true then .ok d told
  else (checksC fm fm.fields (showsC fm fm.fields.length d told).1 (showsC fm fm.fields.length d told).2).bind fun d2 t2 => .ok (endSend r d2 t2).1 (endSend r d2 t2).2
def takenC (fm : Fm) (r : Ru) (p : Str × Fd) (w : Str) (nw : Bool) (d : Sd) : Bool := if r.taken = "any" then true else if r.taken = "same" then decide (wAt fm d.words p.1 = w) else nw
def takeMess (fm : Fm) (r : Ru) (p : Str × Fd) (w : Str) (d : Sd) : List Ent := if openC fm d p = true ∧ (¬ r.taken = "same" ∨ nearV fm d.words p = none) then d.mess.set (fIx fm p.1) (farV fm p w) else d.mess
def takeC (fm : Fm) (r : Ru) (p : Str × Fd) (w : Str) (nw : Bool) (d : Sd) : Sd := if takenC fm r p w nw d = true then { d with known := d.known.set (fIx fm p.1) (some (w, farV fm p w)), mess := takeMess fm r p w d } else d
def restC (d : Sd) (told : List Ev) : Sd × List Ev :=
  if d.wait = true ∧ d.quest = [] then ({ d with wait := false }, told ++ [if hasErr d = true then .held else .sent d.words]) else (d, told)
def answerP (fm : Fm) (r : Ru) (p : Str × Fd) (w : Str) (nw : Bool) (d : Sd) (told : List Ev) : Sd × List Ev :=
  restC (takeC fm r p w nw d) (told ++ [.answered p.1 w (farV fm p w) (takenC fm r p w nw d)])
def answerC (fm : Fm) (r : Ru) (i : Nat) (d : Sd) (told : List Ev) : Sd × List Ev := match d.quest[i]? with
  | none => (d, told)
  | some (n, w, nw) => match fdAt fm (.str n) with
    | none => (d, told)
    | some p => answerP fm r p w nw { d with quest := d.quest.eraseIdx i } told
inductive Dd where
  | enter (p : Str × Fd) (w : Str)
  | leave (p : Str × Fd)
  | send
  | answer (i : Nat)
  | reset
def Dd.t : Dd → T
  | .enter p w => .tup [.str "enter", .str p.1, .str w]
  | .leave p => .tup [.str "leave", .str p.1]
  | .send => .tup [.str "send"]
  | .answer i => .tup [.str "answer", .int i]
  | .reset => .tup [.str "reset"]
def DdOk (fm : Fm) : Dd → Prop
  | .enter p w => p ∈ fm.fields ∧ w ∈ fm.words
  | .leave p => p ∈ fm.fields
  | .send => True
  | .answer i => i < 3
  | .reset => True
def Rz.of (x : Sd × List Ev) : Rz := .ok x.1 x.2
def stepC (fm : Fm) (r : Ru) (D : Dd) (d : Sd) : Rz := match D with
  | .enter p w => enterC fm r p w d []
  | .leave p => leaveC fm r p d []
  | .send => sendC fm r d []
  | .answer i => .of (answerC fm r i d [])
  | .reset => .of (resetV fm d [])
structure SdW (fm : Fm) (d : Sd) : Prop where
  ws : WsOk fm d.words
  sl : d.shown.length = fm.fields.length
  ml : d.mess.length = fm.fields.length
  mn : ∀ s, some s ∈ d.mess → Nm s
  kl : d.known.length = fm.fields.length
  kn : ∀ q ∈ fm.fields.zip d.known, KnOk fm q.1 q.2
  ql : (d.quest.length : Int) ≤ fm.room
  qn : ∀ q ∈ d.quest, QnOk fm q
theorem SdOk.w {fm : Fm} {s : Str} {d : Sd} (h : SdOk fm s d) : SdW fm d := ⟨h.ws, h.sl, h.ml, h.mn, h.kl, h.kn, h.ql, h.qn⟩
theorem SdW.ok {fm : Fm} {s : Str} {d : Sd} (h : SdW fm d) (wt : d.wait = true → s = "wait" ∧ d.quest ≠ []) : SdOk fm s d := ⟨h.ws, h.sl, h.ml, h.mn, h.kl, h.kn, h.ql, h.qn, wt⟩
theorem rowAt_nm {k : Nat} {r : List Ent} {i : Nat} {s : Str} (ro : RowOk k r) (e : rowAt r i = some s) : Nm s := by
  unfold rowAt at e
  cases hr : r[i]? with
  | none => rw [hr] at e; cases e
  | some x =>
    rw [hr] at e
    simp at e
    subst e
    exact ro.nm s (List.mem_of_getElem? hr)
theorem nearV_nm {fm : Fm} (o : FmOk fm) {p : Str × Fd} (hp : p ∈ fm.fields) {ws : List Str} {s : Str} (e : nearV fm ws p = some s) : Nm s := by
  have fo := (o.fs p hp).nr
  unfold nearV at e
  cases hn : p.2.nr with
  | alone r =>
    rw [hn] at e fo
    exact rowAt_nm fo e
  | looks g rs =>
    rw [hn] at e fo
    obtain ⟨q1, q2, q3, q4⟩ := fo
    simp only at e
    cases hr : rs[wIx fm (wAt fm ws p.1)]? with
    | none =>
      rw [hr] at e
      simp [rowAt] at e
    | some r =>
      rw [hr] at e
      exact rowAt_nm (q4 r (List.mem_of_getElem? hr)) e
theorem fIx_at {fm : Fm} (o : FmOk fm) {i : Nat} {n : Str} (hi : fm.names[i]? = some n) : fIx fm n = i := idx_of_nodup o.fn.nd hi
theorem fIx_lt {fm : Fm} {p : Str × Fd} (hp : p ∈ fm.fields) : fIx fm p.1 < fm.fields.length := by
  have := List.idxOf_lt_length_iff.mpr (mem_names hp)
  simpa [fIx, Fm.names] using this
theorem fIx_get {fm : Fm} (o : FmOk fm) {p : Str × Fd} (hp : p ∈ fm.fields) : fm.fields[fIx fm p.1]? = some p := by
  obtain ⟨i, hi⟩ := List.getElem?_of_mem hp
  rw [fIx_at o (i := i) (by unfold Fm.names; rw [List.getElem?_map, hi]; rfl)]
  exact hi
theorem known_at {fm : Fm} (o : FmOk fm) {d : Sd} (w : SdW fm d) {p : Str × Fd} (hp : p ∈ fm.fields) : ∃ k, d.known[fIx fm p.1]? = some k ∧ KnOk fm p k := by
  have hl : fIx fm p.1 < d.known.length := by rw [w.kl]; exact fIx_lt hp
  refine ⟨d.known[fIx fm p.1], by simp [hl], ?_⟩
  exact w.kn (p, d.known[fIx fm p.1]) (List.mem_of_getElem? (i := fIx fm p.1) (by rw [List.getElem?_zip_eq_some]; exact ⟨fIx_get o hp, by simp [hl]⟩))
theorem entry_nm {fm : Fm} (o : FmOk fm) {d : Sd} (w : SdW fm d) {p : Str × Fd} (hp : p ∈ fm.fields) {s : Str} (e : (entryC fm p d).1 = some s) : Nm s := by
  unfold entryC at e
  cases hn : nearV fm d.words p with
  | some m =>
    rw [hn] at e
    simp at e
    exact e ▸ nearV_nm o hp hn
  | none =>
    rw [hn] at e
    simp only at e
    split at e
    · obtain ⟨k, hk, ko⟩ := known_at o w hp
      rw [hk] at e
      cases k with
      | none => simp [knEnt] at e
      | some q =>
        obtain ⟨v, x⟩ := q
        obtain ⟨_, _, rfl⟩ := ko v x rfl
        simp only [knEnt] at e
        split at e
        · exact farV_nm o hp e
        · cases e
    · cases e
theorem mess_set {es : List Ent} {i : Nat} {e : Ent} (h : ∀ s, some s ∈ es → Nm s) (he : ∀ s, e = some s → Nm s) : ∀ s, some s ∈ es.set i e → Nm s := fun s hs => by
  rcases List.mem_or_eq_of_mem_set hs with z | z
  · exact h s z
  · exact he s z.symm
theorem SdW.mess {fm : Fm} {d : Sd} (w : SdW fm d) (i : Nat) {e : Ent} (he : ∀ s, e = some s → Nm s) : SdW fm { d with mess := d.mess.set i e } :=
  { w with ml := by simp [w.ml], mn := mess_set w.mn he }
theorem SdW.show {fm : Fm} {d : Sd} (w : SdW fm d) (i : Nat) (told : List Ev) : SdW fm (showC fm i d told).1 := by
  unfold showC
  split
  · exact { w with sl := by simp [w.sl] }
  · exact w
theorem SdW.shows {fm : Fm} {d : Sd} (w : SdW fm d) (told : List Ev) : ∀ k, SdW fm (showsC fm k d told).1
  | 0 => w
  | k + 1 => (w.shows told k).show k _
theorem SdW.endw {fm : Fm} {d : Sd} (w : SdW fm d) (told : List Ev) : SdW fm (endV d told).1 := by
  unfold endV
  split
  · exact { w with }
  · exact w
structure Kept (d d' : Sd) (t t' : List Ev) (k : Nat) : Prop where
  ws : d'.words = d.words
  sh : d'.shown = d.shown
  wt : d'.wait = d.wait
  kn : d'.known = d.known
  ql : d.quest.length ≤ d'.quest.length
  tl : t'.length ≤ t.length + k
theorem Kept.trans {d d1 d2 : Sd} {t t1 t2 : List Ev} {k m : Nat} (a : Kept d d1 t t1 k) (b : Kept d1 d2 t1 t2 m) : Kept d d2 t t2 (k + m) :=
  ⟨b.ws.trans a.ws, b.sh.trans a.sh, b.wt.trans a.wt, b.kn.trans a.kn, Nat.le_trans a.ql b.ql, by have := a.tl; have := b.tl; omega⟩
theorem far_names {fm : Fm} {p : Str × Fd} (hp : p ∈ fm.fields) (hf : p.2.far.isSome = true) : p.1 ∈ farNames fm := by
  unfold farNames
  exact List.mem_map.mpr ⟨p, List.mem_filter.mpr ⟨hp, hf⟩, rfl⟩
theorem ask_kept {fm : Fm} {n w : Str} {d d' : Sd} {t t' : List Ev} (s : SdW fm d) (hn : n ∈ farNames fm) (hw : w ∈ fm.words) (e : askC fm n w d t = .ok d' t') : SdW fm d' ∧ Kept d d' t t' 1 := by
  unfold askC at e
  split at e
  · cases e
    exact ⟨s, rfl, rfl, rfl, rfl, Nat.le_refl _, by omega⟩
  · split at e
    · cases e
    · cases e
      rename_i h1 h2
      refine ⟨{ s with ql := ?_, qn := fun q hq => ?_ }, rfl, rfl, rfl, rfl, by simp, by simp⟩
      · have := s.ql
        simp only [List.length_append, List.length_map, List.length_cons, List.length_nil]
        omega
      · simp only [List.mem_append, List.mem_map, List.mem_singleton] at hq
        rcases hq with ⟨q0, hq0, rfl⟩ | rfl
        · exact s.qn q0 hq0
        · exact ⟨hn, hw⟩
theorem entry_asks {fm : Fm} {p : Str × Fd} {d : Sd} (e : (entryC fm p d).2 = true) : p.2.far.isSome = true := by
  unfold entryC at e
  split at e
  · split at e
    · assumption
    · cases e
  · cases e
theorem check_kept {fm : Fm} (o : FmOk fm) {p : Str × Fd} (hp : p ∈ fm.fields) {d d' : Sd} {t t' : List Ev} (s : SdW fm d) (e : checkC fm p d t = .ok d' t') : SdW fm d' ∧ Kept d d' t t' 2 := by
  have s1 := s.mess (fIx fm p.1) (e := (entryC fm p d).1) fun _ h => entry_nm o s hp h
  have k1 : Kept d { d with mess := d.mess.set (fIx fm p.1) (entryC fm p d).1 } t (t ++ [.checked p.1 (entryC fm p d).1]) 1 := ⟨rfl, rfl, rfl, rfl, Nat.le_refl _, by simp⟩
  unfold checkC at e
  split at e
  · rename_i ha
    obtain ⟨s2, k2⟩ := ask_kept s1 (far_names hp (entry_asks ha)) (s.ws.at (mem_names hp)).2 e
    exact ⟨s2, k1.trans k2⟩
  · cases e
    exact ⟨s1, { k1 with tl := by have := k1.tl; omega }⟩
theorem checks_kept {fm : Fm} (o : FmOk fm) : ∀ {ps : List (Str × Fd)} {d d' : Sd} {t t' : List Ev}, (∀ p ∈ ps, p ∈ fm.fields) → SdW fm d → checksC fm ps d t = .ok d' t' → SdW fm d' ∧ Kept d d' t t' (2 * ps.length)
  | [], d, d', t, t', _, s, e => by
    cases e
    exact ⟨s, rfl, rfl, rfl, rfl, Nat.le_refl _, by omega⟩
  | p :: ps, d, d', t, t', hp, s, e => by
    unfold checksC at e
    cases h1 : checkC fm p d t with
    | many n => rw [h1] at e; cases e
    | ok d1 t1 =>
      rw [h1] at e
      obtain ⟨s1, k1⟩ := check_kept o (hp p (.head _)) s h1
      obtain ⟨s2, k2⟩ := checks_kept o (fun q hq => hp q (.tail _ hq)) s1 e
      refine ⟨s2, (k1.trans k2).ws, (k1.trans k2).sh, (k1.trans k2).wt, (k1.trans k2).kn, (k1.trans k2).ql, ?_⟩
      have := (k1.trans k2).tl
      simp only [List.length_cons]
      omega
end W3
end

section
namespace W3
open PySem
section
variable {n : Nat} {h : Hh} {a lf lr : Nat} {p : Pl} {d : Sd} {told : List T}
end
structure Crz (n : Nat) (h : Hh) (a lf lr : Nat) (fm : Fm) (r : Ru) (p : Pl) (d : Sd) (told : List Ev) : Prop where
  c : CrsAt n h a lf lr p d (tEs told)
  fa : FormAt h lf fm
  ra : RuleAt h lr r
  fl : lf < n
  rl : lr < n
  o : FmOk fm
  ro : RuOk r
  s : SdW fm d
section
variable {n : Nat} {h h' : Hh} {a lf lr : Nat} {fm : Fm} {r : Ru} {p p' : Pl} {d d' : Sd} {told told' : List Ev}
theorem Crz.to (x : Crz n h a lf lr fm r p d told) (fz : Fz n h h') (c : CrsAt n h' a lf lr p' d' (tEs told')) (s : SdW fm d') : Crz n h' a lf lr fm r p' d' told' :=
  ⟨c, x.fa.fz fz x.fl, x.ra.fz fz x.rl, x.fl, x.rl, x.o, x.ro, s⟩
theorem Crz.app (x : Crz n h a lf lr fm r p d told) (o : Hh) : Crz n (h ++ o) a lf lr fm r p d told := x.to (Fz.app x.c.nl o) (x.c.app o) x.s
structure Fx (a : Nat) (p p' : Pl) (h h' : Hh) : Prop where
  le : h.length ≤ h'.length
  keep : ∀ k, k < h.length → k ≠ a → k ∉ p.all → h'[k]? = h[k]?
  pl : ∀ k ∈ p'.all, k ∈ p.all ∨ h.length ≤ k
theorem Fx.refl (a : Nat) (p : Pl) (h : Hh) : Fx a p p h h := ⟨Nat.le_refl _, fun _ _ _ _ => rfl, fun _ hk => .inl hk⟩
theorem Fx.app (a : Nat) (p : Pl) (h o : Hh) : Fx a p p h (h ++ o) := ⟨by simp, fun k hk _ _ => List.getElem?_append_left hk, fun _ hk => .inl hk⟩
theorem Fx.set {a k : Nat} {p : Pl} {h : Hh} (hk : k ∈ p.all) (o : Ob) : Fx a p p h (h.set k o) := ⟨by simp, fun j _ _ hj => by rw [List.getElem?_set_ne (fun e : k = j => hj (e ▸ hk))], fun _ hk => .inl hk⟩
theorem Fx.own {a : Nat} {p p' : Pl} {h : Hh} (o : Ob) (hp : ∀ k ∈ p'.all, k ∈ p.all ∨ h.length ≤ k) : Fx a p p' h (h.set a o) := ⟨by simp, fun j _ ha _ => by rw [List.getElem?_set_ne (Ne.symm ha)], hp⟩
theorem Fx.trans {a : Nat} {p p1 p2 : Pl} {h h1 h2 : Hh} (u : Fx a p p1 h h1) (v : Fx a p1 p2 h1 h2) : Fx a p p2 h h2 :=
  ⟨Nat.le_trans u.le v.le, fun k hk ha hp => (v.keep k (Nat.lt_of_lt_of_le hk u.le) ha fun z => (u.pl k z).elim hp fun q => by omega).trans (u.keep k hk ha hp), fun k hk => (v.pl k hk).elim (u.pl k) fun q => .inr (Nat.le_trans u.le q)⟩
theorem Crz.fz (x : Crz n h a lf lr fm r p d told) (u : Fx a p p' h h') : Fz n h h' := ⟨u.le, fun k hk => u.keep k (Nat.lt_of_lt_of_le hk x.c.nl) (fun e => by have := x.c.la; omega) fun z => by have := x.c.lo k z; omega⟩
theorem Crz.ev (x : Crz n h a lf lr fm r p d told) (e : Ev) : Crz n (h.set p.t (.lst (tEs told ++ [e.t]))) a lf lr fm r p d (told ++ [e]) := by
  refine x.to (Fz.set (x.c.lo p.t (by simp [Pl.all])) _) ?_ x.s
  have := x.c.tell e.t
  rw [show tEs (told ++ [e]) = tEs told ++ [e.t] by simp [tEs]]
  exact this
end
section
variable {n : Nat} {h h' : Hh} {a lf lr : Nat} {fm : Fm} {r : Ru} {p p' : Pl} {d d' : Sd} {told told' : List Ev} {q : Str × Fd}
end
theorem found_mem {fm : Fm} {r : Ru} {n : Str} : (∀ u ∈ foundC fm r n, u ∈ fm.fields) ∧ (foundC fm r n).length ≤ fm.fields.length := by
  unfold foundC
  split
  · split
    · simp
    · exact ⟨fun u hu => (List.mem_filter.mp hu).1, List.length_filter_le _ _⟩
  · exact ⟨fun u hu => (List.mem_filter.mp hu).1, List.length_filter_le _ _⟩
theorem with_mem {fm : Fm} {r : Ru} {n : Str} {d : Sd} : (∀ u ∈ withC fm r n d, u ∈ fm.fields) ∧ (withC fm r n d).length ≤ fm.fields.length :=
  ⟨fun u hu => found_mem.1 u (List.mem_filter.mp hu).1, Nat.le_trans (List.length_filter_le _ _) found_mem.2⟩
theorem SdW.word {fm : Fm} {d : Sd} (w : SdW fm d) (i : Nat) {v : Str} (hv : v ∈ fm.words) : SdW fm { d with words := d.words.set i v } :=
  { w with ws := ⟨by simp [w.ws.len], fun s hs => by
      rcases List.mem_or_eq_of_mem_set hs with z | z
      · exact w.ws.mem s z
      · exact z ▸ hv⟩ }
theorem SdW.wait {fm : Fm} {d : Sd} (w : SdW fm d) (b : Bool) : SdW fm { d with wait := b } := { w with }
theorem endV_len (d : Sd) (t : List Ev) : (endV d t).2.length ≤ t.length + 1 := by unfold endV; split <;> simp
theorem showC_len (fm : Fm) (i : Nat) (d : Sd) (t : List Ev) : (showC fm i d t).2.length ≤ t.length + 1 := by unfold showC; split <;> simp
theorem wipeC_len (r : Ru) (n : Str) (i : Nat) (d : Sd) (t : List Ev) : (wipeC r n i d t).2.length ≤ t.length + 1 := by unfold wipeC; split <;> simp
theorem enter1_len (fm : Fm) (q : Str × Fd) (w : Str) (d : Sd) (t : List Ev) : (enter1 fm q w d t).2.length ≤ t.length + 2 := by
  unfold enter1
  refine Nat.le_trans (endV_len _ _) ?_
  simp
theorem enter2_len (fm : Fm) (r : Ru) (q : Str × Fd) (x : Sd × List Ev) : (enter2 fm r q x).2.length ≤ x.2.length + 1 := by
  unfold enter2
  split
  · exact showC_len _ _ _ _
  · omega
theorem enterS_len (fm : Fm) (r : Ru) (q : Str × Fd) (w : Str) (d : Sd) (t : List Ev) : (enterS fm r q w d t).2.length ≤ t.length + 4 := by
  unfold enterS
  have := wipeC_len r q.1 (fIx fm q.1) (enter2 fm r q (enter1 fm q w d t)).1 (enter2 fm r q (enter1 fm q w d t)).2
  have := enter2_len fm r q (enter1 fm q w d t)
  have := enter1_len fm q w d t
  omega
theorem leaveS_len (fm : Fm) (r : Ru) (q : Str × Fd) (d : Sd) (t : List Ev) : (leaveS fm r q d t).2.length ≤ t.length + 1 := by
  unfold leaveS
  split
  · simp
  · exact showC_len _ _ _ _
theorem showsC_len (fm : Fm) (d : Sd) (t : List Ev) : ∀ k, (showsC fm k d t).2.length ≤ t.length + k
  | 0 => Nat.le_refl _
  | k + 1 => by
    have := showC_len fm k (showsC fm k d t).1 (showsC fm k d t).2
    have := showsC_len fm d t k
    unfold showsC
    omega
theorem SdW.wipe {fm : Fm} {d : Sd} (w : SdW fm d) (r : Ru) (n : Str) (i : Nat) (t : List Ev) : SdW fm (wipeC r n i d t).1 := by
  unfold wipeC
  split
  · exact w.mess i (e := none) (fun s h => by cases h)
  · exact w
theorem dd_mem {fm : Fm} {D : Dd} (k : DdOk fm D) : D.t ∈ wholeL fm := by
  have inl : ∀ {x : T}, x ∈ plainL fm → x ∈ wholeL fm := fun h => List.mem_append.mpr (.inl h)
  have nm : ∀ {p : Str × Fd}, p ∈ fm.fields → p.1 ∈ fm.names := fun hp => mem_names hp
  cases D with
  | enter p w => exact inl (List.mem_append.mpr (.inl (List.mem_append.mpr (.inl (List.mem_flatMap.mpr ⟨p.1, nm k.1, List.mem_map.mpr ⟨w, k.2, rfl⟩⟩)))))
  | leave p => exact inl (List.mem_append.mpr (.inl (List.mem_append.mpr (.inr (List.mem_map.mpr ⟨p.1, nm k, rfl⟩)))))
  | send => exact inl (List.mem_append.mpr (.inr (.head _)))
  | answer i =>
    have k : i < 3 := k
    match i, k with
    | 0, _ => exact inl (List.mem_append.mpr (.inr (.tail _ (.head _))))
    | 1, _ => exact inl (List.mem_append.mpr (.inr (.tail _ (.tail _ (.head _)))))
    | 2, _ => exact inl (List.mem_append.mpr (.inr (.tail _ (.tail _ (.tail _ (.head _))))))
  | reset => exact List.mem_append.mpr (.inr (.head _))
theorem zip_set_kn {fm : Fm} (o : FmOk fm) {ks : List Kn} (hl : ks.length = fm.fields.length) (kn : ∀ q ∈ fm.fields.zip ks, KnOk fm q.1 q.2) {q : Str × Fd} (hp : q ∈ fm.fields) {k : Kn} (hk : KnOk fm q k) : ∀ u ∈ fm.fields.zip (ks.set (fIx fm q.1) k), KnOk fm u.1 u.2 := by
  intro u hu
  obtain ⟨j, hj⟩ := List.getElem?_of_mem hu
  rw [List.getElem?_zip_eq_some] at hj
  obtain ⟨h1, h2⟩ := hj
  by_cases e : fIx fm q.1 = j
  · subst e
    rw [fIx_get o hp] at h1
    rw [List.getElem?_set_self (by rw [hl]; exact fIx_lt hp)] at h2
    have e1 : q = u.1 := by injection h1
    have e2 : k = u.2 := by injection h2
    rw [← e1, ← e2]
    exact hk
  · rw [List.getElem?_set_ne e] at h2
    exact kn u (List.mem_of_getElem? (i := j) (by rw [List.getElem?_zip_eq_some]; exact ⟨h1, h2⟩))
theorem SdW.known {fm : Fm} {d : Sd} (w : SdW fm d) (o : FmOk fm) {q : Str × Fd} (hp : q ∈ fm.fields) {k : Kn} (hk : KnOk fm q k) : SdW fm { d with known := d.known.set (fIx fm q.1) k } :=
  { w with kl := by simp [w.kl], kn := zip_set_kn o w.kl w.kn hp hk }
def elderT (m : Str) (t : T) : T := match t with | .tup [.str o, .str w, .bl b] => tQ (elder m (o, w, b)) | t => t
def lookP (n : Str) (t : T) : Bool := match t with | .tup [_, .tup [_, .str g, _, _]] => decide (g = n) | _ => false
theorem lookP_pair (n : Str) (u : Str × Fd) : lookP n (tPair u) = decide (looksAt u.2.nr = some n) := by
  unfold lookP tPair Fd.t Fd.ts
  cases u.2.nr with
  | alone r => simp [Nr.tLooks, looksAt]
  | looks g rs => simp [Nr.tLooks, looksAt]
theorem reads_list (fm : Fm) (n : Str) : ((fm.fields.map tPair).filter (lookP n)).map fstOf = tSs ((readsC fm n).map Prod.fst) := by
  unfold readsC
  rw [List.filter_map, List.map_map]
  show _ = List.map T.str (List.map Prod.fst _)
  rw [List.map_map]
  have : (lookP n ∘ tPair) = fun u : Str × Fd => decide (looksAt u.2.nr = some n) := funext (lookP_pair n)
  rw [this]
  rfl
def ReadersE (f : Fn) : Prop := ∀ {fm : Fm} {l : Nat} {q : Str × Fd} {h : Hh}, FormAt h l fm → FmOk fm → q ∈ fm.fields → f [.ref l, .str q.1] h = .ok (.tup (tSs ((readsC fm q.1).map Prod.fst))) h
end W3
namespace W3
open PySem
theorem eq_looks (nr : Nr) (n : Str) (h : Hh) : oEq nr.tLooks (.str n) h = .ok (.bl (decide (looksAt nr = some n))) h := by
  cases nr with
  | alone r =>
    show oEq .non (.str n) h = _
    have : oEq .non (.str n) h = .ok (.bl (PyData.eqv .none (.str n))) h := rfl
    rw [this]
    have e : PyData.eqv .none (.str n) = false := by rw [PyData.eqv]
    rw [e]
    simp [looksAt]
  | looks g rs =>
    show oEq (.str g) (.str n) h = _
    simp [looksAt]
end W3
end

section
namespace W3
open PySem
theorem around_mem {fm : Fm} {r : Ru} {q : Str × Fd} {d : Sd} (hp : q ∈ fm.fields) : (∀ u ∈ aroundL fm r q d, u ∈ fm.fields) ∧ (aroundL fm r q d).length ≤ 1 + fm.fields.length := by
  unfold aroundL
  obtain ⟨h1, h2⟩ := with_mem (fm := fm) (r := r) (n := q.1) (d := d)
  refine ⟨fun u hu => ?_, ?_⟩
  · rcases List.mem_append.mp hu with z | z
    · split at z
      · simp at z; rw [z]; exact hp
      · cases z
    · exact h1 u z
  · rw [List.length_append]
    split <;> simp <;> omega
theorem around_kept {fm : Fm} (o : FmOk fm) {r : Ru} {q : Str × Fd} (hp : q ∈ fm.fields) {d d' : Sd} {t t' : List Ev} (s : SdW fm d) (e : aroundC fm r q d t = .ok d' t') : SdW fm d' ∧ Kept d d' t t' 8 := by
  obtain ⟨h1, h2⟩ := around_mem (r := r) (d := d) hp
  obtain ⟨s', k⟩ := checks_kept o h1 s e
  have f3 := o.f3
  exact ⟨s', { k with tl := by have := k.tl; omega }⟩
theorem endV_wait (d : Sd) (t : List Ev) : (endV d t).1.wait = false := by
  unfold endV
  cases hw : d.wait <;> simp [hw]
theorem showC_wait (fm : Fm) (i : Nat) (d : Sd) (t : List Ev) : (showC fm i d t).1.wait = d.wait ∧ (showC fm i d t).1.quest = d.quest := by
  unfold showC
  split <;> exact ⟨rfl, rfl⟩
theorem wipeC_wait (r : Ru) (n : Str) (i : Nat) (d : Sd) (t : List Ev) : (wipeC r n i d t).1.wait = d.wait := by
  unfold wipeC
  split <;> rfl
theorem showsC_wait (fm : Fm) (d : Sd) (t : List Ev) : ∀ k, (showsC fm k d t).1.wait = d.wait ∧ (showsC fm k d t).1.quest = d.quest
  | 0 => ⟨rfl, rfl⟩
  | k + 1 => by
    obtain ⟨a, b⟩ := showsC_wait fm d t k
    obtain ⟨c, e⟩ := showC_wait fm k (showsC fm k d t).1 (showsC fm k d t).2
    exact ⟨c.trans a, e.trans b⟩
theorem enterS_sd {fm : Fm} {r : Ru} {q : Str × Fd} {w : Str} {d : Sd} (s : SdW fm d) (hw : w ∈ fm.words) (t : List Ev) : SdW fm (enterS fm r q w d t).1 ∧ (enterS fm r q w d t).1.wait = false := by
  have s1 : SdW fm (enter1 fm q w d t).1 := (s.word (fIx fm q.1) hw).endw _
  have w1 : (enter1 fm q w d t).1.wait = false := endV_wait _ _
  have s2 : SdW fm (enter2 fm r q (enter1 fm q w d t)).1 ∧ (enter2 fm r q (enter1 fm q w d t)).1.wait = false := by
    unfold enter2
    split
    · exact ⟨s1.show _ _, (showC_wait _ _ _ _).1.trans w1⟩
    · exact ⟨s1, w1⟩
  exact ⟨s2.1.wipe _ _ _ _, (wipeC_wait _ _ _ _ _).trans s2.2⟩
theorem leaveS_sd {fm : Fm} {r : Ru} {q : Str × Fd} {d : Sd} (s : SdW fm d) (t : List Ev) : SdW fm (leaveS fm r q d t).1 ∧ (leaveS fm r q d t).1.wait = d.wait ∧ (leaveS fm r q d t).1.quest = d.quest := by
  unfold leaveS
  split
  · exact ⟨s, rfl, rfl⟩
  · exact ⟨s.show _ _, (showC_wait _ _ _ _).1, (showC_wait _ _ _ _).2⟩
theorem take_sd {fm : Fm} (o : FmOk fm) {r : Ru} {q : Str × Fd} {w : Str} {nw : Bool} {d : Sd} (hp : q ∈ fm.fields) (hf : q.2.far.isSome = true) (hw : w ∈ fm.words) (s : SdW fm d) : SdW fm (takeC fm r q w nw d) ∧ (takeC fm r q w nw d).wait = d.wait ∧ (takeC fm r q w nw d).quest = d.quest := by
  unfold takeC
  split
  · have k := s.known o hp (k := some (w, farV fm q w)) fun w' e' e => by cases e; exact ⟨hf, hw, rfl⟩
    refine ⟨?_, rfl, rfl⟩
    unfold takeMess
    split
    · exact k.mess (fIx fm q.1) fun s hs => farV_nm o hp hs
    · exact k
  · exact ⟨s, rfl, rfl⟩
theorem rest_sd {fm : Fm} {snd : Str} {d : Sd} (s : SdW fm d) (hw : d.wait = true → snd = "wait") (t : List Ev) : SdOk fm snd (restC d t).1 := by
  unfold restC
  split
  · exact (s.wait false).ok fun z => by cases z
  · rename_i hn
    refine s.ok fun z => ⟨hw z, fun q => hn ⟨z, q⟩⟩
theorem quest_at {fm : Fm} {d : Sd} (o : FmOk fm) (s : SdW fm d) {i : Nat} {m w : Str} {nw : Bool} (e : d.quest[i]? = some (m, w, nw)) : ∃ q ∈ fm.fields, q.2.far.isSome = true ∧ q.1 = m ∧ w ∈ fm.words ∧ fdAt fm (.str m) = some q := by
  obtain ⟨hm, hw⟩ := s.qn _ (List.mem_of_getElem? e)
  obtain ⟨q, hp, hf, rfl⟩ := far_mem hm
  exact ⟨q, hp, hf, rfl, hw, fdAt_some o hp⟩
theorem step_ok {fm : Fm} (o : FmOk fm) {r : Ru} {d d' : Sd} {D : Dd} {t' : List Ev} (s : SdOk fm r.sending d) (k : DdOk fm D) (e : stepC fm r D d = .ok d' t') : SdOk fm r.sending d' := by
  cases D with
  | enter q w =>
    obtain ⟨hp, hw⟩ := k
    have e : enterC fm r q w d [] = .ok d' t' := e
    unfold enterC at e
    obtain ⟨s1, w1⟩ := enterS_sd (r := r) (q := q) s.w hw []
    split at e
    · cases e; exact s
    · split at e
      · obtain ⟨s2, kp⟩ := around_kept o hp s1 e
        exact s2.ok fun z => by rw [kp.wt, w1] at z; cases z
      · cases e
        exact s1.ok fun z => by rw [w1] at z; cases z
  | leave q =>
    have e : leaveC fm r q d [] = .ok d' t' := e
    obtain ⟨s1, w1, q1⟩ := leaveS_sd (r := r) (q := q) s.w []
    obtain ⟨s2, kp⟩ := around_kept o k s1 e
    refine s2.ok fun z => ?_
    rw [kp.wt, w1] at z
    refine ⟨(s.wt z).1, fun q0 => (s.wt z).2 ?_⟩
    have := kp.ql
    rw [q0, q1] at this
    exact List.length_eq_zero_iff.mp (by simpa using this)
  | send =>
    have e : sendC fm r d [] = .ok d' t' := e
    unfold sendC at e
    split at e
    · cases e; exact s
    · rename_i hw
      cases hc : checksC fm fm.fields (showsC fm fm.fields.length d []).1 (showsC fm fm.fields.length d []).2 with
      | many m => rw [hc] at e; cases e
      | ok d2 t2 =>
        rw [hc] at e
        obtain ⟨s2, kp⟩ := checks_kept o (fun q hq => hq) (s.w.shows [] fm.fields.length) hc
        have w2 : d2.wait = false := by
          rw [kp.wt, (showsC_wait fm d [] fm.fields.length).1]
          simpa using hw
        have e : Rz.ok (endSend r d2 t2).1 (endSend r d2 t2).2 = .ok d' t' := e
        injection e with e1 e2
        rw [← e1]
        unfold endSend
        split
        · exact s2.ok fun z => by rw [w2] at z; cases z
        · split
          · exact s2.ok fun z => by rw [w2] at z; cases z
          · rename_i h1
            split
            · rename_i h3
              exact (s2.wait true).ok fun _ => ⟨h3, fun z => h1 (.inl z)⟩
            · exact s2.ok fun z => by rw [w2] at z; cases z
  | answer i =>
    have e : Rz.of (answerC fm r i d []) = .ok d' t' := e
    unfold Rz.of at e
    injection e with e1 e2
    rw [← e1]
    unfold answerC
    cases hq : d.quest[i]? with
    | none => exact s
    | some x =>
      obtain ⟨m, w, nw⟩ := x
      obtain ⟨q, hp, hf, rfl, hw, ef⟩ := quest_at o s.w hq
      simp only [ef]
      have s1 : SdW fm { d with quest := d.quest.eraseIdx i } := { s.w with ql := (show ((d.quest.eraseIdx i).length : Int) ≤ fm.room by have := List.length_eraseIdx_le d.quest i; have := s.ql; omega), qn := fun u hu => s.qn u (List.mem_of_mem_eraseIdx hu) }
      obtain ⟨s2, w2, q2⟩ := take_sd o (r := r) (nw := nw) hp hf hw s1
      unfold answerP
      exact rest_sd s2 (fun z => by rw [w2] at z; exact (s.wt z).1) _
  | reset =>
    have e : Rz.of (resetV fm d []) = .ok d' t' := e
    unfold Rz.of at e
    injection e with e1 e2
    rw [← e1]
    refine SdW.ok ?_ fun z => by
      have : (resetV fm d []).1.wait = false := endV_wait _ _
      rw [this] at z; cases z
    refine SdW.endw ?_ _
    refine ⟨⟨firsts_len fm, fun s hs => ?_⟩, by simp, by simp, fun s hs => ?_, s.kl, s.kn, s.ql, s.qn⟩
    · obtain ⟨p, hp, rfl⟩ := List.mem_map.mp hs
      exact (o.fs p hp).first
    · exact absurd hs (by simp)
def EvOk (fm : Fm) : Ev → Prop
  | .entered n w => n ∈ fm.names ∧ w ∈ fm.words
  | .dropped => True
  | .opened n => n ∈ fm.names
  | .wiped n => n ∈ fm.names
  | .checked n e => n ∈ fm.names ∧ ∀ s, e = some s → Nm s
  | .asked n w => n ∈ farNames fm ∧ w ∈ fm.words
  | .answered n w e _ => ∃ q ∈ fm.fields, q.2.far.isSome = true ∧ n = q.1 ∧ w ∈ fm.words ∧ e = farV fm q w
  | .sent ws => WsOk fm ws
  | .waits => True
  | .held => True
  | .reset => True
abbrev EvsOk (fm : Fm) (t : List Ev) : Prop := ∀ e ∈ t, EvOk fm e
theorem EvsOk.snoc {fm : Fm} {t : List Ev} (h : EvsOk fm t) {e : Ev} (he : EvOk fm e) : EvsOk fm (t ++ [e]) := fun x hx => by
  rcases List.mem_append.mp hx with z | z
  · exact h x z
  · simp at z; rw [z]; exact he
theorem EvsOk.nil {fm : Fm} : EvsOk fm [] := fun x hx => by cases hx
theorem ask_evs {fm : Fm} {n w : Str} {d d' : Sd} {t t' : List Ev} (hn : n ∈ farNames fm) (hw : w ∈ fm.words) (h : EvsOk fm t) (e : askC fm n w d t = .ok d' t') : EvsOk fm t' := by
  unfold askC at e
  split at e
  · cases e; exact h
  · split at e
    · cases e
    · cases e; exact h.snoc ⟨hn, hw⟩
theorem check_evs {fm : Fm} (o : FmOk fm) {p : Str × Fd} (hp : p ∈ fm.fields) {d d' : Sd} {t t' : List Ev} (s : SdW fm d) (h : EvsOk fm t) (e : checkC fm p d t = .ok d' t') : EvsOk fm t' := by
  have h1 : EvsOk fm (t ++ [.checked p.1 (entryC fm p d).1]) := h.snoc ⟨mem_names hp, fun _ z => entry_nm o s hp z⟩
  unfold checkC at e
  split at e
  · rename_i ha
    exact ask_evs (far_names hp (entry_asks ha)) (s.ws.at (mem_names hp)).2 h1 e
  · cases e; exact h1
theorem checks_evs {fm : Fm} (o : FmOk fm) : ∀ {ps : List (Str × Fd)} {d d' : Sd} {t t' : List Ev}, (∀ p ∈ ps, p ∈ fm.fields) → SdW fm d → EvsOk fm t → checksC fm ps d t = .ok d' t' → EvsOk fm t'
  | [], d, d', t, t', _, s, h, e => by cases e; exact h
  | p :: ps, d, d', t, t', hp, s, h, e => by
    unfold checksC at e
    cases h1 : checkC fm p d t with
    | many n => rw [h1] at e; cases e
    | ok d1 t1 =>
      rw [h1] at e
      exact checks_evs o (fun q hq => hp q (.tail _ hq)) (check_kept o (hp p (.head _)) s h1).1 (check_evs o (hp p (.head _)) s h h1) e
theorem endV_evs {fm : Fm} {d : Sd} {t : List Ev} (h : EvsOk fm t) : EvsOk fm (endV d t).2 := by
  unfold endV
  split
  · exact h.snoc trivial
  · exact h
theorem showC_evs {fm : Fm} {i : Nat} (hi : i < fm.fields.length) {d : Sd} {t : List Ev} (h : EvsOk fm t) : EvsOk fm (showC fm i d t).2 := by
  unfold showC
  split
  · refine h.snoc ?_
    show W3.nameAt fm i ∈ fm.names
    have : i < fm.names.length := by simp [Fm.names, hi]
    simp [W3.nameAt, this]
  · exact h
theorem showsC_evs {fm : Fm} {d : Sd} {t : List Ev} (h : EvsOk fm t) : ∀ k, k ≤ fm.fields.length → EvsOk fm (showsC fm k d t).2
  | 0, _ => h
  | k + 1, hk => showC_evs (by omega) (showsC_evs h k (by omega))
theorem wipeC_evs {fm : Fm} {r : Ru} {n : Str} {i : Nat} {d : Sd} {t : List Ev} (hn : n ∈ fm.names) (h : EvsOk fm t) : EvsOk fm (wipeC r n i d t).2 := by
  unfold wipeC
  split
  · exact h.snoc hn
  · exact h
theorem enterS_evs {fm : Fm} {r : Ru} {q : Str × Fd} {w : Str} {d : Sd} {t : List Ev} (hp : q ∈ fm.fields) (hw : w ∈ fm.words) (h : EvsOk fm t) : EvsOk fm (enterS fm r q w d t).2 := by
  unfold enterS
  refine wipeC_evs (mem_names hp) ?_
  have h1 : EvsOk fm (enter1 fm q w d t).2 := endV_evs (h.snoc ⟨mem_names hp, hw⟩)
  unfold enter2
  split
  · exact showC_evs (fIx_lt hp) h1
  · exact h1
theorem leaveS_evs {fm : Fm} {r : Ru} {q : Str × Fd} {d : Sd} {t : List Ev} (hp : q ∈ fm.fields) (h : EvsOk fm t) : EvsOk fm (leaveS fm r q d t).2 := by
  unfold leaveS
  split
  · exact h
  · exact showC_evs (fIx_lt hp) h
theorem rest_evs {fm : Fm} {d : Sd} {t : List Ev} (w : WsOk fm d.words) (h : EvsOk fm t) : EvsOk fm (restC d t).2 ∧ (restC d t).2.length ≤ t.length + 1 := by
  unfold restC
  split
  · refine ⟨h.snoc ?_, by simp⟩
    split
    · trivial
    · exact w
  · exact ⟨h, by simp⟩
theorem endSend_evs {fm : Fm} {r : Ru} {d : Sd} {t : List Ev} (w : WsOk fm d.words) (h : EvsOk fm t) : EvsOk fm (endSend r d t).2 ∧ (endSend r d t).2.length = t.length + 1 := by
  unfold endSend
  split
  · exact ⟨h.snoc trivial, by simp⟩
  · split
    · exact ⟨h.snoc w, by simp⟩
    · split
      · exact ⟨h.snoc trivial, by simp⟩
      · exact ⟨h.snoc trivial, by simp⟩
theorem step_evs {fm : Fm} (o : FmOk fm) {r : Ru} {d d' : Sd} {D : Dd} {t' : List Ev} (s : SdOk fm r.sending d) (k : DdOk fm D) (e : stepC fm r D d = .ok d' t') : EvsOk fm t' ∧ t'.length ≤ 20 := by
  have f3 := o.f3
  cases D with
  | enter q w =>
    obtain ⟨hp, hw⟩ := k
    have e : enterC fm r q w d [] = .ok d' t' := e
    unfold enterC at e
    have l1 := enterS_len fm r q w d []
    have h1 := enterS_evs (r := r) (d := d) hp hw (EvsOk.nil (fm := fm))
    obtain ⟨s1, w1⟩ := enterS_sd (r := r) (q := q) s.w hw []
    split at e
    · cases e; exact ⟨.nil, by simp⟩
    · split at e
      · have tl := (around_kept o hp s1 e).2.tl
        simp at l1
        exact ⟨checks_evs o (around_mem hp).1 s1 h1 e, by omega⟩
      · cases e
        simp at l1
        exact ⟨h1, by omega⟩
  | leave q =>
    have e : leaveC fm r q d [] = .ok d' t' := e
    have l1 := leaveS_len fm r q d []
    simp at l1
    obtain ⟨s1, w1, q1⟩ := leaveS_sd (r := r) (q := q) s.w []
    have tl := (around_kept o k s1 e).2.tl
    exact ⟨checks_evs o (around_mem k).1 s1 (leaveS_evs k .nil) e, by omega⟩
  | send =>
    have e : sendC fm r d [] = .ok d' t' := e
    unfold sendC at e
    split at e
    · cases e; exact ⟨.nil, by simp⟩
    · cases hc : checksC fm fm.fields (showsC fm fm.fields.length d []).1 (showsC fm fm.fields.length d []).2 with
      | many m => rw [hc] at e; cases e
      | ok d2 t2 =>
        rw [hc] at e
        obtain ⟨s2, kp⟩ := checks_kept o (fun q hq => hq) (s.w.shows [] fm.fields.length) hc
        have e : Rz.ok (endSend r d2 t2).1 (endSend r d2 t2).2 = .ok d' t' := e
        injection e with e1 e2
        rw [← e2]
        have h2 := checks_evs o (fun q hq => hq) (s.w.shows [] fm.fields.length) (showsC_evs .nil _ (Nat.le_refl _)) hc
        obtain ⟨h3, l3⟩ := endSend_evs (r := r) s2.ws h2
        have l1 := showsC_len fm d [] fm.fields.length
        have tl := kp.tl
        simp at l1
        exact ⟨h3, by omega⟩
  | answer i =>
    have e : Rz.of (answerC fm r i d []) = .ok d' t' := e
    unfold Rz.of at e
    injection e with e1 e2
    rw [← e2]
    unfold answerC
    cases hq : d.quest[i]? with
    | none => exact ⟨.nil, by simp⟩
    | some x =>
      obtain ⟨m, w, nw⟩ := x
      obtain ⟨q, hp, hf, rfl, hw, ef⟩ := quest_at o s.w hq
      simp only [ef]
      unfold answerP
      have ww : WsOk fm (takeC fm r q w nw { d with quest := d.quest.eraseIdx i }).words := by
        unfold takeC
        split
        · exact s.ws
        · exact s.ws
      obtain ⟨h1, l1⟩ := rest_evs (t := [] ++ [.answered q.1 w (farV fm q w) (takenC fm r q w nw { d with quest := d.quest.eraseIdx i })]) ww (EvsOk.nil.snoc (show EvOk fm (.answered q.1 w (farV fm q w) (takenC fm r q w nw { d with quest := d.quest.eraseIdx i })) from ⟨q, hp, hf, rfl, hw, rfl⟩))
      exact ⟨h1, by simp at l1 ⊢; omega⟩
  | reset =>
    have e : Rz.of (resetV fm d []) = .ok d' t' := e
    unfold Rz.of at e
    injection e with e1 e2
    rw [← e2]
    unfold resetV
    refine ⟨endV_evs (EvsOk.nil.snoc trivial), Nat.le_trans (endV_len _ _) (by simp)⟩
theorem flat_ent (x : Ent) : flatT (tE x) = true := by cases x <;> rfl
theorem pure_ev {fm : Fm} (o : FmOk fm) {e : Ev} (h : EvOk fm e) : PureT 2 e.t := by
  have f3 := o.f3
  cases e with
  | sent ws =>
    refine PureT.tup (by simp) fun t ht => ?_
    simp at ht
    rcases ht with rfl | rfl
    · exact .inl rfl
    · refine pure_strs (fun t ht => by obtain ⟨s, _, rfl⟩ := List.mem_map.mp ht; rfl) ?_
      rw [List.length_map, (show WsOk fm ws from h).len]; omega
  | checked n e => exact pure_strs (n := 1) (fun t ht => by simp at ht; rcases ht with rfl | rfl | rfl <;> first | rfl | exact flat_ent _) (by simp)
  | answered n w e k => exact pure_strs (n := 1) (fun t ht => by simp at ht; rcases ht with rfl | rfl | rfl | rfl | rfl <;> first | rfl | exact flat_ent _) (by simp)
  | _ => exact pure_strs (n := 1) (fun t ht => by simp at ht; rcases ht with rfl | rfl | rfl <;> rfl) (by simp)
theorem pure_evs {fm : Fm} (o : FmOk fm) {t : List Ev} (h : EvsOk fm t) (hl : t.length ≤ 100) : PureT 3 (.tup (tEs t)) :=
  PureT.tup (by rw [List.length_map]; omega) fun x hx => by
    obtain ⟨e, he, rfl⟩ := List.mem_map.mp hx
    exact pure_ev o (h e he)
theorem pure_sd {fm : Fm} (o : FmOk fm) {d : Sd} (s : SdW fm d) : PureT 4 d.t := by
  have f3 := o.f3
  have ql := s.ql; have r3 := o.r3
  refine PureT.tup (by simp) fun t ht => ?_
  simp only [List.mem_cons, List.not_mem_nil, or_false] at ht
  rcases ht with rfl | rfl | rfl | rfl | rfl | rfl
  · exact pure_strs (fun t ht => by obtain ⟨s, _, rfl⟩ := List.mem_map.mp ht; rfl) (by rw [List.length_map, s.ws.len]; omega)
  · exact pure_strs (fun t ht => by obtain ⟨s, _, rfl⟩ := List.mem_map.mp ht; rfl) (by rw [List.length_map, s.sl]; omega)
  · exact pure_strs (fun t ht => by obtain ⟨s, _, rfl⟩ := List.mem_map.mp ht; exact flat_ent _) (by rw [List.length_map, s.ml]; omega)
  · refine PureT.tup (by rw [List.length_map, s.kl]; omega) fun t ht => ?_
    obtain ⟨k, _, rfl⟩ := List.mem_map.mp ht
    rcases k with _ | ⟨w, e⟩
    · exact .inl rfl
    · exact pure_strs (fun t ht => by simp at ht; rcases ht with rfl | rfl; rfl; exact flat_ent _) (by simp)
  · refine PureT.tup (by rw [List.length_map]; omega) fun t ht => ?_
    obtain ⟨k, _, rfl⟩ := List.mem_map.mp ht
    exact pure_strs (fun t ht => by simp at ht; rcases ht with rfl | rfl | rfl <;> rfl) (by simp)
  · exact .inl rfl
theorem pure_dd {fm : Fm} {D : Dd} (k : DdOk fm D) : PureT 1 D.t := wholeL_pure (dd_mem k)
end W3
end

section
namespace W3
open PySem
structure Made (h : Hh) (l ln ar lf : Nat) (fm : Fm) (r : Ru) : Prop where
  o : FmOk fm
  ro : RuOk r
  bx : IsBox h l
  nm : lstAt h ln = some (tSs fm.names)
  ra : RuleAt h ar r
  fa : FormAt h lf fm
  nl : ln ≠ l
  al : ar ≠ l
  fl : lf ≠ l
theorem Made.up {h h' : Hh} {l ln ar lf : Nat} {fm : Fm} {r : Ru} (m : Made h l ln ar lf fm r) (u : Up l h h') : Made h' l ln ar lf fm r :=
  ⟨m.o, m.ro, u.box, u.lst m.nm m.nl, m.ra.upK u m.al, m.fa.upK u m.fl, m.nl, m.al, m.fl⟩
theorem Made.app {h : Hh} {l ln ar lf : Nat} {fm : Fm} {r : Ru} (m : Made h l ln ar lf fm r) (o : Hh) : Made (h ++ o) l ln ar lf fm r := m.up (Up.app m.bx o)
theorem Made.nlt {h : Hh} {l ln ar lf : Nat} {fm : Fm} {r : Ru} (m : Made h l ln ar lf fm r) : ln < h.length := lstAt_lt m.nm
theorem Made.kp {h h' : Hh} {l ln ar lf n : Nat} {fm : Fm} {r : Ru} (m : Made h l ln ar lf fm r) (u : Kp l n h h') (hn : h.length ≤ n) : Made h' l ln ar lf fm r := by
  refine ⟨m.o, m.ro, u.box, u.lst m.nm (by have := m.nlt; omega) m.nl, ?_, ?_, m.nl, m.al, m.fl⟩
  · unfold RuleAt
    rw [u.keep ar (by have := m.ra.lt; omega) m.al]
    exact m.ra
  · unfold FormAt
    rw [u.keep lf (by have := m.fa.lt; omega) m.fl]
    exact m.fa
theorem names_list (fm : Fm) : (fm.fields.map tPair).map fstOf = tSs fm.names := by
  rw [List.map_map]
  show _ = List.map T.str (List.map Prod.fst fm.fields)
  rw [List.map_map]
  rfl
end W3
end

section
namespace W3
open PySem
end W3
end

section
namespace W3
open PySem
def Ev.w : Ev → Str
  | .entered _ _ => "entered"
  | .dropped => "dropped"
  | .opened _ => "opened"
  | .wiped _ => "wiped"
  | .checked _ _ => "checked"
  | .asked _ _ => "asked"
  | .answered _ _ _ _ => "answered"
  | .sent _ => "sent"
  | .waits => "waits"
  | .held => "held"
  | .reset => "reset"
def Ev.args : Ev → List T
  | .entered n w => [.str n, .str w]
  | .dropped => []
  | .opened n => [.str n]
  | .wiped n => [.str n]
  | .checked n e => [.str n, tE e]
  | .asked n w => [.str n, .str w]
  | .answered n w e k => [.str n, .str w, tE e, .bl k]
  | .sent ws => [.tup (tSs ws)]
  | .waits => []
  | .held => []
  | .reset => []
def is_sent : Ev → Bool | .sent _ => true | _ => false
end W3
end

section
namespace W3
open PySem
def topT (p : Pl) (b : Bool) : List T := [.ref p.w, .ref p.s, .ref p.m, .ref p.k, .ref p.q, .bl b]
structure LSt (n : Nat) (h : Hh) (ls : Nat) (p : Pl) (d : Sd) : Prop where
  top : lstAt h ls = some (topT p d.wait)
  ww : lstAt h p.w = some (tSs d.words)
  ss : lstAt h p.s = some (d.shown.map T.bl)
  mm : lstAt h p.m = some (d.mess.map tE)
  kk : lstAt h p.k = some (d.known.map tK)
  qq : lstAt h p.q = some (d.quest.map tQ)
  nd : (ls ≠ p.w ∧ ls ≠ p.s ∧ ls ≠ p.m ∧ ls ≠ p.k ∧ ls ≠ p.q) ∧ (p.w ≠ p.s ∧ p.w ≠ p.m ∧ p.w ≠ p.k ∧ p.w ≠ p.q) ∧ (p.s ≠ p.m ∧ p.s ≠ p.k ∧ p.s ≠ p.q) ∧ (p.m ≠ p.k ∧ p.m ≠ p.q) ∧ p.k ≠ p.q
  lo : n ≤ ls ∧ n ≤ p.w ∧ n ≤ p.s ∧ n ≤ p.m ∧ n ≤ p.k ∧ n ≤ p.q
section
variable {n : Nat} {h : Hh} {ls : Nat} {p : Pl} {d : Sd}
theorem LSt.llt (c : LSt n h ls p d) : ls < h.length := lstAt_lt c.top
theorem LSt.nl (c : LSt n h ls p d) : n ≤ h.length := Nat.le_of_lt (Nat.lt_of_le_of_lt c.lo.1 c.llt)
theorem LSt.app (c : LSt n h ls p d) (o : Hh) : LSt n (h ++ o) ls p d := ⟨lstAt_app o c.top, lstAt_app o c.ww, lstAt_app o c.ss, lstAt_app o c.mm, lstAt_app o c.kk, lstAt_app o c.qq, c.nd, c.lo⟩
theorem LSt.lts (c : LSt n h ls p d) : p.w < h.length ∧ p.s < h.length ∧ p.m < h.length ∧ p.k < h.length ∧ p.q < h.length := ⟨lstAt_lt c.ww, lstAt_lt c.ss, lstAt_lt c.mm, lstAt_lt c.kk, lstAt_lt c.qq⟩
theorem LSt.wait (c : LSt n h ls p d) (b : Bool) : LSt n (h.set ls (.lst (topT p b))) ls p { d with wait := b } := by
  obtain ⟨⟨nlw, nls, nlm, nlk, nlq⟩, _⟩ := c.nd
  exact ⟨lstAt_set_self c.llt, by rw [lstAt_set_ne nlw]; exact c.ww, by rw [lstAt_set_ne nls]; exact c.ss, by rw [lstAt_set_ne nlm]; exact c.mm, by rw [lstAt_set_ne nlk]; exact c.kk, by rw [lstAt_set_ne nlq]; exact c.qq, c.nd, c.lo⟩
end
end W3
end

section
namespace W3
open PySem
section
variable {fm : Fm} {r : Ru} {k : Nat} {s : Sd}
end
structure RpOk (fm : Fm) (s : Sd) : Prop where
  ws : WsOk fm s.words
  sl : s.shown.length = fm.fields.length
  ml : s.mess.length = fm.fields.length
  kl : s.known.length = fm.fields.length
  ql : s.quest.length ≤ 100
end W3
end

section
namespace W3
open PySem
def nearRows : Nr → List (List Ent) | .alone r => [r] | .looks _ rs => rs
def farRows : Option (List Ent) → List (List Ent) | none => [] | some r => [r]
def rowsOf (f : Fd) : List (List Ent) := nearRows f.nr ++ farRows f.far
def notesOf (f : Fd) : List Str := (rowsOf f).flatMap fun r => r.filterMap id
def MessOk (fm : Fm) (sh : List Bool) (ms : List Ent) : Prop := ∀ (i : Nat) (q : Str × Fd) (s : Str), fm.fields[i]? = some q → ms[i]? = some (some s) → sh[i]? = some true ∧ s ∈ notesOf q.2
def QuestOk (qs : List Qn) : Prop := qs.Pairwise fun a b => a.1 = b.1 → a.2.2 = false
structure Rc (fm : Fm) (d : Sd) : Prop where
  m : MessOk fm d.shown d.mess
  q : QuestOk d.quest
theorem MessOk.set {fm : Fm} (o : FmOk fm) {sh : List Bool} {ms : List Ent} (h : MessOk fm sh ms) {p : Str × Fd} (hp : p ∈ fm.fields) {e : Ent} (he : ∀ s, e = some s → sh[fIx fm p.1]? = some true ∧ s ∈ notesOf p.2) : MessOk fm sh (ms.set (fIx fm p.1) e) := by
  intro i q s hi hm
  by_cases c : fIx fm p.1 = i
  · subst c
    have ef := fIx_get o hp
    rw [ef] at hi
    cases hi
    by_cases hl : fIx fm p.1 < ms.length
    · rw [List.getElem?_set_self hl] at hm
      injection hm with hm
      exact he s hm
    · rw [List.getElem?_eq_none (by rw [List.length_set]; omega)] at hm
      cases hm
  · rw [List.getElem?_set_ne c] at hm
    exact h i q s hi hm
theorem MessOk.show {fm : Fm} {sh : List Bool} {ms : List Ent} (h : MessOk fm sh ms) (j : Nat) : MessOk fm (sh.set j true) ms := by
  intro i q s hi hm
  obtain ⟨h1, h2⟩ := h i q s hi hm
  refine ⟨?_, h2⟩
  by_cases c : j = i
  · subst c
    rw [List.getElem?_set_self (List.getElem?_eq_some_iff.mp h1).1]
  · rw [List.getElem?_set_ne c]; exact h1
end W3
end

section
namespace W3
open PySem
structure Began (h : Hh) (l ln : Nat) (fm : Fm) : Prop where
  o : FmOk fm
  bx : IsBox h l
  nm : lstAt h ln = some (tSs fm.names)
  nl : ln ≠ l
theorem Began.up {h h' : Hh} {l ln : Nat} {fm : Fm} (m : Began h l ln fm) (u : Up l h h') : Began h' l ln fm := ⟨m.o, u.box, u.lst m.nm m.nl, m.nl⟩
theorem Began.app {h : Hh} {l ln : Nat} {fm : Fm} (m : Began h l ln fm) (o : Hh) : Began (h ++ o) l ln fm := m.up (Up.app m.bx o)
end W3
end

section
namespace W3
open PySem
def notWiped : Ev → Bool | .wiped _ => false | _ => true
def Rz.Lk : Rz → Rz → Prop
  | .ok d t, .ok d' t' => d = d' ∧ t.filter notWiped = t'.filter notWiped
  | .many n, .many m => n = m
  | _, _ => False
theorem Rz.Lk.refl (x : Rz) : x.Lk x := by cases x <;> simp [Rz.Lk]
end W3
end

section
namespace W3
open PySem
def strT : T → Str | .str s => s | _ => ⟨#[]⟩
def blT : T → Bool | .bl b => b | _ => false
def aroT : T → Aro | .tup ts => .pairs (sortP (ts.map prOf)) | .str s => .word s | _ => .word ⟨#[]⟩
def s6 (p k : Str) (v x : T) : T := if p = k then v else x
def putR (p : Str) (v : T) (r : Ru) : Ru := { opens := if p = "opens" then strT v else r.opens, checks := if p = "checks" then strT v else r.checks, around := if p = "around" then aroT v else r.around, wipes := if p = "wipes" then blT v else r.wipes, taken := if p = "taken" then strT v else r.taken, sending := if p = "sending" then strT v else r.sending }
theorem fit_wipes (b : Bool) : fitsB "wipes" (.bl b) = true := by
  unfold fitsB
  rw [if_pos rfl]
  rfl
structure Chg (p : Str) (v : T) (r : Ru) (h : Hh) : Prop where
  ok : RuOk (putR p v r)
  ne : ruleErr PARTSL [s6 p "opens" v (.str r.opens), s6 p "checks" v (.str r.checks), s6 p "around" v r.around.t, s6 p "wipes" v (.bl r.wipes), s6 p "taken" v (.str r.taken), s6 p "sending" v (.str r.sending)] = none
  ins : ruleIns (s6 p "opens" v (.str r.opens)) (s6 p "checks" v (.str r.checks)) (s6 p "around" v r.around.t) (s6 p "wipes" v (.bl r.wipes)) (s6 p "taken" v (.str r.taken)) (s6 p "sending" v (.str r.sending)) = (putR p v r).ins
  j : ∀ x ∈ [s6 p "opens" v (.str r.opens), s6 p "checks" v (.str r.checks), s6 p "around" v r.around.t, s6 p "wipes" v (.bl r.wipes), s6 p "taken" v (.str r.taken), s6 p "sending" v (.str r.sending)], JdN 2 x h ∧ shortT x
def takesB (p v : T) : Bool := match p with | .str s => decide (s ∈ PARTSL) && fitsB s v | _ => false
def putP (p v : T) (r : Ru) : Ru := match p with | .str s => putR s v r | _ => r
def WithPW (f : Fn) : Prop := ∀ {h : Hh} {a : Nat} {r : Ru} {p v : T} {Q : T → Hh → Prop} {E : EQ}, RuleAt h a r → RuOk r → Jd p h → JdN 2 v h → shortT v → (takesB p v = true → RuOk (putP p v r) → ∀ b z, h.length ≤ b → RuleAt (h ++ z) b (putP p v r) → Q (.ref b) (h ++ z)) →
  (takesB p v = false → E "InvalidRule" [("part", p)] h) → (f [.ref a, p, v] h).wp Q E
theorem WithPW.good {f : Fn} (W : WithPW f) {h : Hh} {a : Nat} {r : Ru} {p : Str} {v : T} {Q : T → Hh → Prop} {E : EQ} (ra : RuleAt h a r) (o : RuOk r) (hp : p ∈ PARTSL) (hf : fitsB p v = true) (jv : JdN 2 v h) (sv : shortT v)
    (hq : ∀ b z, h.length ≤ b → RuOk (putR p v r) → RuleAt (h ++ z) b (putR p v r) → Q (.ref b) (h ++ z)) : (f [.ref a, .str p, v] h).wp Q E := by
  have pl : ∀ x ∈ PARTSL, x.length ≤ 1000 := by decide +kernel
  have ht : takesB (.str p) v = true := by simp only [takesB, hf, decide_eq_true hp, Bool.and_self]
  refine W ra o (show Jd (.str p) h from pl p hp) jv sv (fun _ o' b z bl ra' => hq b z bl o' ra') (fun hn => ?_)
  rw [ht] at hn
  cases hn
theorem WithPW.word {f : Fn} (W : WithPW f) {h : Hh} {a : Nat} {r : Ru} {p s : Str} {Q : T → Hh → Prop} {E : EQ} (ra : RuleAt h a r) (o : RuOk r) (hp : p ∈ PARTSL) (hf : fitsB p (.str s) = true) (hs : s.length ≤ 1000)
    (hq : ∀ b z, h.length ≤ b → RuOk (putR p (.str s) r) → RuleAt (h ++ z) b (putR p (.str s) r) → Q (.ref b) (h ++ z)) : (f [.ref a, .str p, .str s] h).wp Q E :=
  W.good ra o hp hf (jdN_str hs) (fun ts e => by cases e) hq
theorem WithPW.bool {f : Fn} (W : WithPW f) {h : Hh} {a : Nat} {r : Ru} {b : Bool} {Q : T → Hh → Prop} {E : EQ} (ra : RuleAt h a r) (o : RuOk r)
    (hq : ∀ x z, h.length ≤ x → RuOk { r with wipes := b } → RuleAt (h ++ z) x { r with wipes := b } → Q (.ref x) (h ++ z)) : (f [.ref a, .str "wipes", .bl b] h).wp Q E := by
  have e : putR "wipes" (.bl b) r = { r with wipes := b } := by kernel_rfl
  exact W.good ra o (by decide +kernel) (fit_wipes b) jdN_bl (fun ts e => by cases e) fun x z hx o' ra' => by rw [e] at o' ra'; exact hq x z hx o' ra'
theorem WithPW.pairs {f : Fn} (W : WithPW f) {h : Hh} {a : Nat} {r : Ru} {ps : Prs} {Q : T → Hh → Prop} {E : EQ} (ra : RuleAt h a r) (o : RuOk r) (po : PrsOk ps) (hl : ps.length < 64)
    (hq : ∀ x z, h.length ≤ x → RuOk { r with around := .pairs (sortP ps) } → RuleAt (h ++ z) x { r with around := .pairs (sortP ps) } → Q (.ref x) (h ++ z)) : (f [.ref a, .str "around", .tup (ps.map tPr)] h).wp Q E := by
  have e0 : putR "around" (.tup (ps.map tPr)) r = { r with around := aroT (.tup (ps.map tPr)) } := by kernel_rfl
  have e : putR "around" (.tup (ps.map tPr)) r = { r with around := .pairs (sortP ps) } := by
    rw [e0]
    simp only [aroT, prOf_tPr]
  have ml : MEN.lookup ("around" : Str) = some (["own", "looks"] : List Str) := by decide +kernel
  have hf : fitsB "around" (.tup (ps.map tPr)) = true := by
    unfold fitsB
    rw [if_neg (by decide +kernel), ml, pairsB_prs po]
    simp
  have nm : ∀ p ∈ ps, p.1.length ≤ 1000 ∧ p.2.length ≤ 1000 := fun p hp => ⟨Nat.le_trans (po.nm p hp).1.2.1 (by omega), Nat.le_trans (po.nm p hp).2.1.2.1 (by omega)⟩
  have jv : JdN 2 (.tup (ps.map tPr)) h := jdN_tup (by simp; omega) fun t ht => by
    obtain ⟨p, hp, rfl⟩ := List.mem_map.mp ht
    refine jdN_tup (by simp) fun t ht => ?_
    simp at ht
    rcases ht with rfl | rfl
    · exact jdN_str (nm p hp).1
    · exact jdN_str (nm p hp).2
  exact W.good ra o (by decide +kernel) hf jv (fun ts e => by cases e; simpa using hl) fun x z hx o' ra' => by rw [e] at o' ra'; exact hq x z hx o' ra'
theorem SameV.tup {h : Hh} {n : Nat} {ts us : List T} (hl : ts.length = us.length) (hz : ts.length ≤ 100000) (p : ∀ (i : Nat) (x y : T), ts[i]? = some x → us[i]? = some y → SameV h n x y) : SameV h (n + 1) (.tup ts) (.tup us) :=
  .inr ⟨ts, us, .inl ⟨rfl, rfl⟩, hl, hz, p⟩
end W3
end

section
namespace W3
open PySem
end W3
end

section
namespace W3
open PySem
theorem StepAt.fz {h h' : Hh} {n l : Nat} {d b a e : T} (s : StepAt h l d b a e) (u : Fz n h h') (hl : l < n) : StepAt h' l d b a e := by
  unfold StepAt at s ⊢
  rw [u.2 l hl]
  exact s
end W3
namespace W3
open PySem
end W3
end

section
namespace W3
open PySem
theorem entry_congr (fm : Fm) (p : Str × Fd) {d d' : Sd} (hw : d'.words = d.words) (hk : d'.known = d.known) : entryC fm p d' = entryC fm p d := by
  unfold entryC
  rw [hw, hk]
structure Fresh (fm : Fm) (d : Sd) (p : Str × Fd) : Prop where
  m : rowAt d.mess (fIx fm p.1) = (entryC fm p d).1
  q : (entryC fm p d).2 = true → (p.1, wAt fm d.words p.1, true) ∈ d.quest
theorem Fresh.to {fm : Fm} {d d' : Sd} {p : Str × Fd} (f : Fresh fm d p) (hw : d'.words = d.words) (hk : d'.known = d.known) (hm : rowAt d'.mess (fIx fm p.1) = rowAt d.mess (fIx fm p.1)) (hq : ∀ w, (p.1, w, true) ∈ d.quest → (p.1, w, true) ∈ d'.quest) : Fresh fm d' p := by
  have e := entry_congr fm p hw hk
  refine ⟨by rw [hm, e]; exact f.m, fun h => ?_⟩
  rw [e] at h
  rw [hw]
  exact hq _ (f.q h)
end W3
end

section
namespace W3
open PySem
def AllFresh (fm : Fm) (d : Sd) : Prop := ∀ p ∈ fm.fields, Fresh fm d p ∧ openC fm d p = true
theorem Fresh.same {fm : Fm} {d d' : Sd} {p : Str × Fd} (f : Fresh fm d p) (hw : d'.words = d.words) (hk : d'.known = d.known) (hm : d'.mess = d.mess) (hq : d'.quest = d.quest) : Fresh fm d' p := f.to hw hk (by rw [hm]) fun w h => by rw [hq]; exact h
end W3
end

section
namespace W3
open PySem
structure SentOk (fm : Fm) (d : Sd) (ws : List Str) : Prop where
  w : ws = d.words
  q : d.quest = []
  t : ∀ p ∈ fm.fields, trueV fm d.words p = none
end W3
end

section
namespace W3
open PySem
structure LastV (fm : Fm) (d : Sd) (p : Str × Fd) : Prop where
  o : openC fm d p = true
  n : nearV fm d.words p = none
  c : trueV fm d.words p = none ∨ (p.1, wAt fm d.words p.1, true) ∈ d.quest ∨
    (rowAt d.mess (fIx fm p.1) = trueV fm d.words p ∧ (trueV fm d.words p).isSome = true ∧ d.known[fIx fm p.1]? = some (some (wAt fm d.words p.1, trueV fm d.words p)) ∧ ∀ w, (p.1, w, true) ∉ d.quest)
theorem LastV.to {fm : Fm} {d d' : Sd} {p : Str × Fd} (f : LastV fm d p) (ho : openC fm d' p = true) (hw : d'.words = d.words) (hk : d'.known[fIx fm p.1]? = d.known[fIx fm p.1]?) (hm : rowAt d'.mess (fIx fm p.1) = rowAt d.mess (fIx fm p.1)) (hq : ∀ w, (p.1, w, true) ∈ d.quest ↔ (p.1, w, true) ∈ d'.quest) : LastV fm d' p := by
  refine ⟨ho, by rw [hw]; exact f.n, ?_⟩
  rw [hw, hm, hk]
  rcases f.c with h | h | ⟨h1, h2, h3, h4⟩
  · exact .inl h
  · exact .inr (.inl ((hq _).mp h))
  · exact .inr (.inr ⟨h1, h2, h3, fun w hw => h4 w ((hq w).mpr hw)⟩)
end W3
end

section
namespace W3
open PySem
end W3
end

section
namespace W3
open PySem
end W3
end

section
namespace W3
open PySem
def noFar (p : Str × Fd) : Str × Fd := (p.1, { p.2 with far := none })
def Fm.bare (fm : Fm) : Fm := { fm with fields := fm.fields.map noFar }
structure Calm (fm : Fm) (d : Sd) : Prop where
  s : SdW fm d
  q : d.quest = []
  k : d.known = List.replicate fm.fields.length none
  w : d.wait = false
theorem Calm.sd {fm : Fm} {d : Sd} (c : Calm fm d) (s : Str) : SdOk fm s d := c.s.ok fun h => by rw [c.w] at h; cases h
end W3
end

section
namespace W3
open PySem
def AskedBy (fm : Fm) (d : Sd) (ps : List (Str × Fd)) : Prop := ∀ x ∈ d.quest, ∃ p ∈ ps, x = (p.1, wAt fm d.words p.1, true) ∧ p.2.far.isSome = true ∧ nearV fm d.words p = none
structure Asking (fm : Fm) (d : Sd) : Prop where
  f : AllFresh fm d
  a : AskedBy fm d fm.fields
def ansF (fm : Fm) (r : Ru) : Nat → Sd → Sd × List Ev
  | 0, d => (d, [])
  | k + 1, d => ((ansF fm r k (answerC fm r 0 d []).1).1, (answerC fm r 0 d []).2.filter is_sent ++ (ansF fm r k (answerC fm r 0 d []).1).2)
end W3
end

section
namespace W3
open PySem
def errsB (fm : Fm) (ws : List Str) : Bool := (fm.fields.map (trueV fm ws)).any fun e => e.isSome
structure Sent33 (fm : Fm) (r : Ru) (d d' : Sd) (t' : List Ev) : Prop where
  s : SdOk fm r.sending (ansF fm r 3 d').1
  a : Asking fm (ansF fm r 3 d').1
  q : (ansF fm r 3 d').1.quest = []
  w : (ansF fm r 3 d').1.words = d.words
  n : (ansF fm r 3 d').1.wait = false
  go : r.sending = "go" → errsB fm d.words = false → t'.filter is_sent ++ (ansF fm r 3 d').2 = [.sent d.words]
  wait : r.sending = "wait" → t'.filter is_sent ++ (ansF fm r 3 d').2 = if errsB fm d.words = true then [] else [.sent d.words]
end W3
end

section
namespace W3
open PySem
structure L2S (n : Nat) (h : Hh) (ls lt : Nat) (p : Pl) (d : Sd) (t : List Ev) : Prop where
  c : LSt n h ls p d
  tt : lstAt h lt = some (tEs t)
  tn : lt ≠ ls ∧ lt ≠ p.w ∧ lt ≠ p.s ∧ lt ≠ p.m ∧ lt ≠ p.k ∧ lt ≠ p.q
  tl : n ≤ lt
section
variable {n : Nat} {h : Hh} {ls lt : Nat} {p : Pl} {d : Sd} {t : List Ev}
theorem L2S.app (x : L2S n h ls lt p d t) (o : Hh) : L2S n (h ++ o) ls lt p d t := ⟨x.c.app o, lstAt_app o x.tt, x.tn, x.tl⟩
theorem L2S.told (x : L2S n h ls lt p d t) (e : Ev) : L2S n (h.set lt (.lst (tEs (t ++ [e])))) ls lt p d (t ++ [e]) := by
  obtain ⟨a, b, c, d, e, f⟩ := x.tn
  exact ⟨⟨by rw [lstAt_set_ne a]; exact x.c.top, by rw [lstAt_set_ne b]; exact x.c.ww, by rw [lstAt_set_ne c]; exact x.c.ss, by rw [lstAt_set_ne d]; exact x.c.mm, by rw [lstAt_set_ne e]; exact x.c.kk, by rw [lstAt_set_ne f]; exact x.c.qq, x.c.nd, x.c.lo⟩, lstAt_set_self (lstAt_lt x.tt), x.tn, x.tl⟩
theorem L2S.wait (x : L2S n h ls lt p d t) (b : Bool) : L2S n (h.set ls (.lst (topT p b))) ls lt p { d with wait := b } t := ⟨x.c.wait b, by rw [lstAt_set_ne (Ne.symm x.tn.1)]; exact x.tt, x.tn, x.tl⟩
end
def own (ls lt : Nat) (p : Pl) : List Nat := [ls, lt, p.w, p.s, p.m, p.k, p.q]
def Kq (ls lt : Nat) (p p' : Pl) (h h' : Hh) : Prop := h.length ≤ h'.length ∧ ∀ k, k < h.length → k ∉ own ls lt p → h'[k]? = h[k]? ∧ k ∉ own ls lt p'
section
variable {ls lt : Nat} {p p' : Pl} {h h' : Hh}
theorem Kq.refl : Kq ls lt p p h h := ⟨Nat.le_refl _, fun _ _ hk => ⟨rfl, hk⟩⟩
theorem Kq.trans {p2 : Pl} {h2 : Hh} (a : Kq ls lt p p' h h') (b : Kq ls lt p' p2 h' h2) : Kq ls lt p p2 h h2 :=
  ⟨Nat.le_trans a.1 b.1, fun k hk ho => by
    obtain ⟨e1, o1⟩ := a.2 k hk ho
    obtain ⟨e2, o2⟩ := b.2 k (by have := a.1; omega) o1
    exact ⟨e2.trans e1, o2⟩⟩
theorem Kq.app (o : Hh) : Kq ls lt p p h (h ++ o) := ⟨by simp, fun k hk ho => ⟨List.getElem?_append_left hk, ho⟩⟩
theorem Kq.set {j : Nat} (hj : j ∈ own ls lt p) (o : Ob) : Kq ls lt p p h (h.set j o) := ⟨by simp, fun k hk ho => ⟨List.getElem?_set_ne (fun e : j = k => ho (by rw [← e]; exact hj)), ho⟩⟩
theorem Kq.put (z : Hh) (o : Ob) (hp : ∀ k ∈ own ls lt p', k ∈ own ls lt p ∨ h.length ≤ k) : Kq ls lt p p' h ((h ++ z).set ls o) :=
  ⟨by simp, fun k hk ho => ⟨by
    rw [List.getElem?_set_ne (fun e => ho (by rw [← e]; exact .head _))]
    exact List.getElem?_append_left hk, fun hm => by
      rcases hp k hm with h1 | h1
      · exact ho h1
      · omega⟩⟩
theorem Kq.fz {n : Nat} {d : Sd} {t : List Ev} (a : Kq ls lt p p' h h') (x : L2S n h ls lt p d t) : Fz n h h' :=
  ⟨a.1, fun k hk => (a.2 k (by have := x.c.nl; omega) (fun hm => by
    obtain ⟨l0, l1, l2, l3, l4, l5⟩ := x.c.lo
    have := x.tl
    simp only [own, List.mem_cons, List.not_mem_nil, or_false] at hm
    omega)).1⟩
theorem Kq.lst {x : Nat} {ts : List T} (a : Kq ls lt p p' h h') (e : lstAt h x = some ts) (hx : x ∉ own ls lt p) : lstAt h' x = some ts ∧ x ∉ own ls lt p' := by
  obtain ⟨e1, o1⟩ := a.2 x (lstAt_lt e) hx
  refine ⟨?_, o1⟩
  unfold lstAt at e ⊢
  rw [e1]
  exact e
theorem L2S.out {n : Nat} {d : Sd} {t : List Ev} (x : L2S n h ls lt p d t) {y : Nat} (hy : h.length ≤ y) : y ∉ own ls lt p := fun hm => by
  have l1 := x.c.lts
  have l2 := x.c.llt
  have l3 := lstAt_lt x.tt
  simp only [own, List.mem_cons, List.not_mem_nil, or_false] at hm
  omega
end
end W3
end

section
namespace W3
open PySem
structure Two (fm : Fm) (r : Ru) (p1 p2 : Str × Fd) : Prop where
  o : FmOk fm
  ro : RuOk r
  fs : fm.fields = [p1, p2]
  ne : p1.1 ≠ p2.1
  f1 : p1.2.far = none
  rm : fm.room = 3
  rc : r.checks = "enter"
  rt : r.taken = "same"
  nf : foundC fm r p1.1 = []
structure Pre (fm : Fm) (p2 : Str × Fd) (wo : Str) (d : Sd) : Prop where
  s : SdW fm d
  w : d.wait = false
  k : d.known = List.replicate fm.fields.length none
  q : d.quest = [] ∨ (d.quest = [(p2.1, wo, true)] ∧ nearV fm d.words p2 = none)
section
variable {fm : Fm} {r : Ru} {p1 p2 : Str × Fd} {wo : Str} {d : Sd}
theorem Two.m1 (T : Two fm r p1 p2) : p1 ∈ fm.fields := by rw [T.fs]; exact .head _
theorem Two.m2 (T : Two fm r p1 p2) : p2 ∈ fm.fields := by rw [T.fs]; exact .tail _ (.head _)
end
end W3
end

section
namespace W3
open PySem
section
variable {fm : Fm} {r : Ru} {p1 p2 : Str × Fd} {wo : Str}
end
end W3
end

section
namespace W3
open PySem
structure Fq (S : Nat → Prop) (h h' : Hh) : Prop where
  le : h.length ≤ h'.length
  keep : ∀ k, k < h.length → ¬ S k → h'[k]? = h[k]?
  was : ∀ k, S k → k < h.length → ∃ ts, h[k]? = some (.lst ts)
  is_ : ∀ k, S k → k < h.length → ∃ ts, h'[k]? = some (.lst ts)
section
variable {S : Nat → Prop} {h h' h2 : Hh}
theorem Fq.trans (a : Fq S h h') (b : Fq S h' h2) : Fq S h h2 :=
  ⟨Nat.le_trans a.le b.le, fun k hk hs => (b.keep k (Nat.lt_of_lt_of_le hk a.le) hs).trans (a.keep k hk hs), a.was, fun k hs hk => b.is_ k hs (Nat.lt_of_lt_of_le hk a.le)⟩
theorem Fq.refl (hS : ∀ k, S k → k < h.length → ∃ ts, h[k]? = some (.lst ts)) : Fq S h h := ⟨Nat.le_refl _, fun _ _ _ => rfl, hS, hS⟩
theorem Fq.app (a : Fq S h h') (o : Hh) : Fq S h (h' ++ o) :=
  ⟨by have := a.le; simp; omega, fun k hk hs => (List.getElem?_append_left (Nat.lt_of_lt_of_le hk a.le)).trans (a.keep k hk hs), a.was, fun k hs hk => by
    obtain ⟨ts, e⟩ := a.is_ k hs hk
    exact ⟨ts, (List.getElem?_append_left (Nat.lt_of_lt_of_le hk a.le)).trans e⟩⟩
theorem Fq.sub {R : Nat → Prop} (a : Fq S h h') (hR : ∀ k, S k → R k) (h1 : ∀ k, R k → k < h.length → ∃ ts, h[k]? = some (.lst ts)) : Fq R h h' :=
  ⟨a.le, fun k hk hs => a.keep k hk fun z => hs (hR k z), h1, fun k hs hk => by
    by_cases q : S k
    · exact a.is_ k q hk
    · obtain ⟨ts, e⟩ := h1 k hs hk
      exact ⟨ts, (a.keep k hk q).trans e⟩⟩
theorem Fq.ins {c : Str} {fs : List (Str × T)} {k : Nat} (a : Fq S h h') (e : h[k]? = some (.ins c fs)) : h'[k]? = some (.ins c fs) := by
  have hk := (List.getElem?_eq_some_iff.mp e).1
  rw [a.keep k hk fun z => ?_]
  · exact e
  · obtain ⟨ts, e2⟩ := a.was k z hk
    rw [e] at e2
    cases e2
theorem Fq.lst {k : Nat} {ts : List T} (a : Fq S h h') (e : lstAt h k = some ts) (hn : ¬ S k) : lstAt h' k = some ts := by
  unfold lstAt at e ⊢
  have hk : k < h.length := by
    cases q : h[k]? with
    | none => rw [q] at e; cases e
    | some o => exact (List.getElem?_eq_some_iff.mp q).1
  rw [a.keep k hk hn]
  exact e
theorem Fq.form {l : Nat} {fm : Fm} (a : Fq S h h') (e : FormAt h l fm) : FormAt h' l fm := a.ins e
theorem Fq.rule {l : Nat} {r : Ru} (a : Fq S h h') (e : RuleAt h l r) : RuleAt h' l r := a.ins e
theorem Fq.step {l : Nat} {d b x e : T} (a : Fq S h h') (q : StepAt h l d b x e) : StepAt h' l d b x e := a.ins q
theorem Fq.mem {k : Nat} (a : Fq S h h') (hs : S k) (hk : k < h.length) : ∃ ts, lstAt h' k = some ts := by
  obtain ⟨ts, e⟩ := a.is_ k hs hk
  exact ⟨ts, lstAt_of e⟩
end
theorem Up.fq {l : Nat} {h h' : Hh} (b : IsBox h l) (u : Up l h h') : Fq (fun k => k = l) h h' :=
  ⟨u.le, fun k hk hn => u.keep k hk hn, fun k e _ => by
    subst e
    obtain ⟨c, cells, i, d, s, n, e, _⟩ := b
    exact ⟨_, of_lstAt e⟩, fun k e _ => by
    subst e
    obtain ⟨c, cells, i, d, s, n, e, _⟩ := u.box
    exact ⟨_, of_lstAt e⟩⟩
theorem fq_app (h o : Hh) : Fq (fun _ => False) h (h ++ o) := ⟨by simp, fun k hk _ => List.getElem?_append_left hk, fun _ f _ => f.elim, fun _ f _ => f.elim⟩
structure BxC (h : Hh) (l c : Nat) : Prop where
  b : IsBox h l
  c : BoxC h l = some c
theorem BxC.of {h : Hh} {l : Nat} (b : IsBox h l) : ∃ c, BxC h l c ∧ c < h.length := by
  have b0 := b
  obtain ⟨c, cells, i, d, s, n, e, e2, h1, h2⟩ := b
  refine ⟨c, ⟨b0, ?_⟩, lstAt_lt e2⟩
  unfold BoxC
  rw [e]
  rfl
theorem BxC.up {h h' : Hh} {l c : Nat} (x : BxC h l c) (u : Up l h h') : BxC h' l c := ⟨u.box, u.bc.trans x.c⟩
theorem BxC.app {h : Hh} {l c : Nat} (x : BxC h l c) (o : Hh) : BxC (h ++ o) l c := x.up (Up.app x.b o)
theorem BxC.fq {S : Nat → Prop} {h h' : Hh} {l c : Nat} (x : BxC h l c) (a : Fq S h h') (hl : ¬ S l) (hc : ¬ S c) : BxC h' l c := by
  obtain ⟨⟨c', cells, i, d, s, n, e, e2, h1, h2⟩, q⟩ := x
  unfold BoxC at q
  rw [e] at q
  have q : some c' = some c := q
  injection q with q
  subst q
  refine ⟨⟨c', cells, i, d, s, n, a.lst e hl, a.lst e2 hc, h1, h2⟩, ?_⟩
  unfold BoxC
  rw [a.lst e hl]
  rfl
structure Hy where
  D : Dd
  aft : Sd
  ev : List Ev
def StpAt (h : Hh) (b : Nat) (y : Hy) : Prop := ∃ bf, StepAt h b y.D.t bf y.aft.t (.tup (tEs y.ev))
def liveIns (d0 : Sd) (lf ar ls : Nat) : List (Str × T) := [("beginning", d0.t), ("form", .ref lf), ("rule", .ref ar), ("steps_done", .ref ls)]
abbrev Pc := List (Nat × Hy)
abbrev pcT (xs : Pc) : List T := xs.map fun s => T.ref s.1
structure LiveAt (h : Hh) (l lf ar ls : Nat) (d0 : Sd) (xs : Pc) : Prop where
  ins : h[l]? = some (.ins "Live" (liveIns d0 lf ar ls))
  st : lstAt h ls = some (pcT xs)
  at_ : ∀ s ∈ xs, StpAt h s.1 s.2
def liveD (d0 : Sd) (ys : List Hy) : Sd := match ys.getLast? with | none => d0 | some s => s.aft
def lastEv (ys : List Hy) : List Ev := match ys.getLast? with | none => [] | some s => s.ev
abbrev Pc.v (xs : Pc) : List Hy := xs.map Prod.snd
section
variable {S : Nat → Prop} {h h' : Hh} {l lf ar ls : Nat} {d0 : Sd} {xs : Pc}
theorem LiveAt.fq (x : LiveAt h l lf ar ls d0 xs) (a : Fq S h h') (hn : ¬ S ls) : LiveAt h' l lf ar ls d0 xs :=
  ⟨a.ins x.ins, a.lst x.st hn, fun s hs => by obtain ⟨bf, q⟩ := x.at_ s hs; exact ⟨bf, a.step q⟩⟩
theorem LiveAt.app (x : LiveAt h l lf ar ls d0 xs) (o : Hh) : LiveAt (h ++ o) l lf ar ls d0 xs := x.fq (fq_app h o) fun z => z
theorem LiveAt.i (x : LiveAt h l lf ar ls d0 xs) : insAt h l = some (("Live" : Str), liveIns d0 lf ar ls) := insAt_of x.ins
theorem LiveAt.m {m : Str} (x : LiveAt h l lf ar ls d0 xs) (hm : (liveIns d0 lf ar ls).lookup m = none) : mOk "Live" m (.ref l) h = true := mOk_of x.i hm
theorem LiveAt.len (x : LiveAt h l lf ar ls d0 xs) : (pcT xs).length = xs.length := List.length_map _
theorem LiveAt.lt (x : LiveAt h l lf ar ls d0 xs) : l < h.length := (List.getElem?_eq_some_iff.mp x.ins).1
end
structure HsOk (fm : Fm) (r : Ru) (d0 : Sd) (ys : List Hy) : Prop where
  d0 : SdOk fm r.sending d0
  sd : ∀ y ∈ ys, SdOk fm r.sending y.aft
  dk : ∀ y ∈ ys, DdOk fm y.D
  ev : ∀ y ∈ ys, EvsOk fm y.ev ∧ y.ev.length ≤ 20
theorem HsOk.now {fm : Fm} {r : Ru} {d0 : Sd} {ys : List Hy} (o : HsOk fm r d0 ys) : SdOk fm r.sending (liveD d0 ys) := by
  unfold liveD
  cases e : ys.getLast? with
  | none => exact o.d0
  | some y => exact o.sd y (List.mem_of_getLast? e)
theorem HsOk.last {fm : Fm} {r : Ru} {d0 : Sd} {ys : List Hy} (o : HsOk fm r d0 ys) : EvsOk fm (lastEv ys) ∧ (lastEv ys).length ≤ 20 := by
  unfold lastEv
  cases e : ys.getLast? with
  | none => exact ⟨.nil, by simp⟩
  | some y => exact o.ev y (List.mem_of_getLast? e)
theorem HsOk.nil {fm : Fm} {r : Ru} {d0 : Sd} (s : SdOk fm r.sending d0) : HsOk fm r d0 [] := ⟨s, fun _ q => (List.not_mem_nil q).elim, fun _ q => (List.not_mem_nil q).elim, fun _ q => (List.not_mem_nil q).elim⟩
theorem HsOk.app {fm : Fm} {r : Ru} {d0 : Sd} {ys zs : List Hy} (o : HsOk fm r d0 ys) (z : HsOk fm r d0 zs) : HsOk fm r d0 (ys ++ zs) :=
  ⟨o.d0, fun y q => (List.mem_append.mp q).elim (o.sd y) (z.sd y), fun y q => (List.mem_append.mp q).elim (o.dk y) (z.dk y), fun y q => (List.mem_append.mp q).elim (o.ev y) (z.ev y)⟩
theorem HsOk.snoc {fm : Fm} (om : FmOk fm) {r : Ru} {d0 : Sd} {ys : List Hy} (o : HsOk fm r d0 ys) {D : Dd} (dk : DdOk fm D) {d' : Sd} {t : List Ev} (e : stepC fm r D (liveD d0 ys) = .ok d' t) : HsOk fm r d0 (ys ++ [⟨D, d', t⟩]) := by
  have so := step_ok om o.now dk e
  have ev := step_evs om o.now dk e
  refine o.app ⟨o.d0, fun y q => ?_, fun y q => ?_, fun y q => ?_⟩ <;> (rw [List.mem_singleton] at q; subst q; assumption)
theorem HsOk.sub {fm : Fm} {r : Ru} {d0 : Sd} {ys zs : List Hy} (o : HsOk fm r d0 ys) (hz : ∀ y ∈ zs, y ∈ ys) : HsOk fm r d0 zs := ⟨o.d0, fun y q => o.sd y (hz y q), fun y q => o.dk y (hz y q), fun y q => o.ev y (hz y q)⟩
def messT (d : Sd) : T := .tup (d.mess.map tE)
def deedsL (ys : List Hy) : List T := ys.map fun y => y.D.t
def seenL (d0 : Sd) (ys : List Hy) : List T := messT d0 :: ys.map fun y => messT y.aft
def sentW : Ev → Option T | .sent ws => some (.tup (tSs ws)) | _ => none
def sentL (ys : List Hy) : List T := ys.flatMap fun y => y.ev.filterMap sentW
section
variable {h : Hh} {l lf ar ls : Nat} {d0 : Sd} {xs : Pc}
end
theorem flat_le {α β : Type} (f : α → List β) (k : Nat) : ∀ xs : List α, (∀ x ∈ xs, (f x).length ≤ k) → (xs.flatMap f).length ≤ k * xs.length
  | [], _ => by simp
  | x :: xs, h => by
    rw [List.flatMap_cons, List.length_append, List.length_cons, Nat.mul_succ]
    have := h x (.head _)
    have := flat_le f k xs fun y hy => h y (.tail _ hy)
    omega
inductive Dx where
  | good (D : Dd)
  | bad (t : T)
def Dx.t : Dx → T | .good D => D.t | .bad t => t
inductive Fo where
  | ok (ys : List Hy)
  | many (m : Str)
  | bad (t : T)
def StV (h : Hh) (n : Nat) (t : T) (d0 : Sd) (ys : List Hy) (tl : List T) : Prop := ∃ a b c, n ≤ a ∧ n ≤ b ∧ n ≤ c ∧ t = .tup ([(liveD d0 ys).t, .tup (tEs (lastEv ys)), .ref a, .ref b, .ref c, .int ys.length] ++ tl) ∧ lstAt h a = some (deedsL ys) ∧ lstAt h b = some (seenL d0 ys) ∧ lstAt h c = some (sentL ys)
theorem StV.fq {S : Nat → Prop} {h h' : Hh} {n : Nat} {t : T} {d0 : Sd} {ys : List Hy} {tl : List T} (x : StV h n t d0 ys tl) (a : Fq S h h') (hS : ∀ k, S k → k < n) : StV h' n t d0 ys tl := by
  obtain ⟨p, q, r, lp, lq, lr, e, e1, e2, e3⟩ := x
  refine ⟨p, q, r, lp, lq, lr, e, a.lst e1 fun z => ?_, a.lst e2 fun z => ?_, a.lst e3 fun z => ?_⟩
  · have := hS _ z; omega
  · have := hS _ z; omega
  · have := hS _ z; omega
theorem StV.mono {h : Hh} {n m : Nat} {t : T} {d0 : Sd} {ys : List Hy} {tl : List T} (x : StV h n t d0 ys tl) (hm : m ≤ n) : StV h m t d0 ys tl := by
  obtain ⟨p, q, r, lp, lq, lr, e⟩ := x
  exact ⟨p, q, r, by omega, by omega, by omega, e⟩
theorem pure_mess {fm : Fm} (o : FmOk fm) {d : Sd} (s : SdW fm d) : PureT 1 (messT d) := by
  have f3 := o.f3
  exact pure_strs (fun t ht => by obtain ⟨s, _, rfl⟩ := List.mem_map.mp ht; exact flat_ent _) (by rw [List.length_map, s.ml]; omega)
theorem deedsL_len (ys : List Hy) : (deedsL ys).length = ys.length := List.length_map _
theorem seenL_len (d0 : Sd) (ys : List Hy) : (seenL d0 ys).length = ys.length + 1 := by simp [seenL]
theorem sentL_len {fm : Fm} {r : Ru} {d0 : Sd} {ys : List Hy} (hs : HsOk fm r d0 ys) : (sentL ys).length ≤ 20 * ys.length := by
  unfold sentL
  refine flat_le _ 20 _ fun y hy => Nat.le_trans (List.length_filterMap_le _ _) (hs.ev y hy).2
theorem pure_deeds {fm : Fm} {r : Ru} {d0 : Sd} {ys : List Hy} (hs : HsOk fm r d0 ys) : ∀ x ∈ deedsL ys, PureT 1 x := fun x hx => by
  obtain ⟨y, hy, rfl⟩ := List.mem_map.mp hx
  exact pure_dd (hs.dk y hy)
theorem pure_seen {fm : Fm} (o : FmOk fm) {r : Ru} {d0 : Sd} {ys : List Hy} (hs : HsOk fm r d0 ys) : ∀ x ∈ seenL d0 ys, PureT 1 x := fun x hx => by
  rcases List.mem_cons.mp hx with rfl | hx
  · exact pure_mess o hs.d0.w
  · obtain ⟨y, hy, rfl⟩ := List.mem_map.mp hx
    exact pure_mess o (hs.sd y hy).w
theorem pure_sent {fm : Fm} (o : FmOk fm) {r : Ru} {d0 : Sd} {ys : List Hy} (hs : HsOk fm r d0 ys) : ∀ x ∈ sentL ys, PureT 1 x := fun x hx => by
  obtain ⟨y, hy, hx⟩ := List.mem_flatMap.mp hx
  obtain ⟨e, he, hx⟩ := List.mem_filterMap.mp hx
  have := (hs.ev y hy).1 e he
  have f3 := o.f3
  cases e <;> simp [sentW] at hx
  subst hx
  exact pure_strs (fun t ht => by obtain ⟨s, _, rfl⟩ := List.mem_map.mp ht; rfl) (by rw [List.length_map, (show WsOk fm _ from this).len]; omega)
theorem StV.same {fm : Fm} (o : FmOk fm) {r : Ru} {h : Hh} {n m : Nat} {t u : T} {d0 : Sd} {ys : List Hy} {tl : List T} (hs : HsOk fm r d0 ys) (hl : ys.length ≤ 1000) (htl : ∀ x ∈ tl, flatT x = true) (tl2 : tl.length ≤ 10) (x : StV h n t d0 ys tl) (y : StV h m u d0 ys tl) : SameV h 5 t u := by
  obtain ⟨a, b, c, _, _, _, rfl, e1, e2, e3⟩ := x
  obtain ⟨a', b', c', _, _, _, rfl, g1, g2, g3⟩ := y
  refine SameV.tup (by simp) (by simp; omega) fun i x y hx hy => ?_
  have ev := hs.last
  match i, hx, hy with
  | 0, hx, hy => cases hx; cases hy; exact (pure_sd o hs.now.w).same
  | 1, hx, hy => cases hx; cases hy; exact ((pure_evs o ev.1 (by omega)).up).same
  | 2, hx, hy => cases hx; cases hy; exact SameV.lists e1 g1 (by rw [deedsL_len]; omega) fun x hx => ((pure_deeds hs x hx).add 2)
  | 3, hx, hy => cases hx; cases hy; exact SameV.lists e2 g2 (by rw [seenL_len]; omega) fun x hx => ((pure_seen o hs x hx).add 2)
  | 4, hx, hy => cases hx; cases hy; exact SameV.lists e3 g3 (by have := sentL_len hs; omega) fun x hx => ((pure_sent o hs x hx).add 2)
  | 5, hx, hy => cases hx; cases hy; exact same_flat rfl
  | i + 6, hx, hy =>
    have hx : tl[i]? = some x := by simpa using hx
    have hy : tl[i]? = some y := by simpa using hy
    rw [hx] at hy
    cases hy
    exact same_flat (htl x (List.mem_of_getElem? hx))
@[simp] theorem e_lenO (cn : Str) (ff : List T → Hh → Res T) (l : Nat) (h : Hh) : fLen cn ff [.ref l] h = match insAt h l with
  | some (d, _) => if d = cn then (match ff [.ref l] h with | .ok (.int i) h' => if 0 ≤ i ∧ i < 2 ^ 63 then .ok (.int i) h' else .stk | _ => .stk) else .stk
  | none => bLen [.ref l] h := Eq.trans rfl rfl
end W3
end

section
namespace W3
open PySem
def shT : T → Prop | .str s => s.length ≤ 1000 | _ => True
def FV (l : Nat) (h : Hh) (t : T) : Prop := (flatT t = true ∧ shT t) ∨ ∃ p x, t = .ref p ∧ p ≠ l ∧ lstAt h p = some [x] ∧ flatT x = true
def WV (l : Nat) (h : Hh) (t : T) : Prop := FV l h t ∨ ∃ ts, t = .tup ts ∧ ts.length ≤ 3 ∧ ∀ x ∈ ts, FV l h x
section
variable {l : Nat} {h h' : Hh} {t : T}
theorem FV.fq {S : Nat → Prop} (v : FV l h t) (a : Fq S h h') (hS : ∀ p, S p → p = l) : FV l h' t := by
  rcases v with v | ⟨p, x, rfl, hp, e, hx⟩
  · exact .inl v
  · exact .inr ⟨p, x, rfl, hp, a.lst e fun z => hp (hS p z), hx⟩
theorem WV.fq {S : Nat → Prop} (v : WV l h t) (a : Fq S h h') (hS : ∀ p, S p → p = l) : WV l h' t := by
  rcases v with v | ⟨ts, rfl, hl, g⟩
  · exact .inl (v.fq a hS)
  · exact .inr ⟨ts, rfl, hl, fun x hx => (g x hx).fq a hS⟩
theorem FV.up (v : FV l h t) (b : IsBox h l) (u : Up l h h') : FV l h' t := v.fq (u.fq b) fun _ e => e
theorem WV.up (v : WV l h t) (b : IsBox h l) (u : Up l h h') : WV l h' t := v.fq (u.fq b) fun _ e => e
theorem FV.app (v : FV l h t) (o : Hh) : FV l (h ++ o) t := v.fq (fq_app h o) fun _ f => f.elim
theorem WV.app (v : WV l h t) (o : Hh) : WV l (h ++ o) t := v.fq (fq_app h o) fun _ f => f.elim
theorem FV.same (v : FV l h t) : SameV h 1 t t := by
  rcases v with ⟨f, _⟩ | ⟨p, x, rfl, hp, e, hx⟩
  · exact .inl ⟨rfl, f⟩
  · exact SameV.lists e e (by simp) fun y hy => by rw [List.mem_singleton] at hy; subst hy; exact hx
theorem WV.same (v : WV l h t) : SameV h 2 t t := by
  rcases v with v | ⟨ts, rfl, hl, g⟩
  · exact v.same.up
  · refine SameV.tup rfl (by omega) fun i x y hx hy => ?_
    rw [hx] at hy
    cases hy
    exact (g x (List.mem_of_getElem? hx)).same
theorem FV.jd (v : FV l h t) : Jd t h := by
  rcases v with ⟨f, s⟩ | ⟨p, x, rfl, hp, e, hx⟩
  · cases t with
    | str x => exact s
    | non => trivial
    | bl x => trivial
    | int x => trivial
    | _ => cases f
  · exact .inl ⟨_, of_lstAt e⟩
theorem FV.nt (v : FV l h t) : ∀ ts, t ≠ .tup ts := fun ts e => by
  subst e
  rcases v with ⟨f, s⟩ | ⟨p, x, e, _⟩
  · cases f
  · cases e
theorem FV.jdN (v : FV l h t) (n : Nat) : JdN n t h := by
  cases n with
  | zero => exact v.jd
  | succ n => exact ⟨v.jd, fun ts e => (v.nt ts e).elim⟩
theorem WV.jdN (v : WV l h t) : JdN 1 t h := by
  rcases v with v | ⟨ts, rfl, hl, g⟩
  · exact v.jdN 1
  · exact jdN_tup (by omega) fun x hx => (g x hx).jdN 0
theorem FV.flat (f : flatT t = true) (s : shT t) : FV l h t := .inl ⟨f, s⟩
theorem FV.one {p : Nat} {x : T} (hp : p ≠ l) (e : lstAt h p = some [x]) (hx : flatT x = true) : FV l h (.ref p) := .inr ⟨p, x, rfl, hp, e, hx⟩
end
end W3
end

section
namespace W3
open PySem
theorem Fz.lst {n k : Nat} {h h' : Hh} {ts : List T} (f : Fz n h h') (e : lstAt h k = some ts) (hk : k < n) : lstAt h' k = some ts := by
  unfold lstAt at e ⊢
  rw [f.2 k hk]
  exact e
end W3
end

section
namespace W3
open PySem
theorem e_eq_ns (a : Str) (h : Hh) : oEq .non (.str a) h = .ok (.bl false) h := rfl
end W3
end

section
namespace W3
open PySem
def atomT : T → Bool | .non => true | .int _ => true | .str _ => true | _ => false
def PlT : Nat → T → Prop
  | 0, t => atomT t = true
  | n + 1, t => atomT t = true ∨ ∃ ts, t = .tup ts ∧ ∀ x ∈ ts, PlT n x
def dOf (h : Hh) (m : Nat) (t : T) : PyData := (toD h m t).getD .none
theorem optL_mapD {f : T → Option PyData} {D : T → PyData} : ∀ {ts : List T}, (∀ x ∈ ts, f x = some (D x)) → optL f ts = some (ts.map D)
  | [], _ => rfl
  | t :: ts, h => by
    unfold optL
    rw [h t (.head _), optL_mapD (ts := ts) fun x hx => h x (.tail _ hx)]
    rfl
theorem eqvAll_iff {D : T → PyData} : ∀ {ts us : List T}, (∀ x ∈ ts, ∀ y ∈ us, PyData.eqv (D x) (D y) = true ↔ x = y) → (PyData.eqvAll (ts.map D) (us.map D) = true ↔ ts = us)
  | [], [], _ => by simp [PyData.eqvAll]
  | [], y :: us, _ => by simp [PyData.eqvAll]
  | x :: ts, [], _ => by simp [PyData.eqvAll]
  | x :: ts, y :: us, h => by
    have h1 := h x (.head _) y (.head _)
    have h2 := eqvAll_iff (ts := ts) (us := us) fun a ha b hb => h a (.tail _ ha) b (.tail _ hb)
    rw [List.map_cons, List.map_cons, PyData.eqvAll, Bool.and_eq_true, h1, h2, List.cons.injEq]
theorem atom_cases {t : T} (p : atomT t = true) : t = .non ∨ (∃ i, t = .int i) ∨ ∃ s, t = .str s := by
  cases t with
  | non => exact .inl rfl
  | int i => exact .inr (.inl ⟨i, rfl⟩)
  | str s => exact .inr (.inr ⟨s, rfl⟩)
  | _ => cases p
theorem atom_toD {h : Hh} {m : Nat} {t : T} (p : atomT t = true) : toD h (m + 1) t = some (dOf h (m + 1) t) := by
  rcases atom_cases p with rfl | ⟨i, rfl⟩ | ⟨s, rfl⟩ <;> rfl
theorem atom_eqv {h : Hh} {m : Nat} {t u : T} (p : atomT t = true) (q : atomT u = true) : PyData.eqv (dOf h (m + 1) t) (dOf h (m + 1) u) = true ↔ t = u := by
  have e1 : ∀ i, dOf h (m + 1) (.int i) = .int i := fun i => rfl
  have e2 : ∀ i, dOf h (m + 1) (.str i) = .str i := fun i => rfl
  have e3 : dOf h (m + 1) .non = .none := rfl
  rcases atom_cases p with rfl | ⟨i, rfl⟩ | ⟨s, rfl⟩ <;> rcases atom_cases q with rfl | ⟨j, rfl⟩ | ⟨z, rfl⟩ <;> simp only [e1, e2, e3] <;> simp [PyData.eqv]
theorem atom_tup {h : Hh} {m : Nat} {t : T} (p : atomT t = true) (ds : List PyData) : PyData.eqv (dOf h (m + 1) t) (.tuple ds) = false ∧ PyData.eqv (.tuple ds) (dOf h (m + 1) t) = false := by
  have e1 : ∀ i, dOf h (m + 1) (.int i) = .int i := fun i => rfl
  have e2 : ∀ i, dOf h (m + 1) (.str i) = .str i := fun i => rfl
  have e3 : dOf h (m + 1) .non = .none := rfl
  rcases atom_cases p with rfl | ⟨i, rfl⟩ | ⟨s, rfl⟩ <;> simp only [e1, e2, e3] <;> simp [PyData.eqv]
theorem pl_toD {h : Hh} : ∀ {n m : Nat} {t : T}, PlT n t → n < m → toD h m t = some (dOf h m t)
  | n, 0, t, _, hm => by omega
  | 0, m + 1, t, p, _ => atom_toD p
  | n + 1, m + 1, t, p, hm => by
    rcases p with p | ⟨ts, rfl, g⟩
    · exact atom_toD p
    · have := optL_mapD (f := toD h m) (D := dOf h m) (ts := ts) fun x hx => pl_toD (g x hx) (by omega)
      unfold dOf
      show (optL (toD h m) ts).map PyData.tuple = some (((optL (toD h m) ts).map PyData.tuple).getD .none)
      rw [this]
      rfl
theorem pl_eqv {h : Hh} : ∀ {n m : Nat} {t u : T}, PlT n t → PlT n u → n < m → (PyData.eqv (dOf h m t) (dOf h m u) = true ↔ t = u)
  | n, 0, t, u, _, _, hm => by omega
  | 0, m + 1, t, u, p, q, _ => atom_eqv p q
  | n + 1, m + 1, t, u, p, q, hm => by
    have tp : ∀ {ts : List T}, (∀ x ∈ ts, PlT n x) → dOf h (m + 1) (.tup ts) = .tuple (ts.map (dOf h m)) := fun {ts} g => by
      have := optL_mapD (f := toD h m) (D := dOf h m) (ts := ts) fun x hx => pl_toD (g x hx) (by omega)
      unfold dOf
      show ((optL (toD h m) ts).map PyData.tuple).getD .none = _
      rw [this]
      rfl
    rcases p with p | ⟨ts, rfl, g⟩
    · rcases q with q | ⟨us, rfl, g2⟩
      · exact atom_eqv p q
      · rw [tp g2, (atom_tup p _).1]
        rcases atom_cases p with rfl | ⟨i, rfl⟩ | ⟨s, rfl⟩ <;> simp
    · rcases q with q | ⟨us, rfl, g2⟩
      · rw [tp g, (atom_tup q _).2]
        rcases atom_cases q with rfl | ⟨i, rfl⟩ | ⟨s, rfl⟩ <;> simp
      · rw [tp g, tp g2, PyData.eqv, eqvAll_iff fun x hx y hy => pl_eqv (g x hx) (g2 y hy) (by omega)]
        simp
theorem pl_oEq {n : Nat} {t u : T} (p : PlT n t) (q : PlT n u) (hn : n < 24) (h : Hh) : ∃ b, oEq t u h = .ok (.bl b) h ∧ (b = true ↔ t = u) := by
  refine ⟨PyData.eqv (dOf h 24 t) (dOf h 24 u), ?_, pl_eqv p q hn⟩
  unfold oEq
  rw [pl_toD p hn, pl_toD q hn]
theorem PlT.up {n : Nat} {t : T} (p : PlT n t) : PlT (n + 1) t := by
  induction n generalizing t with
  | zero => exact .inl p
  | succ n ih =>
    rcases p with p | ⟨ts, rfl, g⟩
    · exact .inl p
    · exact .inr ⟨ts, rfl, fun x hx => ih (g x hx)⟩
theorem PlT.add {n : Nat} {t : T} (p : PlT n t) : ∀ k, PlT (n + k) t
  | 0 => p
  | k + 1 => (p.add k).up
theorem PlT.atom {n : Nat} {t : T} (p : atomT t = true) : PlT n t := by
  cases n with
  | zero => exact p
  | succ n => exact .inl p
theorem PlT.tup {n : Nat} {ts : List T} (g : ∀ x ∈ ts, PlT n x) : PlT (n + 1) (.tup ts) := .inr ⟨ts, rfl, g⟩
theorem pl_strs {n : Nat} (ss : List Str) : PlT (n + 1) (.tup (tSs ss)) := .tup fun x hx => by
  obtain ⟨s, _, rfl⟩ := List.mem_map.mp hx
  exact .atom rfl
theorem pl_row {n : Nat} (r : List Ent) : PlT (n + 1) (tRow r) := .tup fun x hx => by
  obtain ⟨e, _, rfl⟩ := List.mem_map.mp hx
  cases e <;> exact .atom rfl
theorem pl_far {n : Nat} (f : Option (List Ent)) : PlT (n + 1) (tFar f) := by
  cases f with
  | none => exact .atom rfl
  | some r => exact pl_row r
theorem pl_near {n : Nat} (nr : Nr) : PlT (n + 2) nr.tNear := by
  cases nr with
  | alone r => exact pl_row r
  | looks g rs =>
    refine .tup fun x hx => ?_
    obtain ⟨r, _, rfl⟩ := List.mem_map.mp hx
    exact pl_row r
theorem pl_looks {n : Nat} (nr : Nr) : PlT n nr.tLooks := by cases nr <;> exact .atom rfl
theorem pl_fd {n : Nat} (fd : Fd) : PlT (n + 3) fd.t := .tup fun x hx => by
  simp [Fd.ts] at hx
  rcases hx with rfl | rfl | rfl | rfl
  · exact .atom rfl
  · exact pl_looks _
  · exact pl_near _
  · exact pl_far _
theorem pl_tF {n : Nat} (fm : Fm) : PlT (n + 5) fm.tF := .tup fun x hx => by
  obtain ⟨p, _, rfl⟩ := List.mem_map.mp hx
  refine .tup fun x hx => ?_
  simp at hx
  rcases hx with rfl | rfl
  · exact .atom rfl
  · exact pl_fd _
theorem pl_parT (fm : Fm) : PlT 6 (parT fm) := .tup fun x hx => by
  simp at hx
  rcases hx with rfl | rfl | rfl
  · exact pl_strs _
  · exact pl_tF fm
  · exact .atom rfl
def FEqE (f : Fn) : Prop := ∀ {h : Hh} {l l' : Nat} {fm fm' : Fm}, FormAt h l fm → FormAt h l' fm' → ∃ b, f [.ref l, .ref l'] h = .ok (.bl b) h ∧ (b = true ↔ parT fm = parT fm')
theorem parT_words {fm fm' : Fm} (e : parT fm = parT fm') : fm.words = fm'.words := by
  unfold parT at e
  injection e with e
  injection e with e _
  unfold Fm.tW at e
  injection e with e
  exact List.map_inj_right (fun a b h => by injection h) |>.mp e
theorem parT_fields {fm fm' : Fm} (e : parT fm = parT fm') : fm.fields.map tPair = fm'.fields.map tPair := by
  unfold parT at e
  injection e with e
  injection e with _ e
  injection e with e _
  injection e
theorem parT_room {fm fm' : Fm} (e : parT fm = parT fm') : fm.room = fm'.room := by
  unfold parT at e
  injection e with e
  injection e with _ e
  injection e with _ e
  injection e with e _
  injection e
def turnR : List Ent → List Ent | [] => [] | e :: r => (if e = some "x" then none else some "x") :: r
theorem turn_ne {r : List Ent} (h : r ≠ []) : turnR r ≠ r := by
  cases r with
  | nil => exact (h rfl).elim
  | cons e r =>
    intro q
    unfold turnR at q
    injection q with q _
    split at q
    · rename_i z; rw [z] at q; cases q
    · rename_i z; exact z q.symm
theorem nm_x : Nm "x" := nmB_iff.mp (by decide +kernel)
theorem turn_ok {n : Nat} {r : List Ent} (o : RowOk n r) : RowOk n (turnR r) := by
  cases r with
  | nil => exact o
  | cons e r =>
    refine ⟨o.len, fun s hs => ?_⟩
    unfold turnR at hs
    rcases List.mem_cons.mp hs with hs | hs
    · split at hs
      · cases hs
      · cases hs; exact nm_x
    · exact o.nm s (.tail _ hs)
theorem tRow_inj {a b : List Ent} (e : tRow a = tRow b) : a = b := by
  unfold tRow at e
  injection e with e
  refine (List.map_inj_right fun x y h => ?_).mp e
  cases x <;> cases y <;> simp [tE] at h ⊢
  exact h
def setF (fm : Fm) (i : Nat) (p : Str × Fd) : Fm := { fm with fields := fm.fields.set i p }
theorem setF_names {fm : Fm} {i : Nat} {p : Str × Fd} (h : fm.fields[i]? = some p) (fd : Fd) : (setF fm i (p.1, fd)).names = fm.names := by
  show (fm.fields.set i (p.1, fd)).map Prod.fst = fm.fields.map Prod.fst
  rw [List.map_set]
  refine List.ext_getElem? fun j => ?_
  rw [List.getElem?_set]
  split
  · rename_i hj
    subst hj
    split
    · rw [List.getElem?_map, h]; rfl
    · rename_i hl
      rw [List.length_map] at hl
      have := (List.getElem?_eq_some_iff.mp h).1
      omega
  · rfl
theorem setF_ok {fm : Fm} (o : FmOk fm) {i : Nat} {p : Str × Fd} (h : fm.fields[i]? = some p) {fd : Fd} (hf : FdOk fm.words fm.names p.1 fd) : FmOk (setF fm i (p.1, fd)) :=
  ⟨o.w2, o.w3, o.wn, by show 1 ≤ (fm.fields.set _ _).length; rw [List.length_set]; exact o.f1, by show (fm.fields.set _ _).length ≤ 3; rw [List.length_set]; exact o.f3, by rw [setF_names h]; exact o.fn, fun q hq => by
    rw [setF_names h]
    show FdOk fm.words fm.names q.1 q.2
    rcases List.mem_or_eq_of_mem_set hq with hq | rfl
    · exact o.fs q hq
    · exact hf, o.r1, o.r3⟩
theorem setF_ne {fm : Fm} {i : Nat} {p : Str × Fd} (h : fm.fields[i]? = some p) {fd : Fd} (hd : fd.t ≠ p.2.t) : parT (setF fm i (p.1, fd)) ≠ parT fm := by
  intro e
  have e := parT_fields e
  have e1 : ((setF fm i (p.1, fd)).fields.map tPair)[i]? = some (tPair (p.1, fd)) := by
    rw [List.getElem?_map]
    show ((fm.fields.set i (p.1, fd))[i]?).map tPair = _
    rw [List.getElem?_set_self (List.getElem?_eq_some_iff.mp h).1]
    rfl
  rw [e, List.getElem?_map, h] at e1
  injection e1 with e1
  unfold tPair at e1
  injection e1 with e1
  injection e1 with _ e1
  injection e1 with e1 _
  exact hd e1.symm
theorem rot_ne {α : Type} {xs : List α} (nd : xs.Nodup) (h2 : 2 ≤ xs.length) : xs.drop 1 ++ xs.take 1 ≠ xs := by
  match xs, h2 with
  | a :: b :: r, _ =>
    intro e
    simp at e
    have := List.nodup_cons.mp nd
    exact this.1 (by rw [← e.1]; exact .head _)
theorem rot_perm {α : Type} (xs : List α) : (xs.drop 1 ++ xs.take 1).Perm xs := by
  have : (xs.drop 1 ++ xs.take 1).Perm (xs.take 1 ++ xs.drop 1) := List.perm_append_comm
  rwa [List.take_append_drop] at this
theorem rotW_ok {fm : Fm} (o : FmOk fm) : FmOk { fm with words := fm.words.drop 1 ++ fm.words.take 1 } := by
  have pm := rot_perm fm.words
  have hl := pm.length_eq
  refine ⟨by show 2 ≤ (fm.words.drop 1 ++ fm.words.take 1).length; rw [hl]; exact o.w2, by show (fm.words.drop 1 ++ fm.words.take 1).length ≤ 3; rw [hl]; exact o.w3, ⟨pm.nodup_iff.mpr o.wn.nd, fun s hs => o.wn.nm s (pm.mem_iff.mp hs)⟩, o.f1, o.f3, o.fn, fun p hp => ?_, o.r1, o.r3⟩
  have := o.fs p hp
  refine ⟨pm.mem_iff.mpr this.first, ?_, fun r hr => ?_⟩
  · show NrOk (fm.words.drop 1 ++ fm.words.take 1).length _ _ _
    rw [hl]
    exact this.nr
  · show RowOk (fm.words.drop 1 ++ fm.words.take 1).length r
    rw [hl]
    exact this.far r hr
theorem rotF_ok {fm : Fm} (o : FmOk fm) : FmOk { fm with fields := fm.fields.drop 1 ++ fm.fields.take 1 } := by
  have pm := rot_perm fm.fields
  have hl := pm.length_eq
  have pn : ((fm.fields.drop 1 ++ fm.fields.take 1).map Prod.fst).Perm fm.names := pm.map _
  refine ⟨o.w2, o.w3, o.wn, by show 1 ≤ (fm.fields.drop 1 ++ fm.fields.take 1).length; rw [hl]; exact o.f1, by show (fm.fields.drop 1 ++ fm.fields.take 1).length ≤ 3; rw [hl]; exact o.f3, ⟨pn.nodup_iff.mpr o.fn.nd, fun s hs => o.fn.nm s (pn.mem_iff.mp hs)⟩, fun p hp => ?_, o.r1, o.r3⟩
  have := o.fs p (pm.mem_iff.mp hp)
  refine ⟨this.first, ?_, this.far⟩
  show NrOk fm.words.length ((fm.fields.drop 1 ++ fm.fields.take 1).map Prod.fst) p.1 p.2.nr
  have nr := this.nr
  revert nr
  cases p.2.nr with
  | alone r => exact id
  | looks g rs => exact fun ⟨a, b⟩ => ⟨pn.mem_iff.mpr a, b⟩
theorem rotF_ne {fm : Fm} (o : FmOk fm) (h2 : 2 ≤ fm.fields.length) : parT { fm with fields := fm.fields.drop 1 ++ fm.fields.take 1 } ≠ parT fm := by
  intro e
  have e : (fm.fields.drop 1 ++ fm.fields.take 1).map tPair = fm.fields.map tPair := parT_fields e
  have e2 : fm.names.drop 1 ++ fm.names.take 1 = fm.names := by
    have e3 := congrArg (List.map (fun t => strOf (fstOf t))) e
    rw [List.map_map, List.map_map] at e3
    have e4 : ∀ xs : List (Str × Fd), xs.map ((fun t => strOf (fstOf t)) ∘ tPair) = xs.map Prod.fst := fun xs => rfl
    rw [e4, e4, List.map_append, List.map_drop, List.map_take] at e3
    exact e3
  exact rot_ne o.fn.nd (by simp [Fm.names]; exact h2) e2
theorem rotW_ne {fm : Fm} (o : FmOk fm) : parT { fm with words := fm.words.drop 1 ++ fm.words.take 1 } ≠ parT fm := fun e => rot_ne o.wn.nd o.w2 (parT_words e)
end W3
end

section
namespace LW
open PySem W3
noncomputable section
def CS : List (Str × List Str) := [("Form", ["words", "fields", "room"])]
def XS : XSub := [("InvalidForm", ["InvalidForm", "ShownError"]), ("UnknownField", ["UnknownField", "ShownError"])]
def FL : List Str := []
structure FF where
  is_integer : List T → Hh → Res T
  is_name : List T → Hh → Res T
  is_one_of : List T → Hh → Res T
  are_names : List T → Hh → Res T
  is_pair : List T → Hh → Res T
  are_fields : List T → Hh → Res T
  is_row : List T → Hh → Res T
  is_near : List T → Hh → Res T
  check_field : List T → Hh → Res T
  Form_init : List T → Hh → Res T
  Form___eq__ : List T → Hh → Res T
  Form_field_names : List T → Hh → Res T
  Form_parts_of : List T → Hh → Res T
  Form_readers : List T → Hh → Res T
  _law_mix : List T → Hh → Res T
  _law_box : List T → Hh → Res T
  _law_draw : List T → Hh → Res T
  _law_same : List T → Hh → Res T
  _law_names : List T → Hh → Res T
  _law_entries : List T → Hh → Res T
  _law_field : List T → Hh → Res T
  _law_parts : List T → Hh → Res T
  _law_tells : List T → Hh → Res T
  _law_turned : List T → Hh → Res T
  _law_others : List T → Hh → Res T
  law : List T → Hh → Res T
def b_is_integer (F : FF) : SS :=
  ssCons (ssRet (sIf (sT (s1 (oIsK .int) (sVar 0))) (sB (stNot (sT (s1 (oIsK .bool) (sVar 0))))) (sC (.bl false))))
  (ssNil)
def b_is_name_1 (F : FF) : SS :=
  ssCons (ssRet (sC (.bl false)))
  (ssNil)
def b_is_name_2 (F : FF) : SS :=
  ssCons (ssRet (sOver bAll (saLc (siE (sVar 0)) (sgName 1) (stYes) (s2 oIn (sVar 1) (sC (.str "abcdefghijklmnopqrstuvwxyz"))) [1])))
  (ssNil)
def b_is_name (F : FF) : SS :=
  ssCons (ssIf (stOr (stNot (sT (s1 (oIsK .str) (sVar 0)))) (stNot (sT (sChain oLe oLe (sC (.int 1)) (sCl bLen (saCons (sVar 0) (saNil))) (sC (.int 8))))))
  (b_is_name_1 F)
  (ssNil))
  (b_is_name_2 F)
def b_is_one_of (F : FF) : SS :=
  ssCons (ssRet (sIf (sT (s1 (oIsK .str) (sVar 0))) (s2 oIn (sVar 0) (sVar 1)) (sC (.bl false))))
  (ssNil)
def b_are_names_1 (F : FF) : SS :=
  ssCons (ssRet (sC (.bl false)))
  (ssNil)
def b_are_names_2 (F : FF) : SS :=
  ssCons (ssRet (sIf (sT (sOver bAll (saLc (siE (sVar 0)) (sgName 3) (stYes) (sCl (arN 1 F.is_name) (saCons (sVar 3) (saNil))) [3]))) (s2 oEq (s1 oLenSet (sVar 0)) (sCl bLen (saCons (sVar 0) (saNil)))) (sC (.bl false))))
  (ssNil)
def b_are_names (F : FF) : SS :=
  ssCons (ssIf (stOr (stNot (sT (s1 (oIsK .tuple) (sVar 0)))) (stNot (sT (sChain oLe oLe (sVar 1) (sCl bLen (saCons (sVar 0) (saNil))) (sVar 2)))))
  (b_are_names_1 F)
  (ssNil))
  (b_are_names_2 F)
def b_is_pair_1 (F : FF) : SS :=
  ssCons (ssRet (sC (.bl false)))
  (ssNil)
def b_is_pair_2 (F : FF) : SS :=
  ssCons (ssRet (sIf (sT (s1 (oIsK .tuple) (s2 oIx (sVar 0) (sC (.int 1))))) (s2 oEq (sCl bLen (saCons (s2 oIx (sVar 0) (sC (.int 1))) (saNil))) (sC (.int 4))) (sC (.bl false))))
  (ssNil)
def b_is_pair (F : FF) : SS :=
  ssCons (ssIf (stOr (stNot (sT (s1 (oIsK .tuple) (sVar 0)))) (stOr (sT (s2 oNe (sCl bLen (saCons (sVar 0) (saNil))) (sC (.int 2)))) (stNot (sT (sCl (arN 1 F.is_name) (saCons (s2 oIx (sVar 0) (sC (.int 0))) (saNil)))))))
  (b_is_pair_1 F)
  (ssNil))
  (b_is_pair_2 F)
def b_are_fields_1 (F : FF) : SS :=
  ssCons (ssRet (sC (.bl false)))
  (ssNil)
def b_are_fields_3 (F : FF) : SS :=
  ssCons (ssRet (sC (.bl false)))
  (ssNil)
def b_are_fields_4 (F : FF) : SS :=
  ssCons (ssRet (s2 oEq (sOver bLenSet (saLc (siE (sVar 0)) (sgName 1) (stYes) (s2 oIx (sVar 1) (sC (.int 0))) [1])) (sCl bLen (saCons (sVar 0) (saNil)))))
  (ssNil)
def b_are_fields_2 (F : FF) : SS :=
  ssCons (ssIf (stNot (sT (sOver bAll (saLc (siE (sVar 0)) (sgName 1) (stYes) (sCl (arN 1 F.is_pair) (saCons (sVar 1) (saNil))) [1]))))
  (b_are_fields_3 F)
  (ssNil))
  (b_are_fields_4 F)
def b_are_fields (F : FF) : SS :=
  ssCons (ssIf (stOr (stNot (sT (s1 (oIsK .tuple) (sVar 0)))) (stNot (sT (sChain oLe oLe (sC (.int 1)) (sCl bLen (saCons (sVar 0) (saNil))) (sC (.int 3))))))
  (b_are_fields_1 F)
  (ssNil))
  (b_are_fields_2 F)
def b_is_row_1 (F : FF) : SS :=
  ssCons (ssRet (sC (.bl false)))
  (ssNil)
def b_is_row_2 (F : FF) : SS :=
  ssCons (ssRet (sOver bAll (saLc (siE (sVar 0)) (sgName 2) (stYes) (sIf (sT (s2 oIs (sVar 2) (sC .non))) (sC (.bl true)) (sCl (arN 1 F.is_name) (saCons (sVar 2) (saNil)))) [2])))
  (ssNil)
def b_is_row (F : FF) : SS :=
  ssCons (ssIf (stOr (stNot (sT (s1 (oIsK .tuple) (sVar 0)))) (sT (s2 oNe (sCl bLen (saCons (sVar 0) (saNil))) (sVar 1))))
  (b_is_row_1 F)
  (ssNil))
  (b_is_row_2 F)
def b_is_near_1 (F : FF) : SS :=
  ssCons (ssRet (sCl (arN 2 F.is_row) (saCons (sVar 0) (saCons (sVar 2) (saNil)))))
  (ssNil)
def b_is_near_3 (F : FF) : SS :=
  ssCons (ssRet (sC (.bl false)))
  (ssNil)
def b_is_near_4 (F : FF) : SS :=
  ssCons (ssRet (sOver bAll (saLc (siE (sVar 0)) (sgName 3) (stYes) (sCl (arN 2 F.is_row) (saCons (sVar 3) (saCons (sVar 2) (saNil)))) [3])))
  (ssNil)
def b_is_near_2 (F : FF) : SS :=
  ssCons (ssIf (stOr (stNot (sT (s1 (oIsK .tuple) (sVar 0)))) (sT (s2 oNe (sCl bLen (saCons (sVar 0) (saNil))) (sVar 2))))
  (b_is_near_3 F)
  (ssNil))
  (b_is_near_4 F)
def b_is_near (F : FF) : SS :=
  ssCons (ssIf (sT (s2 oIs (sVar 1) (sC .non)))
  (b_is_near_1 F)
  (ssNil))
  (b_is_near_2 F)
def b_check_field_2 (F : FF) : SS :=
  ssCons (ssRaiseX "InvalidForm" ["part", "field"] (saCons (sC (.str "first")) (saCons (sVar 0) (saNil))))
  (ssNil)
def b_check_field_4 (F : FF) : SS :=
  ssCons (ssRaiseX "InvalidForm" ["part", "field"] (saCons (sC (.str "looks")) (saCons (sVar 0) (saNil))))
  (ssNil)
def b_check_field_6 (F : FF) : SS :=
  ssCons (ssRaiseX "InvalidForm" ["part", "field"] (saCons (sC (.str "near")) (saCons (sVar 0) (saNil))))
  (ssNil)
def b_check_field_8 (F : FF) : SS :=
  ssCons (ssRaiseX "InvalidForm" ["part", "field"] (saCons (sC (.str "far")) (saCons (sVar 0) (saNil))))
  (ssNil)
def b_check_field_7 (F : FF) : SS :=
  ssCons (ssIf (stAnd (sT (s2 oIsNot (sVar 7) (sC .non))) (stNot (sT (sCl (arN 2 F.is_row) (saCons (sVar 7) (saCons (sCl bLen (saCons (sVar 2) (saNil))) (saNil)))))))
  (b_check_field_8 F)
  (ssNil))
  (ssNil)
def b_check_field_5 (F : FF) : SS :=
  ssCons (ssIf (stNot (sT (sCl (arN 3 F.is_near) (saCons (sVar 6) (saCons (sVar 5) (saCons (sCl bLen (saCons (sVar 2) (saNil))) (saNil)))))))
  (b_check_field_6 F)
  (ssNil))
  (b_check_field_7 F)
def b_check_field_3 (F : FF) : SS :=
  ssCons (ssIf (stAnd (sT (s2 oIsNot (sVar 5) (sC .non))) (stOr (stNot (sT (sCl (arN 2 F.is_one_of) (saCons (sVar 5) (saCons (sVar 3) (saNil)))))) (sT (s2 oEq (sVar 5) (sVar 0)))))
  (b_check_field_4 F)
  (ssNil))
  (b_check_field_5 F)
def b_check_field_1 (F : FF) : SS :=
  ssCons (ssIf (stNot (sT (sCl (arN 2 F.is_one_of) (saCons (sVar 4) (saCons (sVar 2) (saNil))))))
  (b_check_field_2 F)
  (ssNil))
  (b_check_field_3 F)
def b_check_field (F : FF) : SS :=
  ssCons (ssAsg (sVar 1) (sgTup 4 (sgsCons (sgName 4) (sgsCons (sgName 5) (sgsCons (sgName 6) (sgsCons (sgName 7) (sgsNil)))))))
  (b_check_field_1 F)
def b_Form_init_1 (F : FF) : SS :=
  ssCons (ssRaiseX "InvalidForm" ["part", "field"] (saCons (sC (.str "words")) (saCons (sC (.str "")) (saNil))))
  (ssNil)
def b_Form_init_3 (F : FF) : SS :=
  ssCons (ssRaiseX "InvalidForm" ["part", "field"] (saCons (sC (.str "fields")) (saCons (sC (.str "")) (saNil))))
  (ssNil)
def b_Form_init_6 (F : FF) : SS :=
  ssCons (ssExpr (sCl (arN 4 F.check_field) (saCons (sVar 6) (saCons (sVar 7) (saCons (sVar 1) (saCons (sVar 4) (saNil)))))))
  (ssNil)
def b_Form_init_8 (F : FF) : SS :=
  ssCons (ssRaiseX "InvalidForm" ["part", "field"] (saCons (sC (.str "room")) (saCons (sC (.str "")) (saNil))))
  (ssNil)
def b_Form_init_11 (F : FF) : SS :=
  ssCons (ssFldC CS (sVar 0) (sVar 3) "room")
  (ssNil)
def b_Form_init_10 (F : FF) : SS :=
  ssCons (ssFldC CS (sVar 0) (sVar 2) "fields")
  (b_Form_init_11 F)
def b_Form_init_9 (F : FF) : SS :=
  ssCons (ssFldC CS (sVar 0) (sVar 1) "words")
  (b_Form_init_10 F)
def b_Form_init_7 (F : FF) : SS :=
  ssCons (ssIf (stOr (stNot (sT (sCl (arN 1 F.is_integer) (saCons (sVar 3) (saNil))))) (stNot (sT (sChain oLe oLe (sC (.int 1)) (sVar 3) (sC (.int 3))))))
  (b_Form_init_8 F)
  (ssNil))
  (b_Form_init_9 F)
def b_Form_init_5 (F : FF) : SS :=
  ssCons (ssFor (siE (sVar 2)) (sgTup 2 (sgsCons (sgName 6) (sgsCons (sgName 7) (sgsNil))))
  (b_Form_init_6 F))
  (b_Form_init_7 F)
def b_Form_init_4 (F : FF) : SS :=
  ssCons (ssAsg (sLc (saLc (siE (sVar 2)) (sgName 5) (stYes) (s2 oIx (sVar 5) (sC (.int 0))) [5])) (sgName 4))
  (b_Form_init_5 F)
def b_Form_init_2 (F : FF) : SS :=
  ssCons (ssIf (stNot (sT (sCl (arN 1 F.are_fields) (saCons (sVar 2) (saNil)))))
  (b_Form_init_3 F)
  (ssNil))
  (b_Form_init_4 F)
def b_Form_init (F : FF) : SS :=
  ssCons (ssIf (stNot (sT (sCl (arN 3 F.are_names) (saCons (sVar 1) (saCons (sC (.int 2)) (saCons (sC (.int 3)) (saNil)))))))
  (b_Form_init_1 F)
  (ssNil))
  (b_Form_init_2 F)
def b_Form___eq___1 (F : FF) : SS :=
  ssCons (ssRet (sC (.bl false)))
  (ssNil)
def b_Form___eq___2 (F : FF) : SS :=
  ssCons (ssRet (s2 oEq (sTup (saCons (s1 (oFldC CS "words") (sVar 0)) (saCons (s1 (oFldC CS "fields") (sVar 0)) (saCons (s1 (oFldC CS "room") (sVar 0)) (saNil))))) (sTup (saCons (s1 (oFldC CS "words") (sVar 1)) (saCons (s1 (oFldC CS "fields") (sVar 1)) (saCons (s1 (oFldC CS "room") (sVar 1)) (saNil)))))))
  (ssNil)
def b_Form___eq__ (F : FF) : SS :=
  ssCons (ssIf (stNot (sT (s1 (oIsO "Form") (sVar 1))))
  (b_Form___eq___1 F)
  (ssNil))
  (b_Form___eq___2 F)
def b_Form_field_names (F : FF) : SS :=
  ssCons (ssRet (sOver bTup (saLc (siE (s1 (oFldC CS "fields") (sVar 0))) (sgName 1) (stYes) (s2 oIx (sVar 1) (sC (.int 0))) [1])))
  (ssNil)
def b_Form_parts_of_2 (F : FF) : SS :=
  ssCons (ssRet (sVar 3))
  (ssNil)
def b_Form_parts_of_1 (F : FF) : SS :=
  ssCons (ssIf (stAnd (sT (s1 (oIsK .str) (sVar 1))) (sT (s2 oEq (sVar 2) (sVar 1))))
   (b_Form_parts_of_2 F)
   (ssNil))
  (ssNil)
def b_Form_parts_of_3 (F : FF) : SS :=
  ssCons (ssRaiseX "UnknownField" ["field"] (saCons (sVar 1) (saNil)))
  (ssNil)
def b_Form_parts_of (F : FF) : SS :=
  ssCons (ssFor (siE (s1 (oFldC CS "fields") (sVar 0))) (sgTup 2 (sgsCons (sgName 2) (sgsCons (sgName 3) (sgsNil))))
  (b_Form_parts_of_1 F))
  (b_Form_parts_of_3 F)
def b_Form_readers_1 (F : FF) : SS :=
  ssCons (ssRet (sOver bTup (saLc (siE (s1 (oFldC CS "fields") (sVar 0))) (sgName 2) (sT (s2 oEq (s2 oIx (s2 oIx (sVar 2) (sC (.int 1))) (sC (.int 1))) (sVar 1))) (s2 oIx (sVar 2) (sC (.int 0))) [2])))
  (ssNil)
def b_Form_readers (F : FF) : SS :=
  ssCons (ssExpr (sMeth "Form" "parts_of" 2 F.Form_parts_of (sVar 0) (saCons (sVar 1) (saNil))))
  (b_Form_readers_1 F)
def b__law_mix_2 (F : FF) : SS :=
  ssCons (ssRet (s2 oMod (s2 oMul (sVar 2) (s2 oAdd (s2 oDiv (sVar 2) (sC (.int 2003))) (sC (.int 40692)))) (sC (.int 2147483399))))
  (ssNil)
def b__law_mix_1 (F : FF) : SS :=
  ssCons (ssAsg (s2 oMod (s2 oMul (sVar 2) (s2 oAdd (s2 oDiv (sVar 2) (sC (.int 1009))) (sC (.int 69621)))) (sC (.int 2147483647))) (sgName 2))
  (b__law_mix_2 F)
def b__law_mix (F : FF) : SS :=
  ssCons (ssAsg (s2 oMod (s2 oMul (s2 oAdd (s2 oAdd (sCl bInt (saCons (sVar 0) (saNil))) (s2 oMul (sC (.int 7919)) (sVar 1))) (sC (.int 1))) (sC (.int 48271))) (sC (.int 2147483647))) (sgName 2))
  (b__law_mix_1 F)
def b__law_box_3 (F : FF) : SS :=
  ssCons (ssAsg (sCl (arN 2 F._law_mix) (saCons (s2 oAdd (sVar 3) (sVar 2)) (saCons (sC (.int 3)) (saNil)))) (sgName 3))
  (ssNil)
def b__law_box_4 (F : FF) : SS :=
  ssCons (ssRet (sLst (saCons (sVar 1) (saCons (sC (.int 0)) (saCons (sC (.int 0)) (saCons (sVar 3) (saCons (sC (.int 0)) (saNil))))))))
  (ssNil)
def b__law_box_2 (F : FF) : SS :=
  ssCons (ssFor (siE (sVar 1)) (sgName 2)
  (b__law_box_3 F))
  (b__law_box_4 F)
def b__law_box_1 (F : FF) : SS :=
  ssCons (ssAsg (sC (.int 11)) (sgName 3))
  (b__law_box_2 F)
def b__law_box (F : FF) : SS :=
  ssCons (ssAsg (sLc (saLc (siE (sSl (sVar 0) (soNone) (soSome (sC (.int 63))))) (sgName 2) (stYes) (sCl bInt (saCons (sVar 2) (saNil))) [2])) (sgName 1))
  (b__law_box_1 F)
def b__law_draw_5 (F : FF) : SS :=
  ssCons (ssRet (s2 oMod (sCl bInt (saCons (sCl (arN 2 F._law_mix) (saCons (sVar 2) (saCons (s2 oIx (sVar 0) (sC (.int 4))) (saNil)))) (saNil))) (sVar 1)))
  (ssNil)
def b__law_draw_6 (F : FF) : SS :=
  ssCons (ssSub (sVar 0) (sC (.int 2)) (sVar 2))
  (ssNil)
def b__law_draw_4 (F : FF) : SS :=
  ssCons (ssIf (sT (s2 oLt (sVar 2) (s2 oPow (sC (.int 10)) (sC (.int 18)))))
   (b__law_draw_5 F)
   (ssNil))
  (b__law_draw_6 F)
def b__law_draw_3 (F : FF) : SS :=
  ssCons (ssSub (sVar 0) (sC (.int 1)) (s2 oAdd (s2 oIx (sVar 0) (sC (.int 1))) (sC (.int 1))))
  (b__law_draw_4 F)
def b__law_draw_2 (F : FF) : SS :=
  ssCons (ssAsg (s2 oIx (s2 oIx (sVar 0) (sC (.int 0))) (s2 oIx (sVar 0) (sC (.int 1)))) (sgName 2))
  (b__law_draw_3 F)
def b__law_draw_8 (F : FF) : SS :=
  ssCons (ssRet (s2 oMod (sCl bInt (saCons (sCl (arN 2 F._law_mix) (saCons (s2 oIx (sVar 0) (sC (.int 3))) (saCons (s2 oIx (sVar 0) (sC (.int 4))) (saNil)))) (saNil))) (sVar 1)))
  (ssNil)
def b__law_draw_11 (F : FF) : SS :=
  ssCons (ssRet (sVar 3))
  (ssNil)
def b__law_draw_10 (F : FF) : SS :=
  ssCons (ssSub (sVar 0) (sC (.int 2)) (s2 oDiv (sCl bInt (saCons (s2 oIx (sVar 0) (sC (.int 2))) (saNil))) (sVar 1)))
  (b__law_draw_11 F)
def b__law_draw_9 (F : FF) : SS :=
  ssCons (ssAsg (s2 oMod (sCl bInt (saCons (s2 oIx (sVar 0) (sC (.int 2))) (saNil))) (sVar 1)) (sgName 3))
  (b__law_draw_10 F)
def b__law_draw_7 (F : FF) : SS :=
  ssCons (ssIf (sT (s2 oEq (s2 oIx (sVar 0) (sC (.int 2))) (sC (.int 0))))
  (b__law_draw_8 F)
  (ssNil))
  (b__law_draw_9 F)
def b__law_draw_1 (F : FF) : SS :=
  ssCons (ssIf (stAnd (sT (s2 oEq (s2 oIx (sVar 0) (sC (.int 2))) (sC (.int 0)))) (sT (s2 oLt (s2 oIx (sVar 0) (sC (.int 1))) (sCl bLen (saCons (s2 oIx (sVar 0) (sC (.int 0))) (saNil))))))
  (b__law_draw_2 F)
  (ssNil))
  (b__law_draw_7 F)
def b__law_draw (F : FF) : SS :=
  ssCons (ssSub (sVar 0) (sC (.int 4)) (s2 oAdd (s2 oIx (sVar 0) (sC (.int 4))) (sC (.int 1))))
  (b__law_draw_1 F)
def b__law_same_2 (F : FF) : SS :=
  ssCons (ssRet (sC (.bl false)))
  (ssNil)
def b__law_same_4 (F : FF) : SS :=
  ssCons (ssRet (sC (.bl false)))
  (ssNil)
def b__law_same_5 (F : FF) : SS :=
  ssCons (ssRet (sOver bAll (saLc (siRange1 (saCons (sCl bLen (saCons (sVar 1) (saNil))) (saNil))) (sgName 2) (stYes) (sCl (arN 2 F._law_same) (saCons (s2 oIx (sVar 0) (sVar 2)) (saCons (s2 oIx (sVar 1) (sVar 2)) (saNil)))) [2])))
  (ssNil)
def b__law_same_3 (F : FF) : SS :=
  ssCons (ssIf (sT (s2 oNe (sCl bLen (saCons (sVar 0) (saNil))) (sCl bLen (saCons (sVar 1) (saNil)))))
   (b__law_same_4 F)
   (ssNil))
  (b__law_same_5 F)
def b__law_same_1 (F : FF) : SS :=
  ssCons (ssIf (stOr (sT (s2 oNe (s1 (oIsK .tuple) (sVar 1)) (s1 (oIsK .tuple) (sVar 0)))) (sT (s2 oNe (s1 (oIsK .list) (sVar 1)) (s1 (oIsK .list) (sVar 0)))))
   (b__law_same_2 F)
   (ssNil))
  (b__law_same_3 F)
def b__law_same_7 (F : FF) : SS :=
  ssCons (ssRet (s2 oIs (sVar 0) (sC .non)))
  (ssNil)
def b__law_same_9 (F : FF) : SS :=
  ssCons (ssRet (sIf (sT (s1 (oIsK .bool) (sVar 1))) (sIf (sT (s1 (oIsK .bool) (sVar 0))) (s2 oEq (sVar 1) (sVar 0)) (sC (.bl false))) (sC (.bl false))))
  (ssNil)
def b__law_same_11 (F : FF) : SS :=
  ssCons (ssRet (sIf (sT (s1 (oIsK .int) (sVar 0))) (s2 oEq (sVar 0) (sVar 1)) (sC (.bl false))))
  (ssNil)
def b__law_same_12 (F : FF) : SS :=
  ssCons (ssRet (sIf (sT (s1 (oIsK .str) (sVar 0))) (s2 oEq (sVar 0) (sVar 1)) (sC (.bl false))))
  (ssNil)
def b__law_same_10 (F : FF) : SS :=
  ssCons (ssIf (sT (s1 (oIsK .int) (sVar 1)))
  (b__law_same_11 F)
  (ssNil))
  (b__law_same_12 F)
def b__law_same_8 (F : FF) : SS :=
  ssCons (ssIf (stOr (sT (s1 (oIsK .bool) (sVar 1))) (sT (s1 (oIsK .bool) (sVar 0))))
  (b__law_same_9 F)
  (ssNil))
  (b__law_same_10 F)
def b__law_same_6 (F : FF) : SS :=
  ssCons (ssIf (sT (s2 oIs (sVar 1) (sC .non)))
  (b__law_same_7 F)
  (ssNil))
  (b__law_same_8 F)
def b__law_same (F : FF) : SS :=
  ssCons (ssIf (stOr (sT (s1 (oIsK .tuple) (sVar 1))) (sT (s1 (oIsK .list) (sVar 1))))
  (b__law_same_1 F)
  (ssNil))
  (b__law_same_6 F)
def b__law_names_4 (F : FF) : SS :=
  ssCons (ssAsg (s2 oAdd (sVar 4) (s2 oIx (sC (.str "abcdefghijklmnopqrstuvwxyz")) (sCl (arN 2 F._law_draw) (saCons (sVar 0) (saCons (sC (.int 26)) (saNil)))))) (sgName 4))
  (ssNil)
def b__law_names_7 (F : FF) : SS :=
  ssCons (ssAsg (s2 oIx (sVar 6) (sC (.int 0))) (sgName 4))
  (ssNil)
def b__law_names_6 (F : FF) : SS :=
  ssCons (ssAsg (sLc (saLc (siE (sC (.str "abcdefghijklmnopqrstuvwxyz"))) (sgName 7) (sT (s2 oNotIn (s2 oAdd (sSl (sVar 4) (soNone) (soSome (sC (.int 7)))) (sVar 7)) (sVar 2))) (s2 oAdd (sSl (sVar 4) (soNone) (soSome (sC (.int 7)))) (sVar 7)) [7])) (sgName 6))
  (b__law_names_7 F)
def b__law_names_8 (F : FF) : SS :=
  ssCons (ssExpr (sMtL mAppend (sVar 2) (saCons (sVar 4) (saNil))))
  (ssNil)
def b__law_names_5 (F : FF) : SS :=
  ssCons (ssIf (sT (s2 oIn (sVar 4) (sVar 2)))
   (b__law_names_6 F)
   (ssNil))
  (b__law_names_8 F)
def b__law_names_3 (F : FF) : SS :=
  ssCons (ssFor (siRange1 (saCons (s2 oAdd (sC (.int 1)) (sCl (arN 2 F._law_draw) (saCons (sVar 0) (saCons (sC (.int 8)) (saNil))))) (saNil))) (sgName 5)
   (b__law_names_4 F))
  (b__law_names_5 F)
def b__law_names_2 (F : FF) : SS :=
  ssCons (ssAsg (sC (.str "")) (sgName 4))
  (b__law_names_3 F)
def b__law_names_9 (F : FF) : SS :=
  ssCons (ssRet (sVar 2))
  (ssNil)
def b__law_names_1 (F : FF) : SS :=
  ssCons (ssFor (siRange1 (saCons (sVar 1) (saNil))) (sgName 3)
  (b__law_names_2 F))
  (b__law_names_9 F)
def b__law_names (F : FF) : SS :=
  ssCons (ssAsg (sLst (saNil)) (sgName 2))
  (b__law_names_1 F)
def b__law_entries_1 (F : FF) : SS :=
  ssCons (ssRet (sOver bTup (saLc (siRange1 (saCons (sVar 2) (saNil))) (sgName 4) (stYes) (s2 oIx (sVar 3) (sCl (arN 2 F._law_draw) (saCons (sVar 0) (saCons (sC (.int 4)) (saNil))))) [4])))
  (ssNil)
def b__law_entries (F : FF) : SS :=
  ssCons (ssAsg (sLst (saCons (sC .non) (saCons (sC .non) (saCons (s2 oIx (sVar 1) (sC (.int 0))) (saCons (s2 oIx (sVar 1) (sC (.int 1))) (saNil)))))) (sgName 3))
  (b__law_entries_1 F)
def b__law_field_6 (F : FF) : SS :=
  ssCons (ssAsg (sOver bTup (saLc (siE (sVar 1)) (sgName 10) (stYes) (sCl (arN 3 F._law_entries) (saCons (sVar 0) (saCons (sVar 4) (saCons (sCl bLen (saCons (sVar 1) (saNil))) (saNil))))) [10])) (sgName 9))
  (ssNil)
def b__law_field_5 (F : FF) : SS :=
  ssCons (ssAsg (s2 oIx (sVar 6) (sCl (arN 2 F._law_draw) (saCons (sVar 0) (saCons (sCl bLen (saCons (sVar 6) (saNil))) (saNil))))) (sgName 8))
  (b__law_field_6 F)
def b__law_field_9 (F : FF) : SS :=
  ssCons (ssAsg (sCl (arN 3 F._law_entries) (saCons (sVar 0) (saCons (sVar 4) (saCons (sCl bLen (saCons (sVar 1) (saNil))) (saNil))))) (sgName 11))
  (ssNil)
def b__law_field_10 (F : FF) : SS :=
  ssCons (ssRet (sTup (saCons (sVar 5) (saCons (sVar 8) (saCons (sVar 9) (saCons (sVar 11) (saNil)))))))
  (ssNil)
def b__law_field_8 (F : FF) : SS :=
  ssCons (ssIf (sT (s2 oEq (sCl (arN 2 F._law_draw) (saCons (sVar 0) (saCons (sC (.int 2)) (saNil)))) (sC (.int 1))))
  (b__law_field_9 F)
  (ssNil))
  (b__law_field_10 F)
def b__law_field_7 (F : FF) : SS :=
  ssCons (ssAsg (sC .non) (sgName 11))
  (b__law_field_8 F)
def b__law_field_4 (F : FF) : SS :=
  ssCons (ssIf (stAnd (sT (s2 oGt (sCl bLen (saCons (sVar 6) (saNil))) (sC (.int 0)))) (sT (s2 oEq (sCl (arN 2 F._law_draw) (saCons (sVar 0) (saCons (sC (.int 2)) (saNil)))) (sC (.int 1)))))
  (b__law_field_5 F)
  (ssNil))
  (b__law_field_7 F)
def b__law_field_3 (F : FF) : SS :=
  ssCons (ssAsg (sCl (arN 3 F._law_entries) (saCons (sVar 0) (saCons (sVar 4) (saCons (sCl bLen (saCons (sVar 1) (saNil))) (saNil))))) (sgName 9))
  (b__law_field_4 F)
def b__law_field_2 (F : FF) : SS :=
  ssCons (ssAsg (sC .non) (sgName 8))
  (b__law_field_3 F)
def b__law_field_1 (F : FF) : SS :=
  ssCons (ssAsg (sLc (saLc (siE (sVar 2)) (sgName 7) (sT (s2 oNe (sVar 7) (sVar 3))) (sVar 7) [7])) (sgName 6))
  (b__law_field_2 F)
def b__law_field (F : FF) : SS :=
  ssCons (ssAsg (s2 oIx (sVar 1) (sCl (arN 2 F._law_draw) (saCons (sVar 0) (saCons (sCl bLen (saCons (sVar 1) (saNil))) (saNil))))) (sgName 5))
  (b__law_field_1 F)
def b__law_parts_5 (F : FF) : SS :=
  ssCons (ssSub (sVar 3) (sC (.int 0)) (s2 oIx (sVar 2) (sC (.int 0))))
  (ssNil)
def b__law_parts_7 (F : FF) : SS :=
  ssCons (ssRet (sTup (saCons (sVar 2) (saCons (sVar 5) (saCons (sVar 1) (saNil))))))
  (ssNil)
def b__law_parts_6 (F : FF) : SS :=
  ssCons (ssAsg (sOver bTup (saLc (siE (sVar 3)) (sgName 6) (stYes) (sTup (saCons (sVar 6) (saCons (sCl (arN 5 F._law_field) (saCons (sVar 0) (saCons (sVar 2) (saCons (sVar 3) (saCons (sVar 6) (saCons (sVar 4) (saNil))))))) (saNil)))) [6])) (sgName 5))
  (b__law_parts_7 F)
def b__law_parts_4 (F : FF) : SS :=
  ssCons (ssIf (stAnd (sT (s2 oEq (sCl (arN 2 F._law_draw) (saCons (sVar 0) (saCons (sC (.int 4)) (saNil)))) (sC (.int 0)))) (sT (s2 oNotIn (s2 oIx (sVar 2) (sC (.int 0))) (sVar 3))))
  (b__law_parts_5 F)
  (ssNil))
  (b__law_parts_6 F)
def b__law_parts_3 (F : FF) : SS :=
  ssCons (ssAsg (sCl (arN 2 F._law_names) (saCons (sVar 0) (saCons (sC (.int 2)) (saNil)))) (sgName 4))
  (b__law_parts_4 F)
def b__law_parts_2 (F : FF) : SS :=
  ssCons (ssAsg (sCl (arN 2 F._law_names) (saCons (sVar 0) (saCons (s2 oAdd (sC (.int 1)) (sCl (arN 2 F._law_draw) (saCons (sVar 0) (saCons (sC (.int 3)) (saNil))))) (saNil)))) (sgName 3))
  (b__law_parts_3 F)
def b__law_parts_1 (F : FF) : SS :=
  ssCons (ssAsg (sCl bTuple (saCons (sCl (arN 2 F._law_names) (saCons (sVar 0) (saCons (s2 oAdd (sC (.int 2)) (sCl (arN 2 F._law_draw) (saCons (sVar 0) (saCons (sC (.int 2)) (saNil))))) (saNil)))) (saNil))) (sgName 2))
  (b__law_parts_2 F)
def b__law_parts (F : FF) : SS :=
  ssCons (ssAsg (s2 oAdd (sC (.int 1)) (sCl (arN 2 F._law_draw) (saCons (sVar 0) (saCons (sC (.int 3)) (saNil))))) (sgName 1))
  (b__law_parts_1 F)
def b__law_tells_2 (F : FF) : SS :=
  ssCons (ssRet (sC (.bl false)))
  (ssNil)
def b__law_tells_6 (F : FF) : SS :=
  ssCons (ssRet (sC (.bl false)))
  (ssNil)
def b__law_tells_5 (F : FF) : SS :=
  ssCons (ssIf (stOr (stNot (sT (sCl (arN 2 F._law_same) (saCons (sMeth "Form" "parts_of" 2 F.Form_parts_of (sVar 0) (saCons (sVar 4) (saNil))) (saCons (sVar 5) (saNil)))))) (stNot (sT (sCl (arN 2 F._law_same) (saCons (sMeth "Form" "readers" 2 F.Form_readers (sVar 0) (saCons (sVar 4) (saNil))) (saCons (sVar 6) (saNil)))))))
   (b__law_tells_6 F)
   (ssNil))
  (ssNil)
def b__law_tells_4 (F : FF) : SS :=
  ssCons (ssAsg (sOver bTup (saLc (siE (s2 oIx (sVar 1) (sC (.int 1)))) (sgName 3) (sT (s2 oEq (s2 oIx (s2 oIx (sVar 3) (sC (.int 1))) (sC (.int 1))) (sVar 4))) (s2 oIx (sVar 3) (sC (.int 0))) [3])) (sgName 6))
  (b__law_tells_5 F)
def b__law_tells_7 (F : FF) : SS :=
  ssCons (ssRet (sC (.bl true)))
  (ssNil)
def b__law_tells_3 (F : FF) : SS :=
  ssCons (ssFor (siE (s2 oIx (sVar 1) (sC (.int 1)))) (sgTup 2 (sgsCons (sgName 4) (sgsCons (sgName 5) (sgsNil))))
  (b__law_tells_4 F))
  (b__law_tells_7 F)
def b__law_tells_1 (F : FF) : SS :=
  ssCons (ssIf (stNot (sT (sCl (arN 2 F._law_same) (saCons (sTup (saCons (s1 (oFldC CS "words") (sVar 0)) (saCons (s1 (oFldC CS "fields") (sVar 0)) (saCons (s1 (oFldC CS "room") (sVar 0)) (saCons (sMeth "Form" "field_names" 1 F.Form_field_names (sVar 0) saNil) (saNil)))))) (saCons (s2 oAdd (sVar 1) (sTup (saCons (sVar 2) (saNil)))) (saNil))))))
  (b__law_tells_2 F)
  (ssNil))
  (b__law_tells_3 F)
def b__law_tells (F : FF) : SS :=
  ssCons (ssAsg (sOver bTup (saLc (siE (s2 oIx (sVar 1) (sC (.int 1)))) (sgName 3) (stYes) (s2 oIx (sVar 3) (sC (.int 0))) [3])) (sgName 2))
  (b__law_tells_1 F)
def b__law_turned (F : FF) : SS :=
  ssCons (ssRet (s2 oAdd (sOver bTup (saLc (siE (sSl (sVar 0) (soNone) (soSome (sC (.int 1))))) (sgName 1) (stYes) (s2 oIx (sLst (saCons (sC (.str "x")) (saCons (sC .non) (saNil)))) (sCl bIntB (saCons (s2 oEq (sVar 1) (sC (.str "x"))) (saNil)))) [1])) (sSl (sVar 0) (soSome (sC (.int 1))) (soNone))))
  (ssNil)
def b__law_others_8 (F : FF) : SS :=
  ssCons (ssExpr (sMtL mAppend (sVar 14) (saCons (sTup (saCons (sVar 8) (saCons (sVar 9) (saCons (sCl (arN 1 F._law_turned) (saCons (sVar 10) (saNil))) (saCons (sVar 11) (saNil)))))) (saNil))))
  (ssNil)
def b__law_others_10 (F : FF) : SS :=
  ssCons (ssExpr (sMtL mAppend (sVar 14) (saCons (sTup (saCons (sVar 8) (saCons (sC .non) (saCons (s2 oIx (sVar 10) (sC (.int 0))) (saCons (sVar 11) (saNil)))))) (saNil))))
  (ssNil)
def b__law_others_9 (F : FF) : SS :=
  ssCons (ssExpr (sMtL mAppend (sVar 14) (saCons (sTup (saCons (sVar 8) (saCons (sVar 9) (saCons (s2 oAdd (sTup (saCons (sCl (arN 1 F._law_turned) (saCons (s2 oIx (sVar 10) (sC (.int 0))) (saNil))) (saNil))) (sSl (sVar 10) (soSome (sC (.int 1))) (soNone))) (saCons (sVar 11) (saNil)))))) (saNil))))
  (b__law_others_10 F)
def b__law_others_12 (F : FF) : SS :=
  ssCons (ssExpr (sMtL mAppend (sVar 14) (saCons (sTup (saCons (sVar 8) (saCons (sVar 9) (saCons (sVar 10) (saCons (s2 oMulT (sTup (saCons (sC .non) (saNil))) (sCl bLen (saCons (sVar 2) (saNil)))) (saNil)))))) (saNil))))
  (ssNil)
def b__law_others_14 (F : FF) : SS :=
  ssCons (ssExpr (sMtL mAppend (sVar 14) (saCons (sTup (saCons (sVar 8) (saCons (sVar 9) (saCons (sVar 10) (saCons (sCl (arN 1 F._law_turned) (saCons (sVar 11) (saNil))) (saNil)))))) (saNil))))
  (ssNil)
def b__law_others_13 (F : FF) : SS :=
  ssCons (ssExpr (sMtL mAppend (sVar 14) (saCons (sTup (saCons (sVar 8) (saCons (sVar 9) (saCons (sVar 10) (saCons (sC .non) (saNil)))))) (saNil))))
  (b__law_others_14 F)
def b__law_others_16 (F : FF) : SS :=
  ssCons (ssExpr (sMtL mAppend (sVar 13) (saCons (sTup (saCons (sVar 2) (saCons (s2 oAdd (s2 oAdd (sSl (sVar 3) (soNone) (soSome (sVar 5))) (sTup (saCons (sTup (saCons (sVar 6) (saCons (sVar 15) (saNil)))) (saNil)))) (sSl (sVar 3) (soSome (s2 oAdd (sVar 5) (sC (.int 1)))) (soNone))) (saCons (sVar 4) (saNil))))) (saNil))))
  (ssNil)
def b__law_others_19 (F : FF) : SS :=
  ssCons (ssExpr (sMtL mAppend (sVar 13) (saCons (sTup (saCons (sVar 2) (saCons (s2 oAdd (sSl (sVar 3) (soSome (sC (.int 1))) (soNone)) (sSl (sVar 3) (soNone) (soSome (sC (.int 1))))) (saCons (sVar 4) (saNil))))) (saNil))))
  (ssNil)
def b__law_others_20 (F : FF) : SS :=
  ssCons (ssRet (sVar 13))
  (ssNil)
def b__law_others_18 (F : FF) : SS :=
  ssCons (ssIf (sT (s2 oGt (sCl bLen (saCons (sVar 3) (saNil))) (sC (.int 1))))
  (b__law_others_19 F)
  (ssNil))
  (b__law_others_20 F)
def b__law_others_17 (F : FF) : SS :=
  ssCons (ssExpr (sMtL mAppend (sVar 13) (saCons (sTup (saCons (s2 oAdd (sSl (sVar 2) (soSome (sC (.int 1))) (soNone)) (sSl (sVar 2) (soNone) (soSome (sC (.int 1))))) (saCons (sVar 3) (saCons (sVar 4) (saNil))))) (saNil))))
  (b__law_others_18 F)
def b__law_others_15 (F : FF) : SS :=
  ssCons (ssFor (siE (sVar 14)) (sgName 15)
  (b__law_others_16 F))
  (b__law_others_17 F)
def b__law_others_11 (F : FF) : SS :=
  ssCons (ssIf (sT (s2 oIs (sVar 11) (sC .non)))
  (b__law_others_12 F)
  (b__law_others_13 F))
  (b__law_others_15 F)
def b__law_others_7 (F : FF) : SS :=
  ssCons (ssIf (sT (s2 oIs (sVar 9) (sC .non)))
  (b__law_others_8 F)
  (b__law_others_9 F))
  (b__law_others_11 F)
def b__law_others_6 (F : FF) : SS :=
  ssCons (ssAsg (sLst (saCons (sTup (saCons (sVar 12) (saCons (sVar 9) (saCons (sVar 10) (saCons (sVar 11) (saNil)))))) (saNil))) (sgName 14))
  (b__law_others_7 F)
def b__law_others_5 (F : FF) : SS :=
  ssCons (ssAsg (sLst (saCons (sTup (saCons (sVar 2) (saCons (sVar 3) (saCons (s2 oAdd (sC (.int 1)) (s2 oMod (sVar 4) (sC (.int 3)))) (saNil))))) (saNil))) (sgName 13))
  (b__law_others_6 F)
def b__law_others_4 (F : FF) : SS :=
  ssCons (ssAsg (s2 oIx (sVar 2) (s2 oMod (s2 oAdd (sMtA mIndex (sVar 2) (saCons (sVar 8) (saNil))) (sC (.int 1))) (sCl bLen (saCons (sVar 2) (saNil))))) (sgName 12))
  (b__law_others_5 F)
def b__law_others_3 (F : FF) : SS :=
  ssCons (ssAsg (sVar 7) (sgTup 4 (sgsCons (sgName 8) (sgsCons (sgName 9) (sgsCons (sgName 10) (sgsCons (sgName 11) (sgsNil)))))))
  (b__law_others_4 F)
def b__law_others_2 (F : FF) : SS :=
  ssCons (ssAsg (s2 oIx (sVar 3) (sVar 5)) (sgTup 2 (sgsCons (sgName 6) (sgsCons (sgName 7) (sgsNil)))))
  (b__law_others_3 F)
def b__law_others_1 (F : FF) : SS :=
  ssCons (ssAsg (sCl (arN 2 F._law_draw) (saCons (sVar 0) (saCons (sCl bLen (saCons (sVar 3) (saNil))) (saNil)))) (sgName 5))
  (b__law_others_2 F)
def b__law_others (F : FF) : SS :=
  ssCons (ssAsg (sVar 1) (sgTup 3 (sgsCons (sgName 2) (sgsCons (sgName 3) (sgsCons (sgName 4) (sgsNil))))))
  (b__law_others_1 F)
def b_law_5 (F : FF) : SS :=
  ssCons (ssRet (sC (.bl false)))
  (ssNil)
def b_law_8 (F : FF) : SS :=
  ssCons (ssRet (sC (.bl false)))
  (ssNil)
def b_law_12 (F : FF) : SS :=
  ssCons (ssRet (sC (.bl false)))
  (ssNil)
def b_law_11 (F : FF) : SS :=
  ssCons (ssIf (stOr (sT (s2 (fEq "Form" F.Form___eq__) (sVar 3) (sVar 7))) (stOr (sT (s2 (fEq "Form" F.Form___eq__) (sVar 7) (sVar 3))) (stNot (sT (sCl (arN 2 F._law_tells) (saCons (sVar 7) (saCons (sVar 6) (saNil))))))))
   (b_law_12 F)
   (ssNil))
  (ssNil)
def b_law_10 (F : FF) : SS :=
  ssCons (ssAsg (bMakeK "Form" 1 2 [true] [] F.Form_init (saCons (s2 oIx (sVar 6) (sC (.int 0))) (saCons (s2 oIx (sVar 6) (sC (.int 1))) (saNil))) (saCons (s2 oIx (sVar 6) (sC (.int 2))) (saNil))) (sgName 7))
  (b_law_11 F)
def b_law_13 (F : FF) : SS :=
  ssCons (ssRet (sIf (sT (sCl (arN 2 F._law_tells) (saCons (sVar 3) (saCons (sVar 2) (saNil))))) (s2 (fEq "Form" F.Form___eq__) (sVar 3) (sVar 5)) (sC (.bl false))))
  (ssNil)
def b_law_9 (F : FF) : SS :=
  ssCons (ssFor (siE (sCl (arN 2 F._law_others) (saCons (sVar 1) (saCons (sVar 2) (saNil))))) (sgName 6)
  (b_law_10 F))
  (b_law_13 F)
def b_law_7 (F : FF) : SS :=
  ssCons (ssIf (stOr (stNot (sT (s2 (fEq "Form" F.Form___eq__) (sVar 3) (sVar 5)))) (stOr (sT (s2 (fNeO "Form" F.Form___eq__) (sVar 3) (sVar 5))) (sT (s2 oNe (s2 (fEq "Form" F.Form___eq__) (sVar 4) (sVar 3)) (s2 oEq (s2 oIx (sVar 2) (sC (.int 2))) (sC (.int 3)))))))
  (b_law_8 F)
  (ssNil))
  (b_law_9 F)
def b_law_6 (F : FF) : SS :=
  ssCons (ssAsg (bMakeK "Form" 1 2 [true] [] F.Form_init (saCons (s2 oIx (sVar 2) (sC (.int 0))) (saCons (s2 oIx (sVar 2) (sC (.int 1))) (saNil))) (saCons (s2 oIx (sVar 2) (sC (.int 2))) (saNil))) (sgName 5))
  (b_law_7 F)
def b_law_4 (F : FF) : SS :=
  ssCons (ssIf (stOr (stNot (sT (sCl (arN 2 F._law_tells) (saCons (sVar 3) (saCons (sVar 2) (saNil)))))) (stNot (sT (sCl (arN 2 F._law_tells) (saCons (sVar 4) (saCons (s2 oAdd (sSl (sVar 2) (soNone) (soSome (sC (.int 2)))) (sTup (saCons (sC (.int 3)) (saNil)))) (saNil)))))))
  (b_law_5 F)
  (ssNil))
  (b_law_6 F)
def b_law_3 (F : FF) : SS :=
  ssCons (ssAsg (bMakeK "Form" 0 2 [false] [(.int 3)] F.Form_init (saCons (s2 oIx (sVar 2) (sC (.int 0))) (saCons (s2 oIx (sVar 2) (sC (.int 1))) (saNil))) (saNil)) (sgName 4))
  (b_law_4 F)
def b_law_2 (F : FF) : SS :=
  ssCons (ssAsg (bMakeK "Form" 1 2 [true] [] F.Form_init (saCons (s2 oIx (sVar 2) (sC (.int 0))) (saCons (s2 oIx (sVar 2) (sC (.int 1))) (saNil))) (saCons (s2 oIx (sVar 2) (sC (.int 2))) (saNil))) (sgName 3))
  (b_law_3 F)
def b_law_1 (F : FF) : SS :=
  ssCons (ssAsg (sCl (arN 1 F._law_parts) (saCons (sVar 1) (saNil))) (sgName 2))
  (b_law_2 F)
def b_law (F : FF) : SS :=
  ssCons (ssAsg (sCl (arN 1 F._law_box) (saCons (sVar 0) (saNil))) (sgName 1))
  (b_law_1 F)
def FF.stk : FF := ⟨fun _ _ => .stk, fun _ _ => .stk, fun _ _ => .stk, fun _ _ => .stk, fun _ _ => .stk, fun _ _ => .stk, fun _ _ => .stk, fun _ _ => .stk, fun _ _ => .stk, fun _ _ => .stk, fun _ _ => .stk, fun _ _ => .stk, fun _ _ => .stk, fun _ _ => .stk, fun _ _ => .stk, fun _ _ => .stk, fun _ _ => .stk, fun _ _ => .stk, fun _ _ => .stk, fun _ _ => .stk, fun _ _ => .stk, fun _ _ => .stk, fun _ _ => .stk, fun _ _ => .stk, fun _ _ => .stk, fun _ _ => .stk⟩
def stepF (F : FF) : FF where
  is_integer := defRun 1 (b_is_integer F)
  is_name := defRun 2 (b_is_name F)
  is_one_of := defRun 2 (b_is_one_of F)
  are_names := defRun 4 (b_are_names F)
  is_pair := defRun 1 (b_is_pair F)
  are_fields := defRun 2 (b_are_fields F)
  is_row := defRun 3 (b_is_row F)
  is_near := defRun 4 (b_is_near F)
  check_field := defRun 8 (b_check_field F)
  Form_init := defRun 8 (b_Form_init F)
  Form___eq__ := defRun 2 (b_Form___eq__ F)
  Form_field_names := defRun 2 (b_Form_field_names F)
  Form_parts_of := defRun 4 (b_Form_parts_of F)
  Form_readers := defRun 3 (b_Form_readers F)
  _law_mix := defRun 3 (b__law_mix F)
  _law_box := defRun 4 (b__law_box F)
  _law_draw := defRun 4 (b__law_draw F)
  _law_same := defRun 3 (b__law_same F)
  _law_names := defRun 8 (b__law_names F)
  _law_entries := defRun 5 (b__law_entries F)
  _law_field := defRun 12 (b__law_field F)
  _law_parts := defRun 7 (b__law_parts F)
  _law_tells := defRun 7 (b__law_tells F)
  _law_turned := defRun 2 (b__law_turned F)
  _law_others := defRun 16 (b__law_others F)
  law := defRun 8 (b_law F)
def runF : Nat → FF
  | 0 => FF.stk
  | k + 1 => stepF (runF k)
end
end LW
end

section
namespace LW
open PySem W3
theorem ok_mix (F : FF) : MixW (defRun 3 (b__law_mix F)) := by
  intro v k h Q E hq
  have e1 : ∀ x : Int, 0 ≤ x % 2147483647 ∧ x % 2147483647 < 2147483647 := fun x => by omega
  have q := e1 ((v + 7919 * k + 1) * 48271)
  simp [b__law_mix, b__law_mix_1, b__law_mix_2]
  rw [e_mul_l (by omega) (by omega)]
  simp
  have q := e1 (((v + 7919 * k + 1) * 48271 % 2147483647 * ((v + 7919 * k + 1) * 48271 % 2147483647 / 1009 + 69621)))
  rw [e_mul_l (by omega) (by omega)]
  simp [hq]
theorem ok_box {F : FF} (m : MixW F._law_mix) : BoxW (defRun 4 (b__law_box F)) := by
  intro ns h Q E hns hq
  obtain ⟨ms, em, hm⟩ := cut_ints ns none (some 63)
  simp [b__law_box, b__law_box_1, em]
  refine wp_lcm (ts := ms.map T.int) id (szle (by simp; omega)) lstAt_new (fun x hx => ?_) ?_
  · obtain ⟨n, _, rfl⟩ := List.mem_map.mp hx
    simp
  simp [b__law_box_1, b__law_box_2]
  refine wp_for (ts := ms.map T.int) (fun i σ h1 => (∃ a z, σ = [some (T.fl (List.map T.int ns)), some (T.ref (List.length h + 1)), a, some (T.int z)]) ∧ h1 = h ++ [Ob.lst (List.map T.int ms), Ob.lst (List.map T.int ms)])
    (fun i σ h1 q => by rw [q.2]; simp [Src.Is]) ⟨⟨_, _, rfl⟩, rfl⟩ (fun i x σ h1 ex q => ?_) (fun σ h1 q => ?_)
  · obtain ⟨⟨a, z, rfl⟩, rfl⟩ := q
    obtain ⟨n, rfl⟩ := map_int_get ex
    refine ⟨_, rfl, ?_⟩
    simp [b__law_box_3]
    refine m fun y => ?_
    simp
  · obtain ⟨⟨a, z, rfl⟩, rfl⟩ := q
    simp [sizeLine, b__law_box_4]
    refine hq _ _ ⟨h.length + 1, ms, 0, 0, z, 0, ?_, ?_, by omega, by omega⟩ (by simp) (fun k hk => ?_) (fun c hc => ?_)
    · simp [BoxL]
    · simp
    · rw [List.getElem?_append_left hk]
    · unfold BoxC at hc
      simp at hc
      omega
theorem ok_draw {F : FF} (M : MixW F._law_mix) : DrawW (defRun 4 (b__law_draw F)) := by
  intro h l m Q E hb h0 h1 hq
  obtain ⟨c, cells, i, d, s, n, e, e2, hi, hd⟩ := hb
  have hne := IsBox.ne e e2
  have hlt := lstAt_lt e
  unfold BoxL at e
  have ec : ∀ o, lstAt (List.set h l o) c = some (cells.map T.int) := fun o => by rw [lstAt_set_ne hne]; exact e2
  have key : ∀ i' d' s' n', 0 ≤ i' → 0 ≤ d' → Up l h (List.set h l (.lst [T.ref c, T.int i', T.int d', T.int s', T.int n'])) := fun i' d' s' n' q1 q2 =>
    ⟨by simp, fun k _ hk => List.getElem?_set_ne (Ne.symm hk), ⟨c, cells, i', d', s', n', lstAt_set_self hlt, ec _, q1, q2⟩, by unfold BoxC; rw [lstAt_set_self hlt, e]⟩
  have hmod : ∀ x : Int, 0 ≤ x % m ∧ x % m < m := fun x => ⟨Int.emod_nonneg _ (by omega), Int.emod_lt_of_pos _ h0⟩
  simp [b__law_draw, b__law_draw_1, b__law_draw_2, b__law_draw_3, b__law_draw_4, b__law_draw_5, b__law_draw_6, b__law_draw_7, b__law_draw_8, b__law_draw_9, b__law_draw_10, b__law_draw_11, e, hlt]
  by_cases hd0 : d = 0
  · subst hd0
    by_cases hi2 : i < cells.length
    · obtain ⟨x, ex, qx⟩ := atI_int (xs := cells.map T.int) hi (by simpa using hi2)
      obtain ⟨z, rfl⟩ := map_int_get qx
      simp [ec, hlt, hi2, ex, h0, h1]
      refine ⟨fun hz => M fun y => ?_, fun hz => ⟨fun hz0 => by omega, fun hz0 => ?_⟩⟩
      · simp [h0]
        exact hq _ _ (hmod _).1 (hmod _).2 (key _ _ _ _ (by omega) (by omega))
      · exact hq _ _ (hmod _).1 (hmod _).2 (key _ _ _ _ (by omega) (Int.ediv_nonneg (by omega) (by omega)))
    · simp [ec, hlt, hi2, h0]
      refine M fun y => ?_
      simp [h0]
      exact hq _ _ (hmod _).1 (hmod _).2 (key _ _ _ _ (by omega) (by omega))
  · simp [hd0, hlt, h0, h1]
    exact hq _ _ (hmod _).1 (hmod _).2 (key _ _ _ _ (by omega) (Int.ediv_nonneg (by omega) (by omega)))
theorem ok_names {F : FF} (D : DrawW F._law_draw) : NamesW (defRun 8 (b__law_names F)) := by
  intro h l m Q E hb h0 h1 hq
  have hsz := sz
  simp [b__law_names, b__law_names_1]
  rw [e_rng (by omega) (by omega)]
  simp
  refine wp_for (ts := rangeT 0 m.toNat) (fun i σ h1 => ∃ ss a3 a4 a5 a6 a7, σ = [some (T.ref l), some (T.int m), some (T.ref h.length), a3, a4, a5, a6, a7] ∧ lstAt h1 h.length = some (tSs ss) ∧ ss.length = i ∧ NmL ss ∧ Kp l h.length h h1)
    (fun i σ h1 q => rfl) ⟨[], _, _, _, _, _, rfl, by simp, rfl, ⟨List.nodup_nil, by simp⟩, Up.app hb _⟩ (fun i x σ h1 ex q => ?_) (fun σ h1 q => ?_)
  · obtain ⟨ss, a3, a4, a5, a6, a7, rfl, hl, hn, hs, kp⟩ := q
    obtain ⟨rfl, hi⟩ := range_at ex
    refine ⟨_, rfl, ?_⟩
    simp [b__law_names_2, b__law_names_3]
    refine D kp.box (by omega) (by omega) fun d h2 d0 d1 u => ?_
    simp
    rw [e_rng (by omega) (by omega)]
    simp
    refine wp_for (ts := rangeT 0 (1 + d).toNat) (fun j σ h1 => ∃ w a5 a6 a7, σ = [some (T.ref l), some (T.int m), some (T.ref h.length), some (T.int i), some (T.str w), a5, a6, a7] ∧ lstAt h1 h.length = some (tSs ss) ∧ w.length = j ∧ Lt w ∧ Kp l h.length h h1)
      (fun i σ h1 q => rfl) ⟨_, _, _, _, rfl, u.lst hl (by have := hb.lt; omega), rfl, Lt.nil, kp.up u⟩ (fun j x σ h1 ex q => ?_) (fun σ h1 q => ?_)
    · obtain ⟨w, a5, a6, a7, rfl, hl, hw, lw, kp⟩ := q
      obtain ⟨rfl, hj⟩ := range_at ex
      refine ⟨_, rfl, ?_⟩
      simp [b__law_names_4]
      refine D kp.box (by omega) (by omega) fun d2 h3 d20 d21 u2 => ?_
      obtain ⟨c, hc, ec⟩ := lets_at d20 (by omega)
      simp [ec, show 26 ≤ sizeLine by omega, show w.length + 1 ≤ sizeLine by omega]
      exact ⟨u2.lst hl (by have := hb.lt; omega), by omega, lw.app (Lt.one hc), kp.up u2⟩
    · obtain ⟨w, a5, a6, a7, rfl, hl, hw, lw, kp⟩ := q
      rw [range_length] at hw
      have hbl := hb.lt
      simp [oIn_ref hl, b__law_names_5, b__law_names_6]
      have fin : ∀ (w' : Str) (h3 : Hh), Nm w' → w' ∉ ss → Kp l h.length h h3 → lstAt h3 h.length = some (tSs ss) → ∃ ss', lstAt (h3.set h.length (.lst (tSs ss ++ [.str w']))) h.length = some (tSs ss') ∧ ss'.length = i + 1 ∧ NmL ss' ∧ Kp l h.length h (h3.set h.length (.lst (tSs ss ++ [.str w']))) := by
        intro w' h3 nw nn kp hl
        refine ⟨ss ++ [w'], ?_, by simp; omega, hs.snoc nw nn, kp.set _ hb (Nat.le_refl _) (Nat.le_refl _)⟩
        rw [lstAt_set_self (lstAt_lt hl)]
        simp
      refine ⟨fun hin => ?_, fun hin => ?_⟩
      · refine wp_lcf (ts := (Str.ofString "abcdefghijklmnopqrstuvwxyz").cps.toList.map fun c => .str ⟨#[c]⟩)
          (fun x => match x with | .str s => !decide (L2.cutS w none (some 7) ++ s ∈ ss) | _ => false) (fun x => match x with | .str s => .str (L2.cutS w none (some 7) ++ s) | _ => x)
          (szle (by decide +kernel)) rfl (fun x hx => ?_) ?_
        · obtain ⟨c, hc, rfl⟩ := List.mem_map.mp hx
          have := cut7_len w
          simp [oNotIn_ref hl, show w.length ≤ sizeLine by omega, show (L2.cutS w none (some 7)).length + 1 ≤ sizeLine by omega]
        · obtain ⟨c, hc, hf⟩ := free_name (L2.cutS w none (some 7)) ss (by omega)
          have hne : ∃ c r, c ∈ LETS.cps.toList ∧ L2.cutS w none (some 7) ++ (⟨#[c]⟩ : Str) ∉ ss ∧ ((List.filter (fun x => match x with | .str s => !decide (L2.cutS w none (some 7) ++ s ∈ ss) | _ => false) ((Str.ofString "abcdefghijklmnopqrstuvwxyz").cps.toList.map fun c => T.str ⟨#[c]⟩)).map (fun x => match x with | .str s => .str (L2.cutS w none (some 7) ++ s) | _ => x)) = T.str (L2.cutS w none (some 7) ++ (⟨#[c]⟩ : Str)) :: r := by
            cases hq : (List.filter (fun x => match x with | T.str s => !decide (L2.cutS w none (some 7) ++ s ∈ ss) | _ => false) ((Str.ofString "abcdefghijklmnopqrstuvwxyz").cps.toList.map fun c => T.str ⟨#[c]⟩)) with
            | nil =>
              rw [List.filter_eq_nil_iff] at hq
              have := hq (T.str ⟨#[c]⟩) (List.mem_map.mpr ⟨c, hc, rfl⟩)
              simp [hf] at this
            | cons y r =>
              have hy : y ∈ List.filter (fun x => match x with | T.str s => !decide (L2.cutS w none (some 7) ++ s ∈ ss) | _ => false) ((Str.ofString "abcdefghijklmnopqrstuvwxyz").cps.toList.map fun c => T.str ⟨#[c]⟩) := by rw [hq]; simp
              rw [List.mem_filter] at hy
              obtain ⟨hy1, hy2⟩ := hy
              obtain ⟨c', hc', rfl⟩ := List.mem_map.mp hy1
              exact ⟨c', _, hc', by simpa using hy2, rfl⟩
          obtain ⟨c, r, hc, hf, er⟩ := hne
          rw [er]
          simp [b__law_names_7]
          have hl2 : ∀ o, lstAt (h1 ++ o) h.length = some (tSs ss) := fun o => lstAt_app o hl
          simp [b__law_names_8, hl2, show ss.length < sizeLine by omega]
          have l7 := cut7_len w
          have nw : Nm (L2.cutS w none (some 7) ++ (⟨#[c]⟩ : Str)) := ⟨by simp, by simp; omega, (cut7_lt lw).app (Lt.one hc)⟩
          simpa using fin _ _ nw hf (kp.app _) (hl2 _)
      · simp [b__law_names_8, hl, show ss.length < sizeLine by omega]
        simpa using fin w h1 ⟨by omega, by omega, lw⟩ hin kp hl
  · obtain ⟨ss, a3, a4, a5, a6, a7, rfl, hl, hn, hs, kp⟩ := q
    rw [range_length] at hn
    simp [b__law_names_9]
    exact hq _ ss _ hl (by omega) hs kp (Nat.le_refl _)
theorem ok_entries {F : FF} (D : DrawW F._law_draw) : EntriesW (defRun 5 (b__law_entries F)) := by
  intro h l r a b n Q E hb hr ha hb' hn hq
  have hsz := sz
  have hne := box_ne hb (lstAt_two hr)
  simp [b__law_entries, b__law_entries_1, hr, show 4 ≤ sizeLine by omega]
  rw [e_rng (by omega) (by omega)]
  simp
  refine wp_lc (ts := rangeT 0 n) (szle (by simp; omega)) (fun i acc h1 => ∃ row : List Ent, acc = row.map tE ∧ row.length = i ∧ (∀ s, some s ∈ row → Nm s) ∧ Kp l h.length h h1 ∧ lstAt h1 h.length = some [.non, .non, .str a, .str b])
    (fun i acc h1 q => rfl) ⟨[], rfl, rfl, by simp, Up.app hb _, by simp⟩ (fun i x acc h1 ex q => ?_) (fun acc h1 q => ?_)
  · obtain ⟨row, rfl, hl, hs, kp, hm⟩ := q
    obtain ⟨rfl, hi⟩ := range_at ex
    refine ⟨_, rfl, ?_⟩
    simp
    refine D kp.box (by omega) (by omega) fun d h2 d0 d1 u => ?_
    have hm2 := u.lst hm (by have := hb.lt; omega)
    have hz : ∃ e : Ent, L2.atI [T.non, T.non, T.str a, T.str b] d = some (tE e) ∧ ∀ s, e = some s → Nm s := by
      have : d = 0 ∨ d = 1 ∨ d = 2 ∨ d = 3 := by omega
      rcases this with rfl | rfl | rfl | rfl
      · exact ⟨none, rfl, by simp⟩
      · exact ⟨none, rfl, by simp⟩
      · exact ⟨some a, rfl, by simp [ha]⟩
      · exact ⟨some b, rfl, by simp [hb']⟩
    obtain ⟨e, ee, he⟩ := hz
    simp [hm2, ee]
    refine ⟨row ++ [e], by simp, by simp; omega, fun s hs' => ?_, kp.up u⟩
    rcases List.mem_append.mp hs' with q | q
    · exact hs s q
    · simp at q; exact he s q.symm
  · obtain ⟨row, rfl, hl, hs, kp, hm⟩ := q
    rw [range_length] at hl
    simp
    exact hq row h1 ⟨hl, hs⟩ kp
theorem ok_field {F : FF} (D : DrawW F._law_draw) (En : EntriesW F._law_entries) : FieldW (defRun 12 (b__law_field F)) := by
  intro h l rn rt ws ns nm a b Q E hb hrn hrt ha hb' hw hw2 hn hq
  have hsz := sz
  have hne := box_ne hb (lstAt_two hrt)
  have hne2 := box_ne hb hrn
  have rest2 : ∀ (fi : Str) (nr : Nr) (far : Option (List Ent)) (h1 : Hh) (a2 a3 a6 a7 a10 : Option T), fi ∈ ws → NrOk ws.length ns nm nr → (∀ r, far = some r → RowOk ws.length r) → Up l h h1 →
      (b__law_field_10 F [some (.ref l), some (.tup (tSs ws)), a2, a3, some (.ref rt), some (.str fi), a6, a7, some nr.tLooks, some nr.tNear, a10, some (tFar far)] h1).wp (FQ.df Q E) := by
    intro fi nr far h1 a2 a3 a6 a7 a10 hfi hnr hfar u
    simp [b__law_field_10, show 4 ≤ sizeLine by omega]
    exact hq ⟨fi, nr, far⟩ h1 ⟨hfi, hnr, hfar⟩ u
  have rest : ∀ (fi : Str) (nr : Nr) (h1 : Hh) (a2 a3 a6 a7 a10 a11 : Option T), fi ∈ ws → NrOk ws.length ns nm nr → Up l h h1 → lstAt h1 rt = some [.str a, .str b] →
      (b__law_field_7 F [some (.ref l), some (.tup (tSs ws)), a2, a3, some (.ref rt), some (.str fi), a6, a7, some nr.tLooks, some nr.tNear, a10, a11] h1).wp (FQ.df Q E) := by
    intro fi nr h1 a2 a3 a6 a7 a10 a11 hfi hnr u hrt
    simp [b__law_field_7, b__law_field_8]
    refine D u.box (by omega) (by omega) fun d h2 d0 d1 u2 => ?_
    simp [b__law_field_9]
    have hrt2 := u2.lst hrt hne
    refine ⟨fun hd => En u2.box hrt2 ha hb' hw2 fun row h3 rok u3 => ?_, fun hd => ?_⟩
    · simp
      exact rest2 fi nr (some row) h3 _ _ _ _ _ hfi hnr (by simp [rok]) ((u.up u2).up u3)
    · exact rest2 fi nr none h2 _ _ _ _ _ hfi hnr (by simp) (u.up u2)
  simp [b__law_field]
  refine D hb (by omega) (by omega) fun d h1 d0 d1 u1 => ?_
  obtain ⟨fi, efi, hfi⟩ := atI_map T.str (xs := ws) d0 (by omega)
  have hrn1 := u1.lst hrn hne2
  simp [b__law_field_1, efi, hrn1]
  refine wp_lcf (ts := tSs ns) (fun x => match x with | .str s => !decide (s = nm) | _ => false) id (szle (by simp; omega)) hrn1 (fun x hx => ?_) ?_
  · obtain ⟨s, _, rfl⟩ := List.mem_map.mp hx
    simp
  have ef : ((tSs ns).filter (fun x => match x with | .str s => !decide (s = nm) | _ => false)).map id = tSs (ns.filter fun s => !decide (s = nm)) := by
    rw [List.map_id, List.filter_map]
    rfl
  rw [ef]
  generalize ho : (ns.filter fun s => !decide (s = nm)) = os
  have hos : ∀ s ∈ os, s ∈ ns ∧ s ≠ nm := by
    intro s hs
    rw [← ho, List.mem_filter] at hs
    simpa using hs
  have hol : os.length ≤ ns.length := by rw [← ho]; exact List.length_filter_le _ _
  simp [b__law_field_2, b__law_field_3]
  refine En (u1.box.app _) (lstAt_app _ (u1.lst hrt hne)) ha hb' hw2 fun row h2 rok u2 => ?_
  have hos2 : lstAt h2 h1.length = some (tSs os) := u2.lst (by simp) (by have := u1.box.lt; omega)
  have hrt2 := u2.lst (lstAt_app _ (u1.lst hrt hne)) hne
  have up2 : Up l h h2 := (Kp.app u1 [Ob.lst (tSs os)]).up u2
  simp [b__law_field_4, hos2]
  refine ⟨fun hz => ?_, fun hz => ?_⟩
  · refine D up2.box (by omega) (by omega) fun d h3 d0 d1 u3 => ?_
    have hos3 := u3.lst hos2 (by have := u1.box.lt; omega)
    have hrt3 := u3.lst hrt2 hne
    simp [b__law_field_5, hos3]
    refine ⟨fun hd => D u3.box (by omega) (by omega) fun d h4 d0 d1 u4 => ?_, fun hd => rest fi (.alone row) h3 _ _ _ _ _ _ hfi rok (up2.up u3) hrt3⟩
    have hos4 := u4.lst hos3 (by have := u1.box.lt; omega)
    have hrt4 := u4.lst hrt3 hne
    obtain ⟨g, eg, hg⟩ := atI_map T.str (xs := os) d0 (by omega)
    simp [b__law_field_6, hos4, eg]
    refine wp_lc (ts := tSs ws) (szle (by simp; omega)) (fun i acc h1 => ∃ rows : List (List Ent), acc = rows.map tRow ∧ rows.length = i ∧ (∀ r ∈ rows, RowOk ws.length r) ∧ Up l h h1 ∧ lstAt h1 rt = some [.str a, .str b])
      (fun i acc h1 q => rfl) ⟨[], rfl, rfl, by simp, ((up2.up u3).up u4), hrt4⟩ (fun i x acc h1 ex q => ?_) (fun acc h1 q => ?_)
    · obtain ⟨rows, rfl, hl, hr, u, hrt⟩ := q
      refine ⟨_, rfl, ?_⟩
      simp
      refine En u.box hrt ha hb' hw2 fun row h2 rok u2 => ?_
      refine ⟨rows ++ [row], by simp, by simp; omega, fun r hr' => ?_, u.up u2, u2.lst hrt hne⟩
      rcases List.mem_append.mp hr' with q | q
      · exact hr r q
      · simp at q; rw [q]; exact rok
    · obtain ⟨rows, rfl, hl, hr, u, hrt⟩ := q
      simp at hl
      simp
      exact rest fi (.looks g rows) h1 _ _ _ _ _ _ hfi ⟨(hos g hg).1, (hos g hg).2, hl, hr⟩ u hrt
  · exact rest fi (.alone row) h2 _ _ _ _ _ _ hfi rok up2 hrt2
theorem ok_parts {F : FF} (D : DrawW F._law_draw) (N : NamesW F._law_names) (Fi : FieldW F._law_field) : PartsW (defRun 7 (b__law_parts F)) := by
  intro h l Q E hb hq
  have hsz := sz
  have rest : ∀ (ws ns : List Str) (a b : Str) (sz : Int) (rn rt : Nat) (h1 : Hh) (a5 a6 : Option T), NmL ws → 2 ≤ ws.length → ws.length ≤ 3 → NmL ns → 1 ≤ ns.length → ns.length ≤ 3 → Nm a → Nm b → 1 ≤ sz → sz ≤ 3 → lstAt h1 rn = some (tSs ns) → lstAt h1 rt = some [.str a, .str b] → Up l h h1 →
      (b__law_parts_6 F [some (.ref l), some (.int sz), some (.tup (tSs ws)), some (.ref rn), some (.ref rt), a5, a6] h1).wp (FQ.df Q E) := by
    intro ws ns a b sz rn rt h1 a5 a6 hws hw2 hw3 hns hn1 hn3 ha hb' hz1 hz3 hrn hrt u
    simp [b__law_parts_6, hrn]
    refine wp_lc (ts := tSs ns) (szle (by simp; omega)) (fun i acc h1 => ∃ fs : List (Str × Fd), acc = fs.map tPair ∧ fs.map Prod.fst = ns.take i ∧ (∀ p ∈ fs, FdOk ws ns p.1 p.2) ∧ Up l h h1 ∧ lstAt h1 rn = some (tSs ns) ∧ lstAt h1 rt = some [.str a, .str b])
      (fun i acc h1 q => by obtain ⟨_, _, _, _, _, q, _⟩ := q; exact q) ⟨[], rfl, by simp, by simp, u, hrn, hrt⟩ (fun i x acc h1 ex q => ?_) (fun acc h1 q => ?_)
    · obtain ⟨fs, rfl, hl, hf, u, hrn, hrt⟩ := q
      rw [List.getElem?_map] at ex
      cases hx : ns[i]? with
      | none => rw [hx] at ex; cases ex
      | some s =>
        rw [hx] at ex; cases ex
        refine ⟨_, rfl, ?_⟩
        simp
        refine Fi (nm := s) u.box hrn hrt ha hb' hw2 (by omega) (by omega) fun fd h2 fok u2 => ?_
        simp [show 2 ≤ sizeLine by omega]
        refine ⟨fs ++ [(s, fd)], by simp [tPair], by simp [hl, List.take_add_one, hx], fun a b hp => ?_, u.up u2, u2.lst hrn (box_ne u.box hrn), u2.lst hrt (box_ne u.box (lstAt_two hrt))⟩
        rcases List.mem_append.mp hp with q | q
        · exact hf _ q
        · simp at q; rw [q.1, q.2]; exact fok
    · obtain ⟨fs, rfl, hl, hf, u, hrn, hrt⟩ := q
      simp at hl
      have hfl : fs.length = ns.length := by rw [← hl]; simp
      simp [b__law_parts_7, show 3 ≤ sizeLine by omega]
      exact hq ⟨ws, fs, sz⟩ h1 ⟨hw2, hw3, hws, by show 1 ≤ fs.length; omega, by show fs.length ≤ 3; omega, by show NmL (fs.map Prod.fst); rw [hl]; exact hns, fun p hp => by show FdOk ws (fs.map Prod.fst) p.1 p.2; rw [hl]; exact hf p hp, hz1, hz3⟩ u
  simp [b__law_parts]
  refine D hb (by omega) (by omega) fun d h1 d0 d1 u1 => ?_
  simp [b__law_parts_1]
  refine D u1.box (by omega) (by omega) fun d2 h2 d20 d21 u2 => ?_
  simp
  refine N u2.box (by omega) (by omega) fun rw_ ws h3 hrw hwl hws u3 hge => ?_
  simp [hrw, b__law_parts_2]
  refine D u3.box (by omega) (by omega) fun d3 h4 d30 d31 u4 => ?_
  simp
  refine N u4.box (by omega) (by omega) fun rn ns h5 hrn hnl hns u5 hge2 => ?_
  simp [b__law_parts_3]
  refine N (m := 2) u5.box (by omega) (by omega) fun rt nt h6 hrt htl hnt u6 hge3 => ?_
  have hrn6 := u6.lst hrn (box_ne u5.box hrn)
  have up6 := ((((u1.up u2).up u3).up u4).up u5).up u6
  have hnt2 : ∃ a b, nt = [a, b] := by
    match nt, htl with
    | [a, b], _ => exact ⟨a, b, rfl⟩
  obtain ⟨a, b, rfl⟩ := hnt2
  have hw0 : ∃ w0 wr, ws = w0 :: wr := by
    match ws, hwl with
    | [], hwl => simp at hwl; omega
    | w0 :: wr, _ => exact ⟨w0, wr, rfl⟩
  have hn0 : ∃ n0 nr, ns = n0 :: nr := by
    match ns, hnl with
    | [], hnl => simp at hnl; omega
    | w0 :: wr, _ => exact ⟨w0, wr, rfl⟩
  obtain ⟨w0, wr, rfl⟩ := hw0
  obtain ⟨n0, nr, rfl⟩ := hn0
  simp [b__law_parts_4]
  refine D u6.box (by omega) (by omega) fun d4 h7 d40 d41 u7 => ?_
  have hrn7 := u7.lst hrn6 (box_ne u6.box hrn6)
  have hrt7 := u7.lst hrt (box_ne u6.box hrt)
  have up7 := up6.up u7
  simp at hwl hnl
  have ha : Nm a := hnt.nm a (by simp)
  have hb' : Nm b := hnt.nm b (by simp)
  have l1 := u1.le; have l2 := u2.le; have l3 := u3.le; have l4 := u4.le; have l5 := u5.le; have l6 := u6.le
  have hne : rn ≠ rt := by have := lstAt_lt hrn; omega
  simp [b__law_parts_5, oNotIn_ref hrn7, hrn7]
  refine ⟨fun hd => ⟨fun h1' h2' => ?_, ?_⟩, fun hd => ?_⟩
  · have hlt := lstAt_lt hrn7
    exact rest (w0 :: wr) (w0 :: nr) a b _ rn rt _ _ _ hws (by simp; omega) (by simp; omega) ⟨List.nodup_cons.mpr ⟨h2', (List.nodup_cons.mp hns.nd).2⟩, fun s hs => by
      rcases List.mem_cons.mp hs with q | q
      · rw [q]; exact hws.nm _ (by simp)
      · exact hns.nm s (by simp [q])⟩ (by simp) (by simp; omega) ha hb' (by omega) (by omega) (by rw [lstAt_set_self hlt]; simp) (by rw [lstAt_set_ne hne]; exact hrt7) (up7.set _ hb (Nat.le_refl _) (by omega))
  · intro _
    exact rest (w0 :: wr) (n0 :: nr) a b _ rn rt _ _ _ hws (by simp; omega) (by simp; omega) hns (by simp) (by simp; omega) ha hb' (by omega) (by omega) hrn7 hrt7 up7
  · exact rest (w0 :: wr) (n0 :: nr) a b _ rn rt _ _ _ hws (by simp; omega) (by simp; omega) hns (by simp) (by simp; omega) ha hb' (by omega) (by omega) hrn7 hrt7 up7
theorem ok_is_integer (F : FF) : IsB (defRun 1 (b_is_integer F)) 0 integerB := by
  intro v h j
  apply eq_of_wp
  simp [b_is_integer, j_int j.jd, j_bl j.jd]
  cases v <;> simp [isInt, isBl, integerB]
theorem ok_is_name (F : FF) : IsB (defRun 2 (b_is_name F)) 0 nameB := by
  intro v h j
  have hsz := sz
  apply eq_of_wp
  cases hv : isStr v with
  | false => simp [b_is_name, b_is_name_1, b_is_name_2, j_str j.jd, hv, nameB_not]
  | true =>
    obtain ⟨s, rfl⟩ := of_isStr hv
    have hl : s.length ≤ 1000 := j.jd
    simp [b_is_name, b_is_name_1, b_is_name_2, show s.length ≤ sizeLine by omega]
    refine ⟨fun h1 => ⟨fun h8 => ?_, fun h8 => ?_⟩, fun h1 => ?_⟩
    · simp [nameB, nmB, show ¬ s.length ≤ 8 by omega]
    · refine lcm_all (p := fun t => match t with | .str s => ltB s | _ => false) (szle (by rw [List.length_map, ← str_len]; omega)) rfl (fun x hx => ?_) ?_
      · obtain ⟨c, hc, rfl⟩ := List.mem_map.mp hx
        refine ⟨_, rfl, ?_⟩
        simp only [e_s2, e_sVar, e_sC, Res.bind_ok, List.set_cons_succ, List.set_cons_zero, List.getElem?_cons_succ, List.getElem?_cons_zero, oIn_ch]
        simp [ltB, LETS]
      · simp [nameB, nmB, show 1 ≤ s.length by omega, show s.length ≤ 8 by omega]
        rw [show s.cps.all _ = s.cps.toList.all _ from (Array.all_toList).symm]
        simp only [ltB, List.all_cons, List.all_nil, Bool.and_true]
    · simp [nameB, nmB, show ¬ 1 ≤ s.length by omega]
theorem ok_is_one_of (F : FF) : OneE (defRun 2 (b_is_one_of F)) := by
  refine ⟨fun {v ss h} j => ?_, fun {v r ss h} j e => ?_⟩
  · apply eq_of_wp
    cases hv : isStr v with
    | false =>
      simp [b_is_one_of, j_str j, hv]
      cases v <;> first | rfl | cases hv
    | true =>
      obtain ⟨s, rfl⟩ := of_isStr hv
      simp [b_is_one_of, oneB]
  · apply eq_of_wp
    cases hv : isStr v with
    | false =>
      simp [b_is_one_of, j_str j, hv]
      cases v <;> first | rfl | cases hv
    | true =>
      obtain ⟨s, rfl⟩ := of_isStr hv
      simp [b_is_one_of, oneB, oIn_ref e]
theorem ok_is_row {F : FF} (N : IsB F.is_name 0 nameB) : RowE (defRun 3 (b_is_row F)) := by
  intro v n h j
  have hsz := sz
  apply eq_of_wp
  cases hv : isTup v with
  | false =>
    simp [b_is_row, b_is_row_1, j_tup j.jd, hv]
    cases v <;> first | rfl | cases hv
  | true =>
    obtain ⟨ts, rfl⟩ := of_isTup hv
    have hl : ts.length ≤ 1000 := j.jd
    simp [b_is_row, b_is_row_1, b_is_row_2]
    refine ⟨fun e => ?_, fun e => by simp [rowB, e]⟩
    refine lcm_all (p := entB) (szle (by omega)) rfl (fun x hx => ?_) ?_
    · refine ⟨_, rfl, ?_⟩
      have jx := j.tup hx
      cases hx : isNonT x <;> simp [hx, N jx, entB]
    · simp [rowB, e]
theorem ok_is_near {F : FF} (R : RowE F.is_row) : NearE (defRun 4 (b_is_near F)) := by
  intro v lo n h j
  have hsz := sz
  have j1 : JdN 1 v h := ⟨j.1, fun ts e t ht => (j.2 ts e t ht).jd⟩
  apply eq_of_wp
  cases hlo : isNonT lo with
  | true => simp [b_is_near, b_is_near_1, hlo, R j1, nearB]
  | false =>
    cases hv : isTup v with
    | false =>
      simp [b_is_near, b_is_near_2, b_is_near_3, j_tup j.jd, hv, hlo]
      cases v <;> first | (simp [nearB, hlo]; done) | exact absurd hv (by simp [isTup])
    | true =>
      obtain ⟨ts, rfl⟩ := of_isTup hv
      have hl : ts.length ≤ 1000 := j.jd
      simp [b_is_near, b_is_near_2, b_is_near_3, b_is_near_4, hlo]
      refine ⟨fun e => ?_, fun e => by simp [nearB, e, hlo]⟩
      refine lcm_all (p := fun t => rowB t n) (szle (by omega)) rfl (fun x hx => ?_) ?_
      · refine ⟨_, rfl, ?_⟩
        simp [R (j.tup hx)]
      · simp [nearB, e, hlo]
theorem ok_are_names {F : FF} (N : IsB F.is_name 0 nameB) : NamesE (defRun 4 (b_are_names F)) := by
  intro v a b h j hb
  have hsz := sz
  apply eq_of_wp
  cases hv : isTup v with
  | false =>
    simp [b_are_names, b_are_names_1, j_tup j.jd, hv]
    cases v <;> first | rfl | cases hv
  | true =>
    obtain ⟨ts, rfl⟩ := of_isTup hv
    have hl : ts.length ≤ 1000 := j.jd
    simp [b_are_names, b_are_names_1, b_are_names_2]
    refine ⟨fun h1 => ⟨fun h2 => ?_, fun h2 => ?_⟩, fun h1 => ?_⟩
    · simp [namesB, show ¬ ((ts.length : Int) ≤ b) by omega]
    · refine lcm_all (p := nameB) (szle (by omega)) rfl (fun x hx => ⟨_, rfl, by simp [N (j.tup hx)]⟩) ?_
      cases ha : ts.all nameB with
      | false => simp [namesB, ha]
      | true =>
        have e := names_strs ha
        obtain ⟨n, e1, e2⟩ := lenSet_strs (ss := ts.map strOf) (h := h) (by simp; omega)
        rw [← e] at e1
        simp [oLenSet, e1]
        simp [namesB, ha, h1, h2]
        rw [List.length_map] at e2
        simpa using e2
    · simp [namesB, show ¬ (a ≤ (ts.length : Int)) by omega]
theorem ok_is_pair {F : FF} (N : IsB F.is_name 0 nameB) : IsB (defRun 1 (b_is_pair F)) 1 pairB := by
  intro v h j
  apply eq_of_wp
  cases hv : isTup v with
  | false =>
    simp [b_is_pair, b_is_pair_1, j_tup j.jd, hv]
    cases v <;> first | rfl | cases hv
  | true =>
    obtain ⟨ts, rfl⟩ := of_isTup hv
    simp [b_is_pair, b_is_pair_1, b_is_pair_2]
    match ts, j with
    | [], _ => simp [pairB]
    | [a], _ => simp [pairB]
    | [a, b], j =>
      have ja := j.tup (t := a) (by simp)
      have jb := j.tup (t := b) (by simp)
      simp [N ja, j_tup jb.jd]
      cases hb : isTup b with
      | false => cases b <;> first | (simp [pairB]; done) | exact absurd hb (by simp [isTup])
      | true =>
        obtain ⟨us, rfl⟩ := of_isTup hb
        simp [pairB]
        cases nameB a <;> simp
        omega
    | a :: b :: c :: r, _ => simp [pairB, show ¬ ((r.length : Int) + 1 + 1 + 1 = 2) by omega]
theorem ok_are_fields {F : FF} (P : IsB F.is_pair 1 pairB) : FieldsE (defRun 2 (b_are_fields F)) := by
  intro v h j
  have hsz := sz
  apply eq_of_wp
  cases hv : isTup v with
  | false =>
    simp [b_are_fields, b_are_fields_1, j_tup j.jd, hv]
    cases v <;> first | rfl | cases hv
  | true =>
    obtain ⟨ts, rfl⟩ := of_isTup hv
    have hl : ts.length ≤ 1000 := j.jd
    simp [b_are_fields, b_are_fields_1, b_are_fields_2]
    refine ⟨fun h1 => ⟨fun h2 => ?_, fun h2 => ?_⟩, fun h1 => ?_⟩
    · simp [fieldsB, show ¬ (ts.length ≤ 3) by omega]
    · refine lcm_all (p := pairB) (szle (by omega)) rfl (fun x hx => ⟨_, rfl, by simp [P (j.tup hx)]⟩) ?_
      cases ha : ts.all pairB with
      | false => simp [fieldsB, ha, b_are_fields_3]
      | true =>
        simp [b_are_fields_4]
        have ep : ∀ x ∈ ts, ∃ s b, x = .tup [.str s, b] := fun x hx => by
          have := List.all_eq_true.mp ha x hx
          unfold pairB at this
          split at this
          · rename_i a b
            cases a with
            | str s => exact ⟨s, _, rfl⟩
            | _ => simp [nameB] at this
          · cases this
        refine wp_lcm fstOf (szle (by omega)) rfl (fun x hx => ?_) ?_
        · obtain ⟨s, b, rfl⟩ := ep x hx
          exact ⟨_, rfl, by simp [fstOf]⟩
        · have e : ts.map fstOf = tSs (ts.map fun t => strOf (fstOf t)) := by
            show _ = List.map T.str _
            rw [List.map_map]
            apply List.map_congr_left
            intro x hx
            obtain ⟨s, b, rfl⟩ := ep x hx
            rfl
          obtain ⟨n, e1, e2⟩ := lenSet_strs (ss := ts.map fun t => strOf (fstOf t)) (h := h) (by simp; omega)
          rw [e]
          show (bLenSet _ h).wp _ _
          rw [e1]
          simp [fieldsB, ha, show 1 ≤ ts.length by omega, show ts.length ≤ 3 by omega]
          rw [List.length_map] at e2
          simpa using e2
    · simp [fieldsB, show ¬ (1 ≤ ts.length) by omega]
theorem ok_check_fieldE {F : FF} (O : OneE F.is_one_of) (Ne : NearE F.is_near) (R : RowE F.is_row) : CheckE (defRun 8 (b_check_field F)) := by
  intro nm a b c d ws ns r h j hw hr
  have hsz := sz
  have ja := (j.tup (t := a) (by simp)).jd
  have jb := (j.tup (t := b) (by simp)).jd
  have jc := j.tup (t := c) (by simp)
  have jd := (j.tup (t := d) (by simp)).down
  have e1 := O.1 (ss := ws) ja
  have e2 := O.2 jb hr
  have e3 := Ne (looks := b) (n := ws.length) jc
  have e4 := R (n := ws.length) jd
  unfold fieldErr
  by_cases h1 : oneB a ws = false
  · rw [if_pos h1]
    refine exc_of_wp ?_
    simp [b_check_field, b_check_field_1, b_check_field_2, e1, h1, xForm]
  rw [if_neg h1]
  have h1' : oneB a ws = true := by simpa using h1
  by_cases h2 : isNonT b = false ∧ (oneB b ns = false ∨ eqS b nm = true)
  · rw [if_pos h2]
    refine exc_of_wp ?_
    obtain ⟨hb, h2⟩ := h2
    by_cases h3 : oneB b ns = true
    · obtain ⟨g, rfl, hg⟩ := oneB_str h3
      have h4 : g = nm := by rcases h2 with z | z; rw [h3] at z; cases z; simpa [eqS] using z
      subst h4
      simp [b_check_field, b_check_field_1, b_check_field_3, b_check_field_4, e1, h1', e2, h3, xForm, hb]
    · have h3' : oneB b ns = false := by simpa using h3
      simp [b_check_field, b_check_field_1, b_check_field_3, b_check_field_4, e1, h1', e2, h3', xForm, hb]
  rw [if_neg h2]
  have go : ∀ {Q : FQ} {σ : St3}, σ = [some (.str nm), some (.tup [a, b, c, d]), some (.tup (tSs ws)), some (.ref r), some a, some b, some c, some d] → (b_check_field_5 F σ h).wp Q → (b_check_field_3 F σ h).wp Q := by
    intro Q σ e w
    subst e
    cases hb : isNonT b with
    | true => simp [b_check_field_3, hb]; exact w
    | false =>
      have h3 : oneB b ns = true := by
        by_cases z : oneB b ns = true
        · exact z
        · exact absurd ⟨hb, .inl (by simpa using z)⟩ h2
      obtain ⟨g, rfl, hg⟩ := oneB_str h3
      have h4 : ¬ g = nm := fun z => h2 ⟨hb, .inr (by simp [eqS, z])⟩
      simp [b_check_field_3, hb, e2, h3, h4]
      exact w
  by_cases h5 : nearB c b ws.length = false
  · rw [if_pos h5]
    refine exc_of_wp ?_
    simp [b_check_field, b_check_field_1, e1, h1']
    refine go rfl ?_
    simp [b_check_field_5, b_check_field_6, e3, h5, xForm]
  rw [if_neg h5]
  have h5' : nearB c b ws.length = true := by simpa using h5
  by_cases h6 : isNonT d = false ∧ rowB d ws.length = false
  · rw [if_pos h6]
    refine exc_of_wp ?_
    simp [b_check_field, b_check_field_1, e1, h1']
    refine go rfl ?_
    simp [b_check_field_5, b_check_field_7, b_check_field_8, e3, h5', e4, h6.1, h6.2, xForm]
  rw [if_neg h6]
  refine eq_of_wp ?_
  simp [b_check_field, b_check_field_1, e1, h1']
  refine go rfl ?_
  cases hd : isNonT d with
  | true => simp [b_check_field_5, b_check_field_7, e3, h5', hd]
  | false =>
    have : rowB d ws.length = true := by
      by_cases z : rowB d ws.length = true
      · exact z
      · exact absurd ⟨hd, by simpa using z⟩ h6
    simp [b_check_field_5, b_check_field_7, e3, h5', hd, e4, this]
theorem cs_form : CS.lookup ("Form" : Str) = some (["words", "fields", "room"] : List Str) := by decide +kernel
theorem f_words {h : Hh} {l : Nat} {fm : Fm} (e : FormAt h l fm) : oFldC CS "words" (.ref l) h = .ok fm.tW h := fld_of e.ins cs_form (by decide +kernel) rfl
theorem f_fields {h : Hh} {l : Nat} {fm : Fm} (e : FormAt h l fm) : oFldC CS "fields" (.ref l) h = .ok fm.tF h := fld_of e.ins cs_form (by decide +kernel) rfl
theorem f_room {h : Hh} {l : Nat} {fm : Fm} (e : FormAt h l fm) : oFldC CS "room" (.ref l) h = .ok (.int fm.room) h := fld_of e.ins cs_form (by decide +kernel) rfl
theorem ok_Form_initE {F : FF} (Na : NamesE F.are_names) (Fi : FieldsE F.are_fields) (C : CheckE F.check_field) (I : IsB F.is_integer 0 integerB) : InitE (defRun 8 (b_Form_init F)) := by
  intro W V R l h Q E jw jv jr hl hq he
  have hsz := sz
  have hlt : l < h.length := (List.getElem?_eq_some_iff.mp hl).1
  have ew := Na (a := 2) (b := 3) jw (by omega)
  have ef := Fi (h := h) (v := V) (jv.to (n := 2) (k := 3))
  unfold initErr at hq he
  by_cases h1 : namesB W 2 3 = false
  · simp only [h1, if_true] at hq he
    have := he _ _ rfl []
    rw [List.append_nil] at this
    simp [b_Form_init, b_Form_init_1, ew, h1]
    exact this
  have h1' : namesB W 2 3 = true := by simpa using h1
  rw [if_neg h1] at hq he
  by_cases h2 : fieldsB V = false
  · simp only [h2, if_true] at hq he
    have := he _ _ rfl []
    rw [List.append_nil] at this
    simp [b_Form_init, b_Form_init_2, b_Form_init_3, ew, h1', ef, h2]
    exact this
  have h2' : fieldsB V = true := by simpa using h2
  rw [if_neg h2] at hq he
  obtain ⟨ws, rfl, wn, w2, w3⟩ := namesB_mem h1'
  obtain ⟨ts, rfl, t3, hts⟩ := fieldsB_mem h2'
  simp only [itsOf, strOf_tSs] at hq he
  simp [b_Form_init, b_Form_init_2, b_Form_init_4, ew, h1', ef, h2']
  have en : ts.map fstOf = tSs (ts.map fun t => strOf (fstOf t)) := by
    show _ = List.map T.str _
    rw [List.map_map]
    apply List.map_congr_left
    intro x hx
    obtain ⟨s, a, b, c, d, rfl, _⟩ := hts x hx
    rfl
  refine wp_lcm (ts := ts) fstOf (szle (by omega)) rfl (fun x hx => ?_) ?_
  · obtain ⟨s, a, b, c, d, rfl, _⟩ := hts x hx
    exact ⟨_, rfl, by simp [fstOf]⟩
  rw [en]
  generalize hns : (ts.map fun t => strOf (fstOf t)) = ns at hq he
  simp [b_Form_init_5]
  have rest : ∀ σ : St3, σ[0]? = some (some (.ref l)) → σ[1]? = some (some (.tup (tSs ws))) → σ[2]? = some (some (.tup ts)) → σ[3]? = some (some R) → fErr ws ns ts = none → (b_Form_init_7 F σ (h ++ [.lst (tSs ns)])).wp (FQ.df Q E) := by
    intro σ h0 h1 h2 h3 hf
    rw [hf] at hq he
    have jr' : JdN 0 R (h ++ [.lst (tSs ns)]) := JdN.ext (ext_app _ _) jr
    have bad : roomB R = false → E "InvalidForm" (xForm "room" (.str "")) (h ++ [.lst (tSs ns)]) := fun z => he "room" "" (by simp [z]) _
    have good : roomB R = true → ∀ i, R = .int i → (b_Form_init_9 F σ (h ++ [.lst (tSs ns)])).wp (FQ.df Q E) := fun z i hi => by
      subst hi
      have e0 : insAt (h ++ [.lst (tSs ns)]) l = some (("Form" : Str), []) := insAt_of (by rw [List.getElem?_append_left hlt]; exact hl)
      simp [b_Form_init_9, h0, h1]
      rw [sfld_of (f := "words") e0 cs_form (by decide +kernel) (by simp)]
      simp [b_Form_init_10, h0, h2]
      have hlt1 : l < (h ++ [Ob.lst (tSs ns)]).length := by simp; omega
      rw [sfld_of (f := "fields") (insAt_of (List.getElem?_set_self hlt1)) cs_form (by decide +kernel) (by simp [putT])]
      simp [b_Form_init_11, h0, h3]
      rw [sfld_of (f := "room") (insAt_of (List.getElem?_set_self hlt1)) cs_form (by decide +kernel) (by simp [putT]; split <;> simp)]
      simp
      refine hq (by simp [z]) _ (List.getElem?_set_self hlt1) (by simp) fun k hk hne => ?_
      rw [List.getElem?_set_ne (Ne.symm hne), List.getElem?_append_left hk]
    cases hi : integerB R with
    | false =>
      have : roomB R = false := by cases R <;> first | rfl | (simp [integerB] at hi)
      simp [b_Form_init_7, h3, I jr', hi, b_Form_init_8]
      exact bad this
    | true =>
      cases R with
      | int i =>
        simp [b_Form_init_7, h3, I jr', hi]
        refine ⟨fun q1 => ⟨fun q2 => ?_, fun q2 => ?_⟩, fun q1 => ?_⟩
        all_goals first
          | (simp [b_Form_init_8]; exact bad (by simp [roomB]; omega))
          | exact good (by simp [roomB]; omega) i rfl
      | _ => simp [integerB] at hi
  have jv' : JdN 5 (.tup ts) (h ++ [.lst (tSs ns)]) := JdN.ext (ext_app _ _) jv
  refine wp_for (ts := ts) (fun i σ h1 => (∃ a5 a6 a7, σ = [some (.ref l), some (.tup (tSs ws)), some (.tup ts), some R, some (.ref h.length), a5, a6, a7]) ∧ h1 = h ++ [.lst (tSs ns)] ∧ fErr ws ns ts = fErr ws ns (ts.drop i))
    (fun i σ h1 q => rfl) ⟨⟨_, _, _, rfl⟩, rfl, rfl⟩ (fun i x σ h1 ex q => ?_) (fun σ h1 q => ?_)
  · obtain ⟨⟨a5, a6, a7, rfl⟩, rfl, hf⟩ := q
    have hx := List.mem_of_getElem? ex
    obtain ⟨s, a, b, c, d, rfl, ns'⟩ := hts x hx
    refine ⟨_, by simp; rfl, ?_⟩
    have hi : i < ts.length := (List.getElem?_eq_some_iff.mp ex).1
    have jx : JdN 3 (.tup [a, b, c, d]) (h ++ [.lst (tSs ns)]) := (jv'.tup hx).tup (by simp)
    have hc := C (nm := s) (ws := ws) (ns := ns) (r := h.length) jx (by omega) (by simp)
    have ed : ts.drop i = .tup [.str s, .tup [a, b, c, d]] :: ts.drop (i + 1) := by
      rw [List.drop_eq_getElem_cons hi]
      rw [show ts[i] = _ from (List.getElem?_eq_some_iff.mp ex).2]
    rw [ed] at hf
    rw [fErr_cons] at hf
    cases hz : fieldErr ws ns s a b c d with
    | none =>
      rw [hz] at hf hc
      simp [b_Form_init_6, hc]
      exact hf
    | some p =>
      rw [hz] at hf hc
      simp [b_Form_init_6, hc]
      exact he p s (by rw [hf]) _
  · obtain ⟨⟨a5, a6, a7, rfl⟩, rfl, hf⟩ := q
    rw [List.drop_length] at hf
    exact rest _ rfl rfl rfl rfl hf
end LW
end

section
namespace LW
open PySem W3
theorem ok_parts_of (F : FF) : PartsOfE (defRun 4 (b_Form_parts_of F)) := by
  intro fm l v h fa o j
  have hsz := sz
  have w : (defRun 4 (b_Form_parts_of F) [.ref l, v] h).wp (fun t h' => ∃ p, fdAt fm v = some p ∧ t = p.2.t ∧ h' = h) (fun c fs h' => fdAt fm v = none ∧ c = "UnknownField" ∧ fs = [(("field" : Str), v)] ∧ h' = h) := by
    simp [b_Form_parts_of, f_fields fa, Fm.tF]
    refine wp_for (ts := fm.fields.map tPair) (fun i σ h1 => (∃ a2 a3, σ = [some (.ref l), some v, a2, a3]) ∧ h1 = h ∧ ∀ s, v = .str s → ∀ p ∈ fm.fields.take i, ¬ p.1 = s)
      (fun i σ h1 q => rfl) ⟨⟨_, _, rfl⟩, rfl, by simp⟩ (fun i x σ h1 ex q => ?_) (fun σ h1 q => ?_)
    · obtain ⟨⟨a2, a3, rfl⟩, rfl, hn⟩ := q
      rw [List.getElem?_map] at ex
      cases hx : fm.fields[i]? with
      | none => rw [hx] at ex; cases ex
      | some p =>
        rw [hx] at ex; cases ex
        refine ⟨_, by simp [tPair]; rfl, ?_⟩
        cases hv : isStr v with
        | false =>
          simp [b_Form_parts_of_1, j_str j, hv]
          intro s e; subst e; cases hv
        | true =>
          obtain ⟨s, rfl⟩ := of_isStr hv
          simp [b_Form_parts_of_1, b_Form_parts_of_2]
          have hi := (List.getElem?_eq_some_iff.mp hx).1
          refine ⟨fun e => ?_, fun e => ?_⟩
          · refine ⟨p.1, p.2, ?_, rfl⟩
            unfold fdAt
            simp only []
            rw [List.find?_eq_some_iff_append]
            refine ⟨by simp [e], fm.fields.take i, fm.fields.drop (i + 1), ?_, fun q hq => by simpa using hn s rfl q hq⟩
            have := List.take_append_drop i fm.fields
            rw [List.drop_eq_getElem_cons hi, show fm.fields[i] = p from (List.getElem?_eq_some_iff.mp hx).2] at this
            exact this.symm
          · intro a b hp
            rw [List.take_add_one, hx] at hp
            rcases List.mem_append.mp hp with z | z
            · exact hn s rfl _ z
            · simp at z; obtain rfl : a = p.1 := by rw [← z]
              exact e
    · obtain ⟨⟨a2, a3, rfl⟩, rfl, hn⟩ := q
      simp [b_Form_parts_of_3]
      unfold fdAt
      cases v with
      | str s =>
        simp only [List.find?_eq_none]
        intro p hp
        rw [List.length_map, List.take_length] at hn
        simpa using hn s rfl p hp
      | _ => rfl
  cases e : defRun 4 (b_Form_parts_of F) [.ref l, v] h with
  | ok t h' =>
    rw [e] at w
    obtain ⟨p, q1, rfl, rfl⟩ := w
    rw [q1]
  | exc c fs h' =>
    rw [e] at w
    obtain ⟨q1, rfl, rfl, rfl⟩ := w
    rw [q1]
  | stk => rw [e] at w; exact w.elim
theorem ok_field_names (F : FF) : FNamesE (defRun 2 (b_Form_field_names F)) := by
  intro fm l h e hl
  have hsz := sz
  apply eq_of_wp
  simp [b_Form_field_names, f_fields e, Fm.tF]
  refine wp_lcm (ts := fm.fields.map tPair) fstOf (szle (by rw [List.length_map]; omega)) rfl (fun x hx => ?_) ?_
  · obtain ⟨p, hp, rfl⟩ := List.mem_map.mp hx
    exact ⟨_, rfl, by simp [tPair, fstOf]⟩
  · simp [Fm.names]
    intro a b hp
    rfl
theorem ok_same0 (F : FF) : SameW 0 (defRun 3 (b__law_same F)) := by
  intro t u h ⟨e, hf⟩
  subst e
  apply eq_of_wp
  cases t <;> simp [flatT] at hf <;> simp [b__law_same, b__law_same_6, b__law_same_7, b__law_same_8, b__law_same_9, b__law_same_10, b__law_same_11, b__law_same_12]
theorem ok_same {F : FF} {n : Nat} (ih : SameW n F._law_same) : SameW (n + 1) (defRun 3 (b__law_same F)) := by
  intro t u h q
  rcases q with ⟨e, hf⟩ | ⟨ts, us, hk, hl, hz, hs⟩
  · exact ok_same0 F (h := h) ⟨e, hf⟩
  · have hsz := sz
    have key : (lcRun (.its (rangeT 0 (us.length : Int).toNat)) (sgName 2) stYes (sCl (arN 2 F._law_same) (saCons (s2 oIx (sVar 0) (sVar 2)) (saCons (s2 oIx (sVar 1) (sVar 2)) saNil))) [some t, some u, none] ((Src.its (rangeT 0 (us.length : Int).toNat)).len h) 0 [] h) = .ok ((rangeT 0 us.length).map fun _ => .bl true) h := by
      rw [show ((us.length : Int)).toNat = us.length by omega]
      refine lc_map (fun _ => .bl true) (szle (by simp; omega)) rfl fun x hx => ?_
      obtain ⟨i, ex⟩ := List.getElem?_of_mem hx
      obtain ⟨rfl, hi⟩ := range_at ex
      have e1 : us[i]? = some us[i] := by simp [hi]
      have e2 : ts[i]? = some ts[i] := by simp [show i < ts.length by omega]
      have a1 := atI_nat e1
      have a2 := atI_nat e2
      have st := ih (hs i _ _ e2 e1)
      refine ⟨_, rfl, ?_⟩
      rcases hk with ⟨rfl, rfl⟩ | ⟨k1, k2⟩
      · simp [a1, a2, st]
      · simp [k1.ix, k2.ix, a1, a2, st]
    apply eq_of_wp
    rcases hk with ⟨rfl, rfl⟩ | ⟨k1, k2⟩
    · simp [b__law_same, b__law_same_1, b__law_same_3, b__law_same_5, hl]
      rw [e_rng (by omega) (by omega)]
      simp
      simp at key
      rw [key]
      simp
    · simp [b__law_same, b__law_same_1, b__law_same_3, b__law_same_5, k1.isK, k2.isK, k1.len, k2.len, hl]
      rw [e_rng (by omega) (by omega)]
      simp
      simp at key
      rw [key]
      simp
end LW
end

section
namespace LW
open PySem W3
theorem ok_readers {F : FF} (Po : PartsOfE F.Form_parts_of) : ReadersE (defRun 3 (b_Form_readers F)) := by
  intro fm l q h fa o hp
  have hsz := sz
  have f3 := o.f3
  have po := Po fa o (show Jd (.str q.1) h from (o.fn.nm _ (mem_names hp)).short)
  rw [fdAt_some o hp] at po
  apply eq_of_wp
  simp [b_Form_readers, fa.m (m := "parts_of") rfl, po, b_Form_readers_1, f_fields fa, Fm.tF]
  refine wp_lcf (ts := fm.fields.map tPair) (lookP q.1) fstOf (szle (by rw [List.length_map]; omega)) rfl (fun t ht => ?_) ?_
  · obtain ⟨u, hu, rfl⟩ := List.mem_map.mp ht
    refine ⟨_, rfl, ?_, by simp [tPair, fstOf]⟩
    rw [lookP_pair]
    simp [tPair, Fd.t, Fd.ts, eq_looks]
  · rw [reads_list]
    simp
theorem ok_form_eq {F : FF} : FEqE (defRun 2 (b_Form___eq__ F)) := by
  intro h l l' fm fm' fa fb
  have hsz := sz
  obtain ⟨b, eb, hb⟩ := pl_oEq (pl_parT fm) (pl_parT fm') (by omega) h
  refine ⟨b, ?_, hb⟩
  apply eq_of_wp
  have e1 := insAt_of fb
  unfold parT at eb
  rw [show T.tup (fm.fields.map tPair) = fm.tF from rfl, show T.tup (fm'.fields.map tPair) = fm'.tF from rfl] at eb
  simp [b_Form___eq__, isO_of e1, b_Form___eq___2, f_words fa, f_fields fa, f_room fa, f_words fb, f_fields fb, f_room fb, show 3 ≤ sizeLine by omega, eb]
def TellsE (f : Fn) : Prop := ∀ {h : Hh} {l : Nat} {fm : Fm}, FormAt h l fm → FmOk fm → f [.ref l, parT fm] h = .ok (.bl true) h
theorem ok_tells {F : FF} (Sa : SameW 7 F._law_same) (Fn : FNamesE F.Form_field_names) (Pa : PartsOfE F.Form_parts_of) (Rd : ReadersE F.Form_readers) : TellsE (defRun 7 (b__law_tells F)) := by
  intro h l fm fa o
  have hsz := sz
  have f3 := o.f3
  have w3 := o.w3
  apply eq_of_wp
  simp [b__law_tells, parT, srcOf]
  refine wp_lcm (s := .its (fm.fields.map tPair)) (ts := fm.fields.map tPair) fstOf (szle (by rw [List.length_map]; omega)) rfl (fun x hx => ?_) ?_
  · obtain ⟨p, hp, rfl⟩ := List.mem_map.mp hx
    exact ⟨_, rfl, by simp [tPair, fstOf]⟩
  rw [names_list]
  have sm : SameV h 7 (.tup [fm.tW, fm.tF, .int fm.room, .tup (tSs fm.names)]) (.tup [fm.tW, fm.tF, .int fm.room, .tup (tSs fm.names)]) := by
    have pt : PureT 7 (.tup [fm.tW, fm.tF, .int fm.room, .tup (tSs fm.names)]) := by
      refine PureT.tup (n := 6) (by simp) fun x hx => ?_
      simp at hx
      rcases hx with rfl | rfl | rfl | rfl
      · exact (pure_strs (fun t ht => by obtain ⟨s, _, rfl⟩ := List.mem_map.mp ht; rfl) (by simp; omega) : PureT (0 + 1) fm.tW).add 5
      · exact (pure_tF o).add 1
      · exact .inl rfl
      · exact (pure_strs (fun t ht => by obtain ⟨s, _, rfl⟩ := List.mem_map.mp ht; rfl) (by simp [Fm.names]; omega) : PureT (0 + 1) (.tup (tSs fm.names))).add 5
    exact pt.same
  have sm := Sa sm
  rw [show fm.tF = .tup (fm.fields.map tPair) from rfl] at sm
  simp [b__law_tells_1, f_words fa, f_fields fa, f_room fa, Fm.tF, fa.m (m := "field_names") rfl, Fn fa (by omega), show 4 ≤ sizeLine by omega, show 1 ≤ sizeLine by omega, sm, b__law_tells_3, srcOf]
  refine wp_for (s := .its (fm.fields.map tPair)) (ts := fm.fields.map tPair) (fun i σ h' => h' = h ∧ ∃ a3 a4 a5 a6 : Option T, σ = [some (.ref l), some (.tup [fm.tW, .tup (fm.fields.map tPair), .int fm.room]), some (.tup (tSs fm.names)), a3, a4, a5, a6])
    (fun i σ h' q => rfl) ⟨rfl, none, none, none, none, rfl⟩ (fun i x σ h' hx q => ?_) (fun σ h' q => ?_)
  · obtain ⟨rfl, a3, a4, a5, a6, rfl⟩ := q
    obtain ⟨q, hq, rfl⟩ := List.mem_map.mp (List.mem_of_getElem? hx)
    refine ⟨_, by simp [tPair]; rfl, ?_⟩
    have jd : Jd (.str q.1) h' := (o.fn.nm _ (mem_names hq)).short
    simp [b__law_tells_4, srcOf]
    refine wp_lcf (s := .its (fm.fields.map tPair)) (ts := fm.fields.map tPair) (lookP q.1) fstOf (szle (by rw [List.length_map]; omega)) rfl (fun t ht => ?_) ?_
    · obtain ⟨u, hu, rfl⟩ := List.mem_map.mp ht
      refine ⟨_, rfl, ?_, by simp [tPair, fstOf]⟩
      rw [lookP_pair]
      simp [tPair, Fd.t, Fd.ts, eq_looks]
    rw [reads_list]
    have s1 : SameV h' 7 q.2.t q.2.t := ((pure_fd (o.fs q hq) (by omega)).add 4).same
    have s2 : SameV h' 7 (.tup (tSs ((readsC fm q.1).map Prod.fst))) (.tup (tSs ((readsC fm q.1).map Prod.fst))) := by
      have : (readsC fm q.1).length ≤ 3 := by unfold readsC; exact Nat.le_trans (List.length_filter_le _ _) f3
      exact ((pure_strs (fun t ht => by obtain ⟨s, _, rfl⟩ := List.mem_map.mp ht; rfl) (by simp; omega) : PureT (0 + 1) (.tup (tSs ((readsC fm q.1).map Prod.fst)))).add 6).same
    simp [b__law_tells_5, fa.m (m := "parts_of") rfl, Pa fa o jd, fdAt_some o hq, Sa s1, fa.m (m := "readers") rfl, Rd fa o hq]
    have s2 := Sa s2
    simp at s2
    simp [s2]
  · obtain ⟨rfl, a3, a4, a5, a6, rfl⟩ := q
    simp [b__law_tells_7]
def TurnW (f : Fn) : Prop := ∀ {h : Hh} {n : Nat} {r : List Ent} {Q : T → Hh → Prop} {E : EQ}, RowOk n r → 1 ≤ n → n ≤ 100 → (∀ z, Q (tRow (turnR r)) (h ++ z)) → (f [tRow r] h).wp Q E
theorem ok_turned {F : FF} : TurnW (defRun 2 (b__law_turned F)) := by
  intro h n r Q E ro n1 n2 hq
  have hsz := sz
  have rl := ro.len
  obtain ⟨e, rest, rfl⟩ : ∃ e rest, r = e :: rest := by
    cases r with
    | nil => simp at rl; omega
    | cons e rest => exact ⟨e, rest, rfl⟩
  have c1 : cutT ((e :: rest).map tE) none (some (1 : Int)) = [tE e] := by
    have := cut_to ((e :: rest).map tE) 1
    simpa using this
  have c2 : cutT ((e :: rest).map tE) (some (1 : Int)) none = rest.map tE := by
    have := cut_from ((e :: rest).map tE) 1
    simpa using this
  simp at rl
  simp [tRow] at c1 c2 ⊢
  simp [b__law_turned, c1, c2, srcOf]
  refine wp_lc (s := .its [tE e]) (ts := [tE e]) (szle (by simp)) (fun i acc h' => (i = 0 → acc = [] ∧ h' = h) ∧ (i = 1 → acc = [tE (if e = some "x" then none else some "x")] ∧ ∃ z, h' = h ++ z)) (fun i acc h' q => rfl) ⟨fun _ => ⟨rfl, rfl⟩, fun q => by omega⟩ (fun i x acc h' hx q => ?_) (fun acc h' q => ?_)
  · have i0 : i = 0 := by have := (List.getElem?_eq_some_iff.mp hx).1; simp at this; omega
    subst i0
    obtain ⟨rfl, rfl⟩ := q.1 rfl
    have hx : x = tE e := by simpa using hx.symm
    subst hx
    refine ⟨_, rfl, ?_⟩
    cases e with
    | none =>
      simp [show 2 ≤ sizeLine by omega, e_eq_ns, bIntB]
    | some s =>
      by_cases hs : s = "x"
      · simp [show 2 ≤ sizeLine by omega, hs, bIntB]
      · simp [show 2 ≤ sizeLine by omega, hs, bIntB]
  · obtain ⟨rfl, z, rfl⟩ := q.2 rfl
    simp [show 1 + rest.length ≤ sizeLine by omega]
    have := hq z
    unfold tRow turnR at this
    simpa using this
end LW
end

section
namespace LW
open PySem W3
def OthersW (f : Fn) : Prop := ∀ {h : Hh} {lb : Nat} {fm : Fm} {Q : T → Hh → Prop} {E : EQ}, IsBox h lb → FmOk fm → (∀ (fs : List Fm) (r : Nat) (h' : Hh), Up lb h h' → r ≠ lb → lstAt h' r = some (fs.map parT) → (∀ g ∈ fs, FmOk g ∧ parT g ≠ parT fm) → fs.length ≤ 12 → Q (.ref r) h') → (f [.ref lb, parT fm] h).wp Q E
def UnF (fm : Fm) (p : Str × Fd) (fd : Fd) : Prop := FdOk fm.words fm.names p.1 fd ∧ fd.t ≠ p.2.t
theorem fd_ne {a b : Fd} (h : a.ts ≠ b.ts) : a.t ≠ b.t := fun e => h (by unfold Fd.t at e; injection e)
structure J01 (fm : Fm) (p : Str × Fd) (h1 : Hh) (r1 r2 : Nat) (R : Fm) (h' : Hh) (cs : List Fd) : Prop where
  fz : Fz h1.length h1 h'
  e1 : lstAt h' r1 = some ([R].map parT)
  e2 : lstAt h' r2 = some (cs.map Fd.t)
  un : ∀ c ∈ cs, UnF fm p c
  l : cs.length ≤ 100
theorem J01.app {fm : Fm} {p : Str × Fd} {h1 : Hh} {r1 r2 : Nat} {R : Fm} {h' : Hh} {cs : List Fd} (j : J01 fm p h1 r1 r2 R h' cs) (z : Hh) : J01 fm p h1 r1 r2 R (h' ++ z) cs :=
  ⟨j.fz.trans (Fz.app j.fz.1 z), lstAt_app z j.e1, lstAt_app z j.e2, j.un, j.l⟩
theorem J01.add {fm : Fm} {p : Str × Fd} {h1 : Hh} {r1 r2 : Nat} {R : Fm} {h' : Hh} {cs : List Fd} (j : J01 fm p h1 r1 r2 R h' cs) (h12 : r1 ≠ r2) (h2 : h1.length ≤ r2) {c : Fd} (u : UnF fm p c) (hl : cs.length < 100 := by first | omega | (simp; done) | (simp; omega)) : J01 fm p h1 r1 r2 R (h'.set r2 (.lst (cs.map Fd.t ++ [c.t]))) (cs ++ [c]) :=
  ⟨j.fz.trans (Fz.set h2 _), by rw [lstAt_set_ne (Ne.symm h12)]; exact j.e1, by rw [lstAt_set_self (lstAt_lt j.e2)]; simp, fun x hx => by
    rcases List.mem_append.mp hx with hx | hx
    · exact j.un x hx
    · rw [List.mem_singleton] at hx; subst hx; exact u, by simp; omega⟩
theorem rep01 (t : T) {n : Nat} (h : 1 ≤ n) (h3 : n ≤ 3) (hp : Hh) : oMulT (.tup [t]) (.int (n : Int)) hp = .ok (.tup (List.replicate n t)) hp := by
  unfold oMulT
  simp only []
  rw [if_pos ⟨by simp, by omega, by omega, by simp⟩]
  rw [show ((n : Int)).toNat = n by omega]
  have : (List.replicate n [t]).flatten = List.replicate n t := by
    clear h h3
    induction n with
    | zero => rfl
    | succ n ih => rw [List.replicate_succ, List.flatten_cons, ih, List.replicate_succ]; rfl
  rw [this]
theorem ok_others {F : FF} (Dr : DrawW F._law_draw) (Tu : TurnW F._law_turned) : OthersW (defRun 16 (b__law_others F)) := by
  intro h lb fm Q E hb o hq
  have hsz := sz
  have w2 := o.w2; have w3 := o.w3; have f1 := o.f1; have f3 := o.f3
  have hbl := hb.lt
  simp [b__law_others, parT, Fm.tW, b__law_others_1]
  refine Dr hb (by omega) (by omega) fun d h1 d0 d1 u1 => ?_
  obtain ⟨p, ep, hp⟩ := atI_map tPair (xs := fm.fields) d0 (by omega)
  obtain ⟨i, ei, hi⟩ : ∃ i : Nat, d = i ∧ fm.fields[i]? = some p := by
    obtain ⟨y, e1, e2⟩ := atI_int (xs := fm.fields.map tPair) d0 (by simpa using d1)
    rw [ep] at e1
    cases e1
    refine ⟨d.toNat, by omega, ?_⟩
    rw [List.getElem?_map] at e2
    cases hx : fm.fields[d.toNat]? with
    | none => rw [hx] at e2; cases e2
    | some q =>
      rw [hx] at e2
      have e2 : tPair q = tPair p := by injection e2
      have hq2 : q ∈ fm.fields := List.mem_of_getElem? hx
      have n1 : q.1 = p.1 := by unfold tPair at e2; injection e2 with e2; injection e2 with e2 _; injection e2
      have g1 := fdAt_some o hq2
      have g2 := fdAt_some o hp
      rw [n1, g2] at g1
      cases g1
      rfl
  subst ei
  have il : i < fm.fields.length := (List.getElem?_eq_some_iff.mp hi).1
  have fok := o.fs p hp
  have hb1 := u1.box
  simp [b__law_others_2, ep, tPair, b__law_others_3, Fd.t, Fd.ts]
  obtain ⟨ow, eow, how, hne⟩ : ∃ ow, L2.atI (tSs fm.words) (((fm.words.idxOf p.2.first : Nat) + 1 : Int) % (fm.words.length : Int)) = some (.str ow) ∧ ow ∈ fm.words ∧ ow ≠ p.2.first := by
    have il := List.idxOf_lt_length_iff.mpr fok.first
    obtain ⟨y, e, hy⟩ := atI_int (xs := tSs fm.words) (i := ((fm.words.idxOf p.2.first : Nat) + 1 : Int) % (fm.words.length : Int)) (Int.emod_nonneg _ (by omega)) (by rw [List.length_map]; exact Int.emod_lt_of_pos _ (by omega))
    rw [List.getElem?_map] at hy
    cases hx : fm.words[(((fm.words.idxOf p.2.first : Nat) + 1 : Int) % (fm.words.length : Int)).toNat]? with
    | none => rw [hx] at hy; cases hy
    | some ow =>
      rw [hx] at hy
      cases hy
      refine ⟨ow, e, List.mem_of_getElem? hx, fun z => ?_⟩
      subst z
      have h1 : fm.words[fm.words.idxOf p.2.first]? = some p.2.first := by rw [List.getElem?_eq_getElem il]; simp
      have := (List.getElem?_inj il o.wn.nd).mp (h1.trans hx.symm)
      by_cases hl : fm.words.idxOf p.2.first + 1 = fm.words.length
      · have e2 : (((fm.words.idxOf p.2.first : Nat) + 1 : Int) % (fm.words.length : Int)) = 0 := by
          rw [show ((fm.words.idxOf p.2.first : Nat) + 1 : Int) = (fm.words.length : Int) by omega]
          exact Int.emod_self
        rw [e2] at this
        simp at this
        omega
      · have e2 : (((fm.words.idxOf p.2.first : Nat) + 1 : Int) % (fm.words.length : Int)) = ((fm.words.idxOf p.2.first : Nat) + 1 : Int) := Int.emod_eq_of_lt (by omega) (by omega)
        rw [e2] at this
        omega
  have wne : fm.words ≠ [] := fun e => by rw [e] at w2; simp at w2
  have ixw : ∀ h', mIndex (.tup (tSs fm.words)) [.str p.2.first] h' = .ok (.int (fm.words.idxOf p.2.first : Nat)) h' := fun h' => index_tup fok.first
  simp [b__law_others_4, ixw, wne, show 0 < fm.words.length by omega, eow, b__law_others_5, b__law_others_6, show 3 ≤ sizeLine by omega, show 1 ≤ sizeLine by omega, show 4 ≤ sizeLine by omega]
  let R : Fm := { fm with room := 1 + fm.room % 3 }
  have r1 := o.r1; have r3 := o.r3
  have okR : FmOk R := { o with r1 := by show 1 ≤ 1 + fm.room % 3; omega, r3 := by show 1 + fm.room % 3 ≤ 3; omega }
  have neR : parT R ≠ parT fm := fun e => by
    have e : 1 + fm.room % 3 = fm.room := parT_room e
    omega
  let C0 : Fd := ⟨ow, p.2.nr, p.2.far⟩
  have unC0 : UnF fm p C0 := ⟨⟨how, fok.nr, fok.far⟩, fd_ne fun e => by
    unfold Fd.ts at e
    injection e with e _
    injection e with e
    exact hne e⟩
  have fo13 : lstAt (h1 ++ [Ob.lst [parT R], Ob.lst [C0.t]]) h1.length = some ([R].map parT) := by simp
  have ch14 : lstAt (h1 ++ [Ob.lst [parT R], Ob.lst [C0.t]]) (h1.length + 1) = some ([C0].map Fd.t) := by simp
  have j0 : J01 fm p h1 h1.length (h1.length + 1) R (h1 ++ [Ob.lst [parT R], Ob.lst [C0.t]]) [C0] := ⟨Fz.app (Nat.le_refl _) _, fo13, ch14, fun c hc => by rw [List.mem_singleton] at hc; subst hc; exact unC0, by simp⟩
  have hlst : (h1 ++ [Ob.lst [T.tup [T.tup (tSs fm.words), T.tup (fm.fields.map tPair), T.int (1 + fm.room % 3)]], Ob.lst [T.tup [T.str ow, p.2.nr.tLooks, p.2.nr.tNear, tFar p.2.far]]]) = h1 ++ [Ob.lst [parT R], Ob.lst [C0.t]] := rfl
  rw [hlst]
  have r12 : h1.length ≠ h1.length + 1 := by omega
  have r1lb : h1.length ≠ lb := by have := u1.le; omega
  have le1 : h1.length ≤ h1.length + 1 := by omega
  clear hlst fo13 ch14
  generalize h1 ++ [Ob.lst [parT R], Ob.lst [C0.t]] = h2 at *
  have le0 : h1.length ≤ h1.length := Nat.le_refl _
  have jj : ∃ r1 r2, r1 = h1.length ∧ r2 = h1.length + 1 := ⟨_, _, rfl, rfl⟩
  obtain ⟨x1, x2, ex1, ex2⟩ := jj
  rw [← ex2, ← ex1] at j0
  rw [← ex2, ← ex1]
  have r12 : x1 ≠ x2 := by omega
  have r1lb : x1 ≠ lb := by omega
  have le1 : h1.length ≤ x1 := by omega
  have le2 : h1.length ≤ x2 := by omega
  have n1 : 1 ≤ fm.words.length := by omega
  have fin : ∀ (h' : Hh) (cs : List Fd), J01 fm p h1 x1 x2 R h' cs → cs.length ≤ 6 →
      (b__law_others_15 F [some (.ref lb), some (.tup [.tup (tSs fm.words), .tup (fm.fields.map tPair), .int fm.room]), some (.tup (tSs fm.words)), some (.tup (fm.fields.map tPair)), some (.int fm.room), some (.int i), some (.str p.1), some (.tup [.str p.2.first, p.2.nr.tLooks, p.2.nr.tNear, tFar p.2.far]), some (.str p.2.first), some p.2.nr.tLooks, some p.2.nr.tNear, some (tFar p.2.far), some (.str ow), some (.ref x1), some (.ref x2), none] h').wp (FQ.df Q E) := by
    intro h' cs j cl
    simp [b__law_others_15, j.e2, srcOf]
    refine wp_for (s := .live x2) (ts := cs.map Fd.t) (fun k σ h' => ∃ a15 : Option T, σ = [some (.ref lb), some (.tup [.tup (tSs fm.words), .tup (fm.fields.map tPair), .int fm.room]), some (.tup (tSs fm.words)), some (.tup (fm.fields.map tPair)), some (.int fm.room), some (.int i), some (.str p.1), some (.tup [.str p.2.first, p.2.nr.tLooks, p.2.nr.tNear, tFar p.2.far]), some (.str p.2.first), some p.2.nr.tLooks, some p.2.nr.tNear, some (tFar p.2.far), some (.str ow), some (.ref x1), some (.ref x2), a15] ∧ Fz h1.length h1 h' ∧ lstAt h' x2 = some (cs.map Fd.t) ∧ lstAt h' x1 = some ((R :: (cs.take k).map fun c => setF fm i (p.1, c)).map parT))
      (fun k σ h' q => by obtain ⟨_, _, _, q, _⟩ := q; exact q) ⟨none, rfl, j.fz, j.e2, by simpa using j.e1⟩ (fun k x σ h' hx q => ?_) (fun σ h' q => ?_)
    · obtain ⟨a15, rfl, fz, e2, e1⟩ := q
      rw [List.getElem?_map] at hx
      cases hc : cs[k]? with
      | none => rw [hc] at hx; cases hx
      | some c =>
      rw [hc] at hx
      cases hx
      refine ⟨_, rfl, ?_⟩
      have k1 : cutT (fm.fields.map tPair) none (some (i : Int)) = (fm.fields.map tPair).take i := cut_to _ i
      have k2 : cutT (fm.fields.map tPair) (some ((i : Int) + 1)) none = (fm.fields.map tPair).drop (i + 1) := cut_from _ (i + 1)
      have k3 : (fm.fields.map tPair).take i ++ T.tup [.str p.1, c.t] :: (fm.fields.map tPair).drop (i + 1) = (setF fm i (p.1, c)).fields.map tPair := by
        show _ = (fm.fields.set i (p.1, c)).map tPair
        rw [List.map_set, List.set_eq_take_append_cons_drop, if_pos (by rw [List.length_map]; exact il)]
        rfl
      have l1 : ((fm.fields.map tPair).take i).length ≤ 3 := by rw [List.length_take, List.length_map]; omega
      have l2 : ((fm.fields.map tPair).drop (i + 1)).length ≤ 3 := by rw [List.length_drop, List.length_map]; omega
      have l3 : (cs.take k).length ≤ 6 := by rw [List.length_take]; omega
      have xl := lstAt_lt e1
      simp only [b__law_others_16]
      simp [k1, k2]
      generalize (fm.fields.map tPair).take i = A at *
      generalize (fm.fields.map tPair).drop (i + 1) = B at *
      simp [isL, e1, show 2 ≤ sizeLine by omega, show 1 ≤ sizeLine by omega, show 3 ≤ sizeLine by omega, show A.length + 1 ≤ sizeLine by omega, show A.length + 1 + B.length ≤ sizeLine by omega, show (cs.take k).length + 1 < sizeLine by omega, show min i fm.fields.length + 1 ≤ sizeLine by omega, show min i fm.fields.length + 1 + (fm.fields.length - (i + 1)) ≤ sizeLine by omega, show min k cs.length + 1 < sizeLine by omega]
      rw [k3]
      refine ⟨fz.trans (Fz.set le1 _), by rw [lstAt_set_ne r12]; exact e2, ?_⟩
      rw [lstAt_set_self xl, List.take_add_one, List.getElem?_map, hc]
      simp [parT, setF, Fm.tW]
    · obtain ⟨a15, rfl, fz, e2, e1⟩ := q
      rw [List.length_map, List.take_length] at e1
      have xl := lstAt_lt e1
      have w1 : cutT (tSs fm.words) (some 1) none = tSs (fm.words.drop 1) := by
        have := cut_from (tSs fm.words) 1
        rw [← List.map_drop] at this
        exact this
      have wz : cutT (tSs fm.words) none (some 1) = tSs (fm.words.take 1) := by
        have := cut_to (tSs fm.words) 1
        rw [← List.map_take] at this
        exact this
      have v1 : cutT (fm.fields.map tPair) (some 1) none = (fm.fields.drop 1).map tPair := by
        have := cut_from (fm.fields.map tPair) 1
        rw [← List.map_drop] at this
        exact this
      have vz : cutT (fm.fields.map tPair) none (some 1) = (fm.fields.take 1).map tPair := by
        have := cut_to (fm.fields.map tPair) 1
        rw [← List.map_take] at this
        exact this
      let W1 : Fm := { fm with words := fm.words.drop 1 ++ fm.words.take 1 }
      let F1 : Fm := { fm with fields := fm.fields.drop 1 ++ fm.fields.take 1 }
      have eW1 : parT W1 = .tup [.tup (tSs (fm.words.drop 1) ++ tSs (fm.words.take 1)), .tup (fm.fields.map tPair), .int fm.room] := by
        show T.tup [T.tup (List.map T.str (fm.words.drop 1 ++ fm.words.take 1)), _, _] = _
        rw [List.map_append]
      have eF1 : parT F1 = .tup [.tup (tSs fm.words), .tup ((fm.fields.drop 1).map tPair ++ (fm.fields.take 1).map tPair), .int fm.room] := by
        show T.tup [_, T.tup ((fm.fields.drop 1 ++ fm.fields.take 1).map tPair), _] = _
        rw [List.map_append]
        rfl
      have L1 : (tSs (fm.words.drop 1)).length ≤ 3 := by rw [List.length_map, List.length_drop]; omega
      have L2 : (tSs (fm.words.take 1)).length ≤ 3 := by rw [List.length_map, List.length_take]; omega
      have L3 : ((fm.fields.drop 1).map tPair).length ≤ 3 := by rw [List.length_map, List.length_drop]; omega
      have L4 : ((fm.fields.take 1).map tPair).length ≤ 3 := by rw [List.length_map, List.length_take]; omega
      have g0 : ∀ g ∈ R :: cs.map (fun c => setF fm i (p.1, c)), FmOk g ∧ parT g ≠ parT fm := fun g hg => by
        rcases List.mem_cons.mp hg with rfl | hg
        · exact ⟨okR, neR⟩
        · obtain ⟨c, hc, rfl⟩ := List.mem_map.mp hg
          exact ⟨setF_ok o hi (j.un c hc).1, setF_ne hi (j.un c hc).2⟩
      have gl : (R :: cs.map (fun c => setF fm i (p.1, c))).length ≤ 7 := by simp; omega
      generalize (R :: cs.map (fun c => setF fm i (p.1, c))) = G at *
      have done : ∀ (G : List Fm) (h' : Hh) a15, Fz h1.length h1 h' → lstAt h' x1 = some (G.map parT) → (∀ g ∈ G, FmOk g ∧ parT g ≠ parT fm) → G.length ≤ 12 → (b__law_others_20 F [some (.ref lb), some (.tup [.tup (tSs fm.words), .tup (fm.fields.map tPair), .int fm.room]), some (.tup (tSs fm.words)), some (.tup (fm.fields.map tPair)), some (.int fm.room), some (.int i), some (.str p.1), some (.tup [.str p.2.first, p.2.nr.tLooks, p.2.nr.tNear, tFar p.2.far]), some (.str p.2.first), some p.2.nr.tLooks, some p.2.nr.tNear, some (tFar p.2.far), some (.str ow), some (.ref x1), some (.ref x2), a15] h').wp (FQ.df Q E) := by
        intro G h' a15 fz e1 g gl
        obtain ⟨z, rfl⟩ := fz.out
        simp [b__law_others_20]
        exact hq G x1 _ (Kp.app u1 z) r1lb e1 g gl
      generalize tSs (fm.words.drop 1) = A at *
      generalize tSs (fm.words.take 1) = B at *
      generalize (fm.fields.drop 1).map tPair = C at *
      generalize (fm.fields.take 1).map tPair = D at *
      simp only [b__law_others_17]
      simp [w1, wz]
      simp [isL, e1, show 3 ≤ sizeLine by omega, show A.length + B.length ≤ sizeLine by omega, show G.length < sizeLine by omega]
      rw [← eW1]
      have e1b : lstAt (h'.set x1 (.lst (G.map parT ++ [parT W1]))) x1 = some ((G ++ [W1]).map parT) := by rw [lstAt_set_self xl]; simp
      have fzb := fz.trans (Fz.set le1 (Ob.lst (G.map parT ++ [parT W1])))
      have g1 : ∀ g ∈ G ++ [W1], FmOk g ∧ parT g ≠ parT fm := fun g hg => by
        rcases List.mem_append.mp hg with hg | hg
        · exact g0 g hg
        · rw [List.mem_singleton] at hg; subst hg; exact ⟨rotW_ok o, rotW_ne o⟩
      have gl1 : (G ++ [W1]).length ≤ 8 := by simp; omega
      generalize h'.set x1 (.lst (G.map parT ++ [parT W1])) = h3 at *
      generalize G ++ [W1] = G1 at *
      have xl3 := lstAt_lt e1b
      simp [b__law_others_18]
      refine ⟨fun hl => ?_, fun _ => done G1 h3 a15 fzb e1b g1 (by omega)⟩
      simp only [b__law_others_19]
      simp [v1, vz]
      simp [isL, e1b, show 3 ≤ sizeLine by omega, show C.length + D.length ≤ sizeLine by omega, show G1.length < sizeLine by omega]
      rw [← eF1]
      refine done (G1 ++ [F1]) _ a15 (fzb.trans (Fz.set le1 _)) (by rw [lstAt_set_self xl3]; simp) (fun g hg => ?_) (by simp; omega)
      rcases List.mem_append.mp hg with hg | hg
      · exact g1 g hg
      · rw [List.mem_singleton] at hg; subst hg; exact ⟨rotF_ok o, rotF_ne o (by omega)⟩
  have eleven : ∀ (h' : Hh) (cs : List Fd), J01 fm p h1 x1 x2 R h' cs → cs.length ≤ 4 →
      (b__law_others_11 F [some (.ref lb), some (.tup [.tup (tSs fm.words), .tup (fm.fields.map tPair), .int fm.room]), some (.tup (tSs fm.words)), some (.tup (fm.fields.map tPair)), some (.int fm.room), some (.int i), some (.str p.1), some (.tup [.str p.2.first, p.2.nr.tLooks, p.2.nr.tNear, tFar p.2.far]), some (.str p.2.first), some p.2.nr.tLooks, some p.2.nr.tNear, some (tFar p.2.far), some (.str ow), some (.ref x1), some (.ref x2), none] h').wp (FQ.df Q E) := by
    intro h' cs j cl
    cases hf : p.2.far with
    | none =>
      rw [hf] at fin
      have un : UnF fm p ⟨p.2.first, p.2.nr, some (List.replicate fm.words.length none)⟩ := ⟨⟨fok.first, fok.nr, fun r e => by cases e; exact ⟨List.length_replicate, fun s hs => by have := List.eq_of_mem_replicate hs; cases this⟩⟩, fd_ne fun e => by
        unfold Fd.ts at e
        rw [hf] at e
        injection e with _ e; injection e with _ e; injection e with _ e; injection e with e _; cases e⟩
      have jn := j.add r12 le2 un
      have er : T.tup (List.replicate fm.words.length .non) = tFar (some (List.replicate fm.words.length none)) := by
        show _ = tRow _
        unfold tRow
        rw [List.map_replicate]
        rfl
      simp [tFar] at fin
      simp [b__law_others_11, tFar, b__law_others_12, isL, j.e2, rep01 _ n1 (by omega), show 4 ≤ sizeLine by omega, show 1 ≤ sizeLine by omega, show cs.length < sizeLine by omega]
      rw [er]
      exact fin _ _ jn (by simp; omega)
    | some row =>
      rw [hf] at fin
      have ro := fok.far row hf
      have rne : row ≠ [] := fun e => by have := ro.len; rw [e] at this; simp at this; omega
      have un1 : UnF fm p ⟨p.2.first, p.2.nr, none⟩ := ⟨⟨fok.first, fok.nr, fun r e => by cases e⟩, fd_ne fun e => by
        unfold Fd.ts at e
        rw [hf] at e
        injection e with _ e; injection e with _ e; injection e with _ e; injection e with e _; cases e⟩
      have un2 : UnF fm p ⟨p.2.first, p.2.nr, some (turnR row)⟩ := ⟨⟨fok.first, fok.nr, fun r e => by cases e; exact turn_ok ro⟩, fd_ne fun e => by
        unfold Fd.ts at e
        rw [hf] at e
        injection e with _ e; injection e with _ e; injection e with _ e; injection e with e _
        exact turn_ne rne (tRow_inj e)⟩
      have j1 := j.add r12 le2 un1
      have e2 := j.e2
      have ln1 : cs.length < sizeLine := by omega
      simp [tFar] at fin
      have nn : isNonT (tRow row) = false := rfl
      simp [b__law_others_11, tFar, nn, b__law_others_13, isL, e2, show 4 ≤ sizeLine by omega, ln1, b__law_others_14]
      have eset : h'.set x2 (Ob.lst (cs.map Fd.t ++ [T.tup [T.str p.2.first, p.2.nr.tLooks, p.2.nr.tNear, T.non]])) = h'.set x2 (Ob.lst (cs.map Fd.t ++ [(⟨p.2.first, p.2.nr, none⟩ : Fd).t])) := rfl
      rw [eset]
      generalize h'.set x2 (Ob.lst (cs.map Fd.t ++ [(⟨p.2.first, p.2.nr, none⟩ : Fd).t])) = g1 at *
      have e3 := j1.e2
      simp [isL, e3]
      refine Tu ro n1 (by omega) fun z => ?_
      have j2 := (j1.app z).add r12 le2 un2
      have e4 := (j1.app z).e2
      simp at e4
      have ll : cs.length + 1 < sizeLine := by omega
      generalize g1 ++ z = g2 at *
      simp [e4, show 4 ≤ sizeLine by omega, ll]
      have := fin _ _ j2 (by simp; omega)
      simpa [Fd.t, Fd.ts, tFar] using this
  cases hn : p.2.nr with
  | alone r =>
    rw [hn] at eleven
    have nr := fok.nr
    rw [hn] at nr
    have ro : RowOk fm.words.length r := nr
    have rne : r ≠ [] := fun e => by have := ro.len; rw [e] at this; simp at this; omega
    have un : UnF fm p ⟨p.2.first, .alone (turnR r), p.2.far⟩ := ⟨⟨fok.first, turn_ok ro, fok.far⟩, fd_ne fun e => by
      unfold Fd.ts at e
      rw [hn] at e
      injection e with _ e; injection e with _ e; injection e with e _
      exact turn_ne rne (tRow_inj e)⟩
    have e2 := j0.e2
    simp [Nr.tLooks, Nr.tNear] at eleven
    simp [Nr.tLooks, Nr.tNear, b__law_others_7, b__law_others_8, isL, e2]
    refine Tu ro n1 (by omega) fun z => ?_
    have j1 := (j0.app z).add r12 le2 un
    have e3 := (j0.app z).e2
    simp at e3
    generalize h2 ++ z = g at *
    simp [e3, show 4 ≤ sizeLine by omega, show 1 < sizeLine by omega]
    have := eleven _ _ j1 (by simp)
    simpa [Fd.t, Fd.ts, Nr.tLooks, Nr.tNear] using this
  | looks gk rs =>
    rw [hn] at eleven
    have nr := fok.nr
    rw [hn] at nr
    obtain ⟨q1, q2, q3, q4⟩ := nr
    obtain ⟨r0, rt, rfl⟩ : ∃ r0 rt, rs = r0 :: rt := by
      cases rs with
      | nil => simp at q3; omega
      | cons a b => exact ⟨a, b, rfl⟩
    have ro := q4 r0 (.head _)
    have rne : r0 ≠ [] := fun e => by have := ro.len; rw [e] at this; simp at this; omega
    have un1 : UnF fm p ⟨p.2.first, .looks gk (turnR r0 :: rt), p.2.far⟩ := ⟨⟨fok.first, ⟨q1, q2, by simpa using q3, fun r hr => by
      rcases List.mem_cons.mp hr with rfl | hr
      · exact turn_ok ro
      · exact q4 r (.tail _ hr)⟩, fok.far⟩, fd_ne fun e => by
      unfold Fd.ts at e
      rw [hn] at e
      injection e with _ e; injection e with _ e; injection e with e _
      injection e with e
      injection e with e _
      exact turn_ne rne (tRow_inj e)⟩
    have un2 : UnF fm p ⟨p.2.first, .alone r0, p.2.far⟩ := ⟨⟨fok.first, ro, fok.far⟩, fd_ne fun e => by
      unfold Fd.ts at e
      rw [hn] at e
      injection e with _ e; injection e with e _; cases e⟩
    have e2 := j0.e2
    have c1 : cutT ((r0 :: rt).map tRow) (some 1) none = rt.map tRow := by
      have := cut_from ((r0 :: rt).map tRow) 1
      simpa using this
    have rtl : rt.length ≤ 3 := by simp at q3; omega
    simp [Nr.tLooks, Nr.tNear] at eleven c1
    simp [Nr.tLooks, Nr.tNear, b__law_others_7, b__law_others_9, isL, e2]
    refine Tu ro n1 (by omega) fun z => ?_
    have j1 := (j0.app z).add r12 le2 un1
    have e3 := (j0.app z).e2
    simp at e3
    generalize h2 ++ z = g at *
    simp [c1, e3, show 4 ≤ sizeLine by omega, show 1 < sizeLine by omega, show 1 ≤ sizeLine by omega, show 1 + rt.length ≤ sizeLine by omega, b__law_others_10]
    have eset : g.set x2 (Ob.lst [C0.t, T.tup [T.str p.2.first, T.str gk, T.tup (tRow (turnR r0) :: rt.map tRow), tFar p.2.far]]) = g.set x2 (Ob.lst (List.map Fd.t [C0] ++ [(⟨p.2.first, .looks gk (turnR r0 :: rt), p.2.far⟩ : Fd).t])) := rfl
    rw [eset]
    generalize hg2 : g.set x2 (Ob.lst (List.map Fd.t [C0] ++ [(⟨p.2.first, .looks gk (turnR r0 :: rt), p.2.far⟩ : Fd).t])) = g2 at *
    have j2 := j1.add r12 le2 un2
    have e4 := j1.e2
    simp at e4
    simp [isL, e4, show 4 ≤ sizeLine by omega, show 2 < sizeLine by omega]
    have := eleven _ _ j2 (by simp)
    rw [← hg2, List.set_set] at this
    simpa [Fd.t, Fd.ts, Nr.tLooks, Nr.tNear] using this
theorem lstAt_of_form {h : Hh} {l : Nat} {fm : Fm} (f : FormAt h l fm) : lstAt h l = none := by
  unfold lstAt
  rw [show h[l]? = _ from f]
theorem ok_law01 {F : FF} (B : BoxW F._law_box) (Pa : PartsW F._law_parts) (I : InitE F.Form_init) (Te : TellsE F._law_tells) (Fe : FEqE F.Form___eq__) (Ot : OthersW F._law_others)
    {ns : List Int} (hns : ns.length ≤ 63) : (defRun 8 (b_law F) [.fl (ns.map T.int)] []).wp (fun a _ => a = .bl true) noE := by
  have hsz := sz
  simp [wp_defRun, b_law]
  refine B hns fun l h0 bx0 _ _ _ => ?_
  simp [b_law_1]
  refine Pa bx0 fun fm h1 o u1 => ?_
  have bx1 := u1.box
  have r1 := o.r1; have r3 := o.r3
  have o3 : FmOk { fm with room := 3 } := { o with r1 := by show (1 : Int) ≤ 3; omega, r3 := by show (3 : Int) ≤ 3; omega }
  simp [b_law_2, weave]
  refine init_fm (h := h1) I o rfl rfl rfl rfl fun z2 fa => ?_
  have bx2 := bx1.app z2
  simp
  generalize h1 ++ z2 = h2 at *
  generalize h1.length = lf at *
  simp [b_law_3, weave]
  refine init_fm (h := h2) (fm := { fm with room := 3 }) I o3 rfl rfl rfl rfl fun z3 fp => ?_
  have bx3 := bx2.app z3
  have fa3 := fa.app z3
  simp
  generalize h2 ++ z3 = h3 at *
  generalize h2.length = lp at *
  have c2 : cutT [fm.tW, fm.tF, T.int fm.room] none (some 2) = [fm.tW, fm.tF] := rfl
  have t1 := Te fa3 o
  have t2 := Te fp o3
  unfold parT at t1 t2
  rw [show T.tup (fm.fields.map tPair) = fm.tF from rfl] at t1
  rw [show T.tup ((({ fm with room := 3 } : Fm)).fields.map tPair) = fm.tF from rfl, show (({ fm with room := 3 } : Fm)).tW = fm.tW from rfl] at t2
  simp [b_law_4, t1, c2, show 1 ≤ sizeLine by omega, show 2 + 1 ≤ sizeLine by omega, t2, b_law_6, weave]
  refine init_fm (h := h3) I o rfl rfl rfl rfl fun z4 ft => ?_
  have bx4 := bx3.app z4
  have fa4 := fa3.app z4
  have fp4 := fp.app z4
  simp
  generalize h3 ++ z4 = h4 at *
  generalize h3.length = lt at *
  obtain ⟨b1, e1, q1⟩ := Fe fa4 ft
  obtain ⟨b2, e2, q2⟩ := Fe fp4 fa4
  have b1t : b1 = true := q1.mpr rfl
  subst b1t
  have b2t : b2 = decide (fm.room = 3) := by
    rw [Bool.eq_iff_iff, q2, decide_eq_true_eq]
    constructor
    · intro e
      have e : (3 : Int) = fm.room := parT_room e
      omega
    · intro e
      unfold parT
      show T.tup [fm.tW, _, T.int 3] = _
      rw [e]
  have n1 : fEq "Form" F.Form___eq__ (.ref lf) (.ref lt) h4 = .ok (.bl true) h4 := by simp [fEq, insAt_of fa4, insAt_of ft, e1]
  have n2 : fNeO "Form" F.Form___eq__ (.ref lf) (.ref lt) h4 = .ok (.bl false) h4 := by simp [fNeO, insAt_of fa4, insAt_of ft, e1]
  have n3 : fEq "Form" F.Form___eq__ (.ref lp) (.ref lf) h4 = .ok (.bl (decide (fm.room = 3))) h4 := by simp [fEq, insAt_of fa4, insAt_of fp4, e2, b2t]
  simp [b_law_7, n1, n2, n3, b_law_9]
  refine Ot bx4 o fun fs r h5 u5 rl er gs gl => ?_
  have lfl : lf ≠ l := fun e => by
    subst e
    obtain ⟨c, cells, i, d, s, n, e, _⟩ := bx4
    have := lstAt_of_form fa4
    rw [this] at e
    cases e
  have ltl : lt ≠ l := fun e => by
    subst e
    obtain ⟨c, cells, i, d, s, n, e, _⟩ := bx4
    have := lstAt_of_form ft
    rw [this] at e
    cases e
  have fa5 := fa4.upK u5 lfl
  have ft5 := ft.upK u5 ltl
  simp [er, srcOf]
  refine wp_for (s := .live r) (ts := fs.map parT) (fun k σ h' => ∃ a6 a7 : Option T, σ = [some (.fl (ns.map T.int)), some (.ref l), some (.tup [fm.tW, fm.tF, .int fm.room]), some (.ref lf), some (.ref lp), some (.ref lt), a6, a7] ∧ lstAt h' r = some (fs.map parT) ∧ FormAt h' lf fm ∧ FormAt h' lt fm)
    (fun k σ h' q => by obtain ⟨_, _, _, q, _⟩ := q; exact q) ⟨none, none, rfl, er, fa5, ft5⟩ (fun k x σ h' hx q => ?_) (fun σ h' q => ?_)
  · obtain ⟨a6, a7, rfl, er, fa, ft⟩ := q
    obtain ⟨g, hg, rfl⟩ := List.mem_map.mp (List.mem_of_getElem? hx)
    obtain ⟨og, ng⟩ := gs g hg
    refine ⟨_, rfl, ?_⟩
    simp [b_law_10, parT, weave]
    refine init_fm (h := h') (fm := g) I og rfl rfl rfl rfl fun z fg => ?_
    have fa' := fa.app z
    have ft' := ft.app z
    have er' := lstAt_app z er
    simp
    generalize h' ++ z = h6 at *
    generalize h'.length = lg at *
    obtain ⟨b1, e1, q1⟩ := Fe fa' fg
    obtain ⟨b2, e2, q2⟩ := Fe fg fa'
    have b1f : b1 = false := by cases b1 with | false => rfl | true => exact (ng (q1.mp rfl).symm).elim
    have b2f : b2 = false := by cases b2 with | false => rfl | true => exact (ng (q2.mp rfl)).elim
    subst b1f b2f
    have tg := Te fg og
    unfold parT at tg
    simp [b_law_11, fEq, insAt_of fa', insAt_of fg, e1, e2, tg]
    exact ⟨er', fa', ft'⟩
  · obtain ⟨a6, a7, rfl, er, fa, ft⟩ := q
    obtain ⟨b1, e1, q1⟩ := Fe fa ft
    have b1t : b1 = true := q1.mpr rfl
    subst b1t
    have t1 := Te fa o
    unfold parT at t1
    rw [show T.tup (fm.fields.map tPair) = fm.tF from rfl] at t1
    simp [b_law_13, t1, fEq, insAt_of fa, insAt_of ft, e1]
end LW
end

section
namespace LW
open PySem W3
theorem s__law_mix : ∀ k, MixW (runF (k + 1))._law_mix := fun k => ok_mix (F := runF (k + 0)) 
theorem s__law_box : ∀ k, BoxW (runF (k + 2))._law_box := fun k => ok_box (F := runF (k + 1)) (s__law_mix (k + 0))
theorem s__law_draw : ∀ k, DrawW (runF (k + 2))._law_draw := fun k => ok_draw (F := runF (k + 1)) (s__law_mix (k + 0))
theorem s__law_names : ∀ k, NamesW (runF (k + 3))._law_names := fun k => ok_names (F := runF (k + 2)) (s__law_draw (k + 0))
theorem s__law_entries : ∀ k, EntriesW (runF (k + 3))._law_entries := fun k => ok_entries (F := runF (k + 2)) (s__law_draw (k + 0))
theorem s__law_field : ∀ k, FieldW (runF (k + 4))._law_field := fun k => ok_field (F := runF (k + 3)) (s__law_draw (k + 1)) (s__law_entries (k + 0))
theorem s__law_parts : ∀ k, PartsW (runF (k + 5))._law_parts := fun k => ok_parts (F := runF (k + 4)) (s__law_draw (k + 2)) (s__law_names (k + 1)) (s__law_field (k + 0))
theorem s_is_integer : ∀ k, IsB (runF (k + 1)).is_integer 0 integerB := fun k => ok_is_integer (F := runF (k + 0)) 
theorem s_is_name : ∀ k, IsB (runF (k + 1)).is_name 0 nameB := fun k => ok_is_name (F := runF (k + 0)) 
theorem s_is_one_of : ∀ k, OneE (runF (k + 1)).is_one_of := fun k => ok_is_one_of (F := runF (k + 0)) 
theorem s_is_row : ∀ k, RowE (runF (k + 2)).is_row := fun k => ok_is_row (F := runF (k + 1)) (s_is_name (k + 0))
theorem s_is_near : ∀ k, NearE (runF (k + 3)).is_near := fun k => ok_is_near (F := runF (k + 2)) (s_is_row (k + 0))
theorem s_are_names : ∀ k, NamesE (runF (k + 2)).are_names := fun k => ok_are_names (F := runF (k + 1)) (s_is_name (k + 0))
theorem s_is_pair : ∀ k, IsB (runF (k + 2)).is_pair 1 pairB := fun k => ok_is_pair (F := runF (k + 1)) (s_is_name (k + 0))
theorem s_are_fields : ∀ k, FieldsE (runF (k + 3)).are_fields := fun k => ok_are_fields (F := runF (k + 2)) (s_is_pair (k + 0))
theorem s_check_field : ∀ k, CheckE (runF (k + 4)).check_field := fun k => ok_check_fieldE (F := runF (k + 3)) (s_is_one_of (k + 2)) (s_is_near (k + 0)) (s_is_row (k + 1))
theorem s_Form_init : ∀ k, InitE (runF (k + 5)).Form_init := fun k => ok_Form_initE (F := runF (k + 4)) (s_are_names (k + 2)) (s_are_fields (k + 1)) (s_check_field (k + 0)) (s_is_integer (k + 3))
theorem s_Form_field_names : ∀ k, FNamesE (runF (k + 1)).Form_field_names := fun k => ok_field_names (F := runF (k + 0)) 
theorem s_Form_parts_of : ∀ k, PartsOfE (runF (k + 1)).Form_parts_of := fun k => ok_parts_of (F := runF (k + 0)) 
theorem s_Form_readers : ∀ k, ReadersE (runF (k + 2)).Form_readers := fun k => ok_readers (F := runF (k + 1)) (s_Form_parts_of (k + 0))
theorem s_Form___eq__ : ∀ k, FEqE (runF (k + 1)).Form___eq__ := fun k => ok_form_eq (F := runF (k + 0)) 
theorem s__law_same_0 : ∀ k, SameW 0 (runF (k + 1))._law_same := fun k => ok_same0 (F := runF (k + 0)) 
theorem s__law_same_1 : ∀ k, SameW 1 (runF (k + 2))._law_same := fun k => ok_same (F := runF (k + 1)) (s__law_same_0 (k + 0))
theorem s__law_same_2 : ∀ k, SameW 2 (runF (k + 3))._law_same := fun k => ok_same (F := runF (k + 2)) (s__law_same_1 (k + 0))
theorem s__law_same_3 : ∀ k, SameW 3 (runF (k + 4))._law_same := fun k => ok_same (F := runF (k + 3)) (s__law_same_2 (k + 0))
theorem s__law_same_4 : ∀ k, SameW 4 (runF (k + 5))._law_same := fun k => ok_same (F := runF (k + 4)) (s__law_same_3 (k + 0))
theorem s__law_same_5 : ∀ k, SameW 5 (runF (k + 6))._law_same := fun k => ok_same (F := runF (k + 5)) (s__law_same_4 (k + 0))
theorem s__law_same_6 : ∀ k, SameW 6 (runF (k + 7))._law_same := fun k => ok_same (F := runF (k + 6)) (s__law_same_5 (k + 0))
theorem s__law_same_7 : ∀ k, SameW 7 (runF (k + 8))._law_same := fun k => ok_same (F := runF (k + 7)) (s__law_same_6 (k + 0))
theorem s__law_tells : ∀ k, TellsE (runF (k + 9))._law_tells := fun k => ok_tells (F := runF (k + 8)) (s__law_same_7 (k + 0)) (s_Form_field_names (k + 7)) (s_Form_parts_of (k + 7)) (s_Form_readers (k + 6))
theorem s__law_turned : ∀ k, TurnW (runF (k + 1))._law_turned := fun k => ok_turned (F := runF (k + 0)) 
theorem s__law_others : ∀ k, OthersW (runF (k + 3))._law_others := fun k => ok_others (F := runF (k + 2)) (s__law_draw (k + 0)) (s__law_turned (k + 1))
def fuel : Nat := 10
theorem law_true : ∀ ns : List Int, ns.length ≤ 63 → ∃ h', (runF fuel).law [.fl (ns.map T.int)] [] = .ok (.bl true) h' := by
  intro ns hns
  obtain ⟨a, h', e, rfl⟩ := (ok_law01 (F := runF 9) (s__law_box (0 + 7)) (s__law_parts (0 + 4)) (s_Form_init (0 + 4)) (s__law_tells (0 + 0)) (s_Form___eq__ (0 + 8)) (s__law_others (0 + 6)) hns).ok
  exact ⟨h', e⟩
end LW
end

section
namespace LW
open PySem PySem.Spec PyProof.Rows
open L2 W3
structure Ad where
  f_is_integer : Addr
  d_is_integer : FuncData
  f_is_name : Addr
  d_is_name : FuncData
  f_is_one_of : Addr
  d_is_one_of : FuncData
  f_are_names : Addr
  d_are_names : FuncData
  f_is_pair : Addr
  d_is_pair : FuncData
  f_are_fields : Addr
  d_are_fields : FuncData
  f_is_row : Addr
  d_is_row : FuncData
  f_is_near : Addr
  d_is_near : FuncData
  f_check_field : Addr
  d_check_field : FuncData
  f_Form_init : Addr
  d_Form_init : FuncData
  f_Form___eq__ : Addr
  d_Form___eq__ : FuncData
  f_Form_field_names : Addr
  d_Form_field_names : FuncData
  f_Form_parts_of : Addr
  d_Form_parts_of : FuncData
  f_Form_readers : Addr
  d_Form_readers : FuncData
  f__law_mix : Addr
  d__law_mix : FuncData
  f__law_box : Addr
  d__law_box : FuncData
  f__law_draw : Addr
  d__law_draw : FuncData
  f__law_same : Addr
  d__law_same : FuncData
  f__law_names : Addr
  d__law_names : FuncData
  f__law_entries : Addr
  d__law_entries : FuncData
  f__law_field : Addr
  d__law_field : FuncData
  f__law_parts : Addr
  d__law_parts : FuncData
  f__law_tells : Addr
  d__law_tells : FuncData
  f__law_turned : Addr
  d__law_turned : FuncData
  f__law_others : Addr
  d__law_others : FuncData
  f_law : Addr
  d_law : FuncData
  c_Form : Addr
  c_InvalidForm : Addr
  c_UnknownField : Addr
  xf_InvalidForm : Addr
  xd_InvalidForm : FuncData
  xf_UnknownField : Addr
  xd_UnknownField : FuncData
structure Txt (w : World) (K : PySem.W.Frag) (mg : Str → Option Value) (A : Ad) : Prop where
  u_is_integer : Fun K "is_integer" "is_integer" st_is_integer A.f_is_integer A.d_is_integer
  b_is_integer : Binds K A.d_is_integer ["value"] []
  g_is_integer : mg "is_integer" = some (.ref A.f_is_integer)
  u_is_name : Fun K "is_name" "is_name" st_is_name A.f_is_name A.d_is_name
  b_is_name : Binds K A.d_is_name ["value"] []
  g_is_name : mg "is_name" = some (.ref A.f_is_name)
  u_is_one_of : Fun K "is_one_of" "is_one_of" st_is_one_of A.f_is_one_of A.d_is_one_of
  b_is_one_of : Binds K A.d_is_one_of ["value", "names"] []
  g_is_one_of : mg "is_one_of" = some (.ref A.f_is_one_of)
  u_are_names : Fun K "are_names" "are_names" st_are_names A.f_are_names A.d_are_names
  b_are_names : Binds K A.d_are_names ["value", "least", "most"] []
  g_are_names : mg "are_names" = some (.ref A.f_are_names)
  u_is_pair : Fun K "is_pair" "is_pair" st_is_pair A.f_is_pair A.d_is_pair
  b_is_pair : Binds K A.d_is_pair ["value"] []
  g_is_pair : mg "is_pair" = some (.ref A.f_is_pair)
  u_are_fields : Fun K "are_fields" "are_fields" st_are_fields A.f_are_fields A.d_are_fields
  b_are_fields : Binds K A.d_are_fields ["value"] []
  g_are_fields : mg "are_fields" = some (.ref A.f_are_fields)
  u_is_row : Fun K "is_row" "is_row" st_is_row A.f_is_row A.d_is_row
  b_is_row : Binds K A.d_is_row ["value", "size"] []
  g_is_row : mg "is_row" = some (.ref A.f_is_row)
  u_is_near : Fun K "is_near" "is_near" st_is_near A.f_is_near A.d_is_near
  b_is_near : Binds K A.d_is_near ["value", "looks", "size"] []
  g_is_near : mg "is_near" = some (.ref A.f_is_near)
  u_check_field : Fun K "check_field" "check_field" st_check_field A.f_check_field A.d_check_field
  b_check_field : Binds K A.d_check_field ["name", "parts", "words", "names"] []
  g_check_field : mg "check_field" = some (.ref A.f_check_field)
  u_Form_init : FunD K "__init__" "Form.__init__" (defArgs st_Form_init) (defBody st_Form_init) (defScope st_Form_init) [] [("room", .int 3)] A.f_Form_init A.d_Form_init
  u_Form___eq__ : Fun K "__eq__" "Form.__eq__" st_Form___eq__ A.f_Form___eq__ A.d_Form___eq__
  b_Form___eq__ : Binds K A.d_Form___eq__ ["self", "other"] []
  sp_Form___eq__ : PySem.W.findIn K (.ref A.c_Form) "__eq__" = some (some (.ref A.f_Form___eq__)) ∧ PySem.W.isFn K (.ref A.f_Form___eq__) = true
  u_Form_field_names : Fun K "field_names" "Form.field_names" st_Form_field_names A.f_Form_field_names A.d_Form_field_names
  b_Form_field_names : Binds K A.d_Form_field_names ["self"] []
  h_Form_field_names : Meth K A.c_Form "field_names" A.f_Form_field_names
  u_Form_parts_of : Fun K "parts_of" "Form.parts_of" st_Form_parts_of A.f_Form_parts_of A.d_Form_parts_of
  b_Form_parts_of : Binds K A.d_Form_parts_of ["self", "name"] []
  h_Form_parts_of : Meth K A.c_Form "parts_of" A.f_Form_parts_of
  u_Form_readers : Fun K "readers" "Form.readers" st_Form_readers A.f_Form_readers A.d_Form_readers
  b_Form_readers : Binds K A.d_Form_readers ["self", "name"] []
  h_Form_readers : Meth K A.c_Form "readers" A.f_Form_readers
  u__law_mix : Fun K "_law_mix" "_law_mix" st__law_mix A.f__law_mix A.d__law_mix
  b__law_mix : Binds K A.d__law_mix ["_law_value", "_law_k"] []
  g__law_mix : mg "_law_mix" = some (.ref A.f__law_mix)
  u__law_box : Fun K "_law_box" "_law_box" st__law_box A.f__law_box A.d__law_box
  b__law_box : Binds K A.d__law_box ["_law_script"] []
  g__law_box : mg "_law_box" = some (.ref A.f__law_box)
  u__law_draw : Fun K "_law_draw" "_law_draw" st__law_draw A.f__law_draw A.d__law_draw
  b__law_draw : Binds K A.d__law_draw ["_law_box_here", "_law_many"] []
  g__law_draw : mg "_law_draw" = some (.ref A.f__law_draw)
  u__law_same : Fun K "_law_same" "_law_same" st__law_same A.f__law_same A.d__law_same
  b__law_same : Binds K A.d__law_same ["_law_told", "_law_due"] []
  g__law_same : mg "_law_same" = some (.ref A.f__law_same)
  u__law_names : Fun K "_law_names" "_law_names" st__law_names A.f__law_names A.d__law_names
  b__law_names : Binds K A.d__law_names ["_law_box_here", "_law_many"] []
  g__law_names : mg "_law_names" = some (.ref A.f__law_names)
  u__law_entries : Fun K "_law_entries" "_law_entries" st__law_entries A.f__law_entries A.d__law_entries
  b__law_entries : Binds K A.d__law_entries ["_law_box_here", "_law_notes", "_law_size"] []
  g__law_entries : mg "_law_entries" = some (.ref A.f__law_entries)
  u__law_field : Fun K "_law_field" "_law_field" st__law_field A.f__law_field A.d__law_field
  b__law_field : Binds K A.d__law_field ["_law_box_here", "_law_words", "_law_names_here", "_law_name", "_law_notes"] []
  g__law_field : mg "_law_field" = some (.ref A.f__law_field)
  u__law_parts : Fun K "_law_parts" "_law_parts" st__law_parts A.f__law_parts A.d__law_parts
  b__law_parts : Binds K A.d__law_parts ["_law_box_here"] []
  g__law_parts : mg "_law_parts" = some (.ref A.f__law_parts)
  u__law_tells : Fun K "_law_tells" "_law_tells" st__law_tells A.f__law_tells A.d__law_tells
  b__law_tells : Binds K A.d__law_tells ["_law_form", "_law_parts_here"] []
  g__law_tells : mg "_law_tells" = some (.ref A.f__law_tells)
  u__law_turned : Fun K "_law_turned" "_law_turned" st__law_turned A.f__law_turned A.d__law_turned
  b__law_turned : Binds K A.d__law_turned ["_law_row"] []
  g__law_turned : mg "_law_turned" = some (.ref A.f__law_turned)
  u__law_others : Fun K "_law_others" "_law_others" st__law_others A.f__law_others A.d__law_others
  b__law_others : Binds K A.d__law_others ["_law_box_here", "_law_parts_here"] []
  g__law_others : mg "_law_others" = some (.ref A.f__law_others)
  u_law : Fun K "law" "law" st_law A.f_law A.d_law
  b_law : Binds K A.d_law ["_law_script"] []
  g_law : mg "law" = some (.ref A.f_law)
  kb_Form_init_2_room : KBw K A.d_Form_init ["self", "words", "fields", "room"] 3 ["room"] [true] []
  kb_Form_init_2_ : KBw K A.d_Form_init ["self", "words", "fields", "room"] 3 [] [false] [.int 3]
  g_Form : mg "Form" = some (.ref A.c_Form)
  cc_Form : Cls K A.c_Form
  m_Form : Mk K A.c_Form A.f_Form_init
  io_Form : IsoC K A.c_Form
  om_Form : PySem.W.mroIn K A.c_Form (.type "object") = some true
  ne_Form : PySem.W.findIn K (.ref A.c_Form) "__ne__" = some (some (.builtin "object.__ne__"))
  cs : ClsF K mg CS
  c_LETTERS : ∃ t, mg "LETTERS" = some (.str "abcdefghijklmnopqrstuvwxyz" t)
  n_all : mg "all" = none
  n_bool : mg "bool" = none
  n_int : mg "int" = none
  n_isinstance : mg "isinstance" = none
  n_len : mg "len" = none
  n_list : mg "list" = none
  n_range : mg "range" = none
  n_set : mg "set" = none
  n_str : mg "str" = none
  n_super : mg "super" = none
  n_tuple : mg "tuple" = none
  g_InvalidForm : mg "InvalidForm" = some (.ref A.c_InvalidForm)
  g_UnknownField : mg "UnknownField" = some (.ref A.c_UnknownField)
  ox_InvalidForm : OexC K A.c_InvalidForm
  xi_InvalidForm : PySem.W.findIn K (.ref A.c_InvalidForm) "__init__" = some (some (.ref A.xf_InvalidForm))
  xt_InvalidForm : PySem.W.typeIn K (.ref A.xf_InvalidForm) = some (.type "function")
  b_InvalidForm : Binds K A.xd_InvalidForm ["self", "part", "field"] []
  ox_UnknownField : OexC K A.c_UnknownField
  xi_UnknownField : PySem.W.findIn K (.ref A.c_UnknownField) "__init__" = some (some (.ref A.xf_UnknownField))
  xt_UnknownField : PySem.W.typeIn K (.ref A.xf_UnknownField) = some (.type "function")
  b_UnknownField : Binds K A.xd_UnknownField ["self", "field"] []
  xf : XfAll K mg XS FL
structure Exs (P : Program) (w : World) (K : PySem.W.Frag) (mg : Str → Option Value) (base : Heap) (A : Ad) : Prop where
  F_InvalidForm : FnOk P w K mg base (L2.CX P w) 1 A.xf_InvalidForm A.xd_InvalidForm ["self", "part", "field"] (spE2 A.c_InvalidForm "part" "field")
  F_UnknownField : FnOk P w K mg base (L2.CX P w) 1 A.xf_UnknownField A.xd_UnknownField ["self", "field"] (spE1 A.c_UnknownField "field")
section
variable {P : Program} {w : World} {K : PySem.W.Frag} {mg : Str → Option Value} {base : Heap} {A : Ad} {F : FF} {j : Nat}
structure Oks (P : Program) (w : World) (K : PySem.W.Frag) (mg : Str → Option Value) (base : Heap) (A : Ad) (j : Nat) (F : FF) : Prop where
  is_integer : FnOk P w K mg base (L2.CX P w) j A.f_is_integer A.d_is_integer ["value"] (spT K mg 1 F.is_integer)
  is_name : FnOk P w K mg base (L2.CX P w) j A.f_is_name A.d_is_name ["value"] (spT K mg 1 F.is_name)
  is_one_of : FnOk P w K mg base (L2.CX P w) j A.f_is_one_of A.d_is_one_of ["value", "names"] (spT K mg 2 F.is_one_of)
  are_names : FnOk P w K mg base (L2.CX P w) j A.f_are_names A.d_are_names ["value", "least", "most"] (spT K mg 3 F.are_names)
  is_pair : FnOk P w K mg base (L2.CX P w) j A.f_is_pair A.d_is_pair ["value"] (spT K mg 1 F.is_pair)
  are_fields : FnOk P w K mg base (L2.CX P w) j A.f_are_fields A.d_are_fields ["value"] (spT K mg 1 F.are_fields)
  is_row : FnOk P w K mg base (L2.CX P w) j A.f_is_row A.d_is_row ["value", "size"] (spT K mg 2 F.is_row)
  is_near : FnOk P w K mg base (L2.CX P w) j A.f_is_near A.d_is_near ["value", "looks", "size"] (spT K mg 3 F.is_near)
  check_field : FnOk P w K mg base (L2.CX P w) j A.f_check_field A.d_check_field ["name", "parts", "words", "names"] (spT K mg 4 F.check_field)
  Form_init : FnOk P w K mg base (L2.CX P w) j A.f_Form_init A.d_Form_init ["self", "words", "fields", "room"] (spT K mg 4 F.Form_init)
  Form___eq__ : FnOk P w K mg base (L2.CX P w) j A.f_Form___eq__ A.d_Form___eq__ ["self", "other"] (spT K mg 2 F.Form___eq__)
  Form_field_names : FnOk P w K mg base (L2.CX P w) j A.f_Form_field_names A.d_Form_field_names ["self"] (spT K mg 1 F.Form_field_names)
  Form_parts_of : FnOk P w K mg base (L2.CX P w) j A.f_Form_parts_of A.d_Form_parts_of ["self", "name"] (spT K mg 2 F.Form_parts_of)
  Form_readers : FnOk P w K mg base (L2.CX P w) j A.f_Form_readers A.d_Form_readers ["self", "name"] (spT K mg 2 F.Form_readers)
  _law_mix : FnOk P w K mg base (L2.CX P w) j A.f__law_mix A.d__law_mix ["_law_value", "_law_k"] (spT K mg 2 F._law_mix)
  _law_box : FnOk P w K mg base (L2.CX P w) j A.f__law_box A.d__law_box ["_law_script"] (spT K mg 1 F._law_box)
  _law_draw : FnOk P w K mg base (L2.CX P w) j A.f__law_draw A.d__law_draw ["_law_box_here", "_law_many"] (spT K mg 2 F._law_draw)
  _law_same : FnOk P w K mg base (L2.CX P w) j A.f__law_same A.d__law_same ["_law_told", "_law_due"] (spT K mg 2 F._law_same)
  _law_names : FnOk P w K mg base (L2.CX P w) j A.f__law_names A.d__law_names ["_law_box_here", "_law_many"] (spT K mg 2 F._law_names)
  _law_entries : FnOk P w K mg base (L2.CX P w) j A.f__law_entries A.d__law_entries ["_law_box_here", "_law_notes", "_law_size"] (spT K mg 3 F._law_entries)
  _law_field : FnOk P w K mg base (L2.CX P w) j A.f__law_field A.d__law_field ["_law_box_here", "_law_words", "_law_names_here", "_law_name", "_law_notes"] (spT K mg 5 F._law_field)
  _law_parts : FnOk P w K mg base (L2.CX P w) j A.f__law_parts A.d__law_parts ["_law_box_here"] (spT K mg 1 F._law_parts)
  _law_tells : FnOk P w K mg base (L2.CX P w) j A.f__law_tells A.d__law_tells ["_law_form", "_law_parts_here"] (spT K mg 2 F._law_tells)
  _law_turned : FnOk P w K mg base (L2.CX P w) j A.f__law_turned A.d__law_turned ["_law_row"] (spT K mg 1 F._law_turned)
  _law_others : FnOk P w K mg base (L2.CX P w) j A.f__law_others A.d__law_others ["_law_box_here", "_law_parts_here"] (spT K mg 2 F._law_others)
  law : FnOk P w K mg base (L2.CX P w) j A.f_law A.d_law ["_law_script"] (spT K mg 1 F.law)
theorem sc_is_integer : FnScope ["value"] ["value"] (defScope st_is_integer) := ⟨rfl, rfl, rfl, by decide +kernel, rfl, by decide +kernel, by decide +kernel⟩
theorem der_is_integer (tx : Txt w K mg A) (ex : Exs P w K mg base A) (O : Oks P w K mg base A j F) : FnOk P w K mg base (L2.CX P w) (j + 3) A.f_is_integer A.d_is_integer ["value"] (spT K mg 1 (defRun 1 (b_is_integer F))) := by
  have S := sc_is_integer
  refine fn_T tx.u_is_integer S fun cdv Ar outer s H E hr tk hp => ?_
  have hr0 := hr.mono (Nat.le_add_right _ _)
  have hr1 := hr.mono (Nat.le_succ _)
  have hr2 := hr.mono (Nat.le_add_left 2 _)
  have hu := hu65 hr
  exact (ds_cons (ds_ret (de_and (de_isk .int boot_int rfl tx.n_isinstance rfl tx.n_int (dv 0)) (de_and1 (de_not (de_isk .bool boot_bool rfl tx.n_isinstance rfl tx.n_bool (dv 0))))))
  ds_nil)
theorem sc_is_name : FnScope ["value", "sign"] ["value"] (defScope st_is_name) := ⟨rfl, rfl, rfl, by decide +kernel, rfl, by decide +kernel, by decide +kernel⟩
theorem der_is_name (tx : Txt w K mg A) (ex : Exs P w K mg base A) (O : Oks P w K mg base A j F) : FnOk P w K mg base (L2.CX P w) (j + 3) A.f_is_name A.d_is_name ["value"] (spT K mg 1 (defRun 2 (b_is_name F))) := by
  have S := sc_is_name
  refine fn_T tx.u_is_name S fun cdv Ar outer s H E hr tk hp => ?_
  have hr0 := hr.mono (Nat.le_add_right _ _)
  have hr1 := hr.mono (Nat.le_succ _)
  have hr2 := hr.mono (Nat.le_add_left 2 _)
  have hu := hu65 hr
  exact (ds_cons (ds_if (dt_w (dw_or (dt_not (dt_val (de_isk .str boot_str rfl tx.n_isinstance rfl tx.n_str (dv 0)))) (dw_or1 (dt_not (dt_chain os_le os_le nx_le nx_le de_int (de_callB cs_len nx_len rfl tx.n_len boot_len (da_cons (dv 0) da_nil)) de_int)))))
  (ds_cons (ds_ret de_bl)
   ds_nil)
  ds_nil)
  (ds_cons (ds_ret (de_overB (cl_all rfl) nx_all rfl tx.n_all boot_all (dl_lc (own := [("sign", 1)]) rfl S.nd (di_e (dv 0)) (blkOk_by rfl) (fun _ _ _ _ _ => (dg_name (i := 1) S.nd rfl (by first | exact Or.inl rfl | exact Or.inr rfl))) (fun _ _ _ _ _ => dts_nil) (fun _ _ _ _ _ => (de_cmp (os_in hu) nx_in (dv 1) (dgs tx.c_LETTERS (by decide +kernel)) rfl)))))
  ds_nil))
theorem sc_is_one_of : FnScope ["value", "names"] ["value", "names"] (defScope st_is_one_of) := ⟨rfl, rfl, rfl, by decide +kernel, rfl, by decide +kernel, by decide +kernel⟩
theorem der_is_one_of (tx : Txt w K mg A) (ex : Exs P w K mg base A) (O : Oks P w K mg base A j F) : FnOk P w K mg base (L2.CX P w) (j + 3) A.f_is_one_of A.d_is_one_of ["value", "names"] (spT K mg 2 (defRun 2 (b_is_one_of F))) := by
  have S := sc_is_one_of
  refine fn_T tx.u_is_one_of S fun cdv Ar outer s H E hr tk hp => ?_
  have hr0 := hr.mono (Nat.le_add_right _ _)
  have hr1 := hr.mono (Nat.le_succ _)
  have hr2 := hr.mono (Nat.le_add_left 2 _)
  have hu := hu65 hr
  exact (ds_cons (ds_ret (de_and (de_isk .str boot_str rfl tx.n_isinstance rfl tx.n_str (dv 0)) (de_and1 (de_cmp (os_in hu) nx_in (dv 0) (dv 1) rfl))))
  ds_nil)
theorem sc_are_names : FnScope ["value", "least", "most", "item"] ["value", "least", "most"] (defScope st_are_names) := ⟨rfl, rfl, rfl, by decide +kernel, rfl, by decide +kernel, by decide +kernel⟩
theorem der_are_names (tx : Txt w K mg A) (ex : Exs P w K mg base A) (O : Oks P w K mg base A j F) : FnOk P w K mg base (L2.CX P w) (j + 3) A.f_are_names A.d_are_names ["value", "least", "most"] (spT K mg 3 (defRun 4 (b_are_names F))) := by
  have S := sc_are_names
  refine fn_T tx.u_are_names S fun cdv Ar outer s H E hr tk hp => ?_
  have hr0 := hr.mono (Nat.le_add_right _ _)
  have hr1 := hr.mono (Nat.le_succ _)
  have hr2 := hr.mono (Nat.le_add_left 2 _)
  have hu := hu65 hr
  exact (ds_cons (ds_if (dt_w (dw_or (dt_not (dt_val (de_isk .tuple boot_tuple rfl tx.n_isinstance rfl tx.n_tuple (dv 0)))) (dw_or1 (dt_not (dt_chain os_le os_le nx_le nx_le (dv 1) (de_callB cs_len nx_len rfl tx.n_len boot_len (da_cons (dv 0) da_nil)) (dv 2))))))
  (ds_cons (ds_ret de_bl)
   ds_nil)
  ds_nil)
  (ds_cons (ds_ret (de_and (de_overB (cl_all rfl) nx_all rfl tx.n_all boot_all (dl_lc (own := [("item", 3)]) rfl S.nd (di_e (dv 0)) (blkOk_by rfl) (fun _ _ _ _ _ => (dg_name (i := 3) S.nd rfl (by first | exact Or.inl rfl | exact Or.inr rfl))) (fun _ _ _ _ _ => dts_nil) (fun _ _ _ _ _ => (de_call (ps := ["value"]) O.is_name hr0 rfl tx.g_is_name tx.u_is_name.kp tx.b_is_name takes0 (da_cons (dv 3) da_nil))))) (de_and1 (de_cmp (os_eq hu) nx_eq (de_lenSet rfl rfl tx.n_len rfl tx.n_set (dv 0)) (de_callB cs_len nx_len rfl tx.n_len boot_len (da_cons (dv 0) da_nil)) rfl))))
  ds_nil))
theorem sc_is_pair : FnScope ["value"] ["value"] (defScope st_is_pair) := ⟨rfl, rfl, rfl, by decide +kernel, rfl, by decide +kernel, by decide +kernel⟩
theorem der_is_pair (tx : Txt w K mg A) (ex : Exs P w K mg base A) (O : Oks P w K mg base A j F) : FnOk P w K mg base (L2.CX P w) (j + 3) A.f_is_pair A.d_is_pair ["value"] (spT K mg 1 (defRun 1 (b_is_pair F))) := by
  have S := sc_is_pair
  refine fn_T tx.u_is_pair S fun cdv Ar outer s H E hr tk hp => ?_
  have hr0 := hr.mono (Nat.le_add_right _ _)
  have hr1 := hr.mono (Nat.le_succ _)
  have hr2 := hr.mono (Nat.le_add_left 2 _)
  have hu := hu65 hr
  exact (ds_cons (ds_if (dt_w (dw_or (dt_not (dt_val (de_isk .tuple boot_tuple rfl tx.n_isinstance rfl tx.n_tuple (dv 0)))) (dw_or (dt_cmp (os_ne hu) nx_ne (de_callB cs_len nx_len rfl tx.n_len boot_len (da_cons (dv 0) da_nil)) de_int rfl) (dw_or1 (dt_not (dt_val (de_call (ps := ["value"]) O.is_name hr0 rfl tx.g_is_name tx.u_is_name.kp tx.b_is_name tk (da_cons (de_ix (dv 0) de_int) da_nil))))))))
  (ds_cons (ds_ret de_bl)
   ds_nil)
  ds_nil)
  (ds_cons (ds_ret (de_and (de_isk .tuple boot_tuple rfl tx.n_isinstance rfl tx.n_tuple (de_ix (dv 0) de_int)) (de_and1 (de_cmp (os_eq hu) nx_eq (de_callB cs_len nx_len rfl tx.n_len boot_len (da_cons (de_ix (dv 0) de_int) da_nil)) de_int rfl))))
  ds_nil))
theorem sc_are_fields : FnScope ["value", "item"] ["value"] (defScope st_are_fields) := ⟨rfl, rfl, rfl, by decide +kernel, rfl, by decide +kernel, by decide +kernel⟩
theorem der_are_fields (tx : Txt w K mg A) (ex : Exs P w K mg base A) (O : Oks P w K mg base A j F) : FnOk P w K mg base (L2.CX P w) (j + 3) A.f_are_fields A.d_are_fields ["value"] (spT K mg 1 (defRun 2 (b_are_fields F))) := by
  have S := sc_are_fields
  refine fn_T tx.u_are_fields S fun cdv Ar outer s H E hr tk hp => ?_
  have hr0 := hr.mono (Nat.le_add_right _ _)
  have hr1 := hr.mono (Nat.le_succ _)
  have hr2 := hr.mono (Nat.le_add_left 2 _)
  have hu := hu65 hr
  exact (ds_cons (ds_if (dt_w (dw_or (dt_not (dt_val (de_isk .tuple boot_tuple rfl tx.n_isinstance rfl tx.n_tuple (dv 0)))) (dw_or1 (dt_not (dt_chain os_le os_le nx_le nx_le de_int (de_callB cs_len nx_len rfl tx.n_len boot_len (da_cons (dv 0) da_nil)) de_int)))))
  (ds_cons (ds_ret de_bl)
   ds_nil)
  ds_nil)
  (ds_cons (ds_if (dt_not (dt_val (de_overB (cl_all rfl) nx_all rfl tx.n_all boot_all (dl_lc (own := [("item", 1)]) rfl S.nd (di_e (dv 0)) (blkOk_by rfl) (fun _ _ _ _ _ => (dg_name (i := 1) S.nd rfl (by first | exact Or.inl rfl | exact Or.inr rfl))) (fun _ _ _ _ _ => dts_nil) (fun _ _ _ _ _ => (de_call (ps := ["value"]) O.is_pair hr0 rfl tx.g_is_pair tx.u_is_pair.kp tx.b_is_pair takes0 (da_cons (dv 1) da_nil)))))))
  (ds_cons (ds_ret de_bl)
   ds_nil)
  ds_nil)
  (ds_cons (ds_ret (de_cmp (os_eq hu) nx_eq (de_lenSc (own := [("item", 1)]) rfl S.nd rfl tx.n_len (di_e (dv 0)) (blkOk_by rfl) (fun _ _ _ _ _ => (dg_name (i := 1) S.nd rfl (by first | exact Or.inl rfl | exact Or.inr rfl))) (fun _ _ _ _ _ => dts_nil) (fun _ _ _ _ _ => (de_ix (dv 1) de_int))) (de_callB cs_len nx_len rfl tx.n_len boot_len (da_cons (dv 0) da_nil)) rfl))
  ds_nil)))
theorem sc_is_row : FnScope ["value", "size", "entry"] ["value", "size"] (defScope st_is_row) := ⟨rfl, rfl, rfl, by decide +kernel, rfl, by decide +kernel, by decide +kernel⟩
theorem der_is_row (tx : Txt w K mg A) (ex : Exs P w K mg base A) (O : Oks P w K mg base A j F) : FnOk P w K mg base (L2.CX P w) (j + 3) A.f_is_row A.d_is_row ["value", "size"] (spT K mg 2 (defRun 3 (b_is_row F))) := by
  have S := sc_is_row
  refine fn_T tx.u_is_row S fun cdv Ar outer s H E hr tk hp => ?_
  have hr0 := hr.mono (Nat.le_add_right _ _)
  have hr1 := hr.mono (Nat.le_succ _)
  have hr2 := hr.mono (Nat.le_add_left 2 _)
  have hu := hu65 hr
  exact (ds_cons (ds_if (dt_w (dw_or (dt_not (dt_val (de_isk .tuple boot_tuple rfl tx.n_isinstance rfl tx.n_tuple (dv 0)))) (dw_or1 (dt_cmp (os_ne hu) nx_ne (de_callB cs_len nx_len rfl tx.n_len boot_len (da_cons (dv 0) da_nil)) (dv 1) rfl))))
  (ds_cons (ds_ret de_bl)
   ds_nil)
  ds_nil)
  (ds_cons (ds_ret (de_overB (cl_all rfl) nx_all rfl tx.n_all boot_all (dl_lc (own := [("entry", 2)]) rfl S.nd (di_e (dv 0)) (blkOk_by rfl) (fun _ _ _ _ _ => (dg_name (i := 2) S.nd rfl (by first | exact Or.inl rfl | exact Or.inr rfl))) (fun _ _ _ _ _ => dts_nil) (fun _ _ _ _ _ => (de_or (de_cmp os_is nx_is (dv 2) de_non rfl) (de_or1 (de_call (ps := ["value"]) O.is_name hr0 rfl tx.g_is_name tx.u_is_name.kp tx.b_is_name takes0 (da_cons (dv 2) da_nil))))))))
  ds_nil))
theorem sc_is_near : FnScope ["value", "looks", "size", "row"] ["value", "looks", "size"] (defScope st_is_near) := ⟨rfl, rfl, rfl, by decide +kernel, rfl, by decide +kernel, by decide +kernel⟩
theorem der_is_near (tx : Txt w K mg A) (ex : Exs P w K mg base A) (O : Oks P w K mg base A j F) : FnOk P w K mg base (L2.CX P w) (j + 3) A.f_is_near A.d_is_near ["value", "looks", "size"] (spT K mg 3 (defRun 4 (b_is_near F))) := by
  have S := sc_is_near
  refine fn_T tx.u_is_near S fun cdv Ar outer s H E hr tk hp => ?_
  have hr0 := hr.mono (Nat.le_add_right _ _)
  have hr1 := hr.mono (Nat.le_succ _)
  have hr2 := hr.mono (Nat.le_add_left 2 _)
  have hu := hu65 hr
  exact (ds_cons (ds_if (dt_cmp os_is nx_is (dv 1) de_non rfl)
  (ds_cons (ds_ret (de_call (ps := ["value", "size"]) O.is_row hr0 rfl tx.g_is_row tx.u_is_row.kp tx.b_is_row tk (da_cons (dv 0) (da_cons (dv 2) da_nil))))
   ds_nil)
  ds_nil)
  (ds_cons (ds_if (dt_w (dw_or (dt_not (dt_val (de_isk .tuple boot_tuple rfl tx.n_isinstance rfl tx.n_tuple (dv 0)))) (dw_or1 (dt_cmp (os_ne hu) nx_ne (de_callB cs_len nx_len rfl tx.n_len boot_len (da_cons (dv 0) da_nil)) (dv 2) rfl))))
  (ds_cons (ds_ret de_bl)
   ds_nil)
  ds_nil)
  (ds_cons (ds_ret (de_overB (cl_all rfl) nx_all rfl tx.n_all boot_all (dl_lc (own := [("row", 3)]) rfl S.nd (di_e (dv 0)) (blkOk_by rfl) (fun _ _ _ _ _ => (dg_name (i := 3) S.nd rfl (by first | exact Or.inl rfl | exact Or.inr rfl))) (fun _ _ _ _ _ => dts_nil) (fun _ _ _ _ _ => (de_call (ps := ["value", "size"]) O.is_row hr0 rfl tx.g_is_row tx.u_is_row.kp tx.b_is_row takes0 (da_cons (dv 3) (da_cons (dv 2) da_nil)))))))
  ds_nil)))
theorem sc_check_field : FnScope ["name", "parts", "words", "names", "first", "looks", "near", "far"] ["name", "parts", "words", "names"] (defScope st_check_field) := ⟨rfl, rfl, rfl, by decide +kernel, rfl, by decide +kernel, by decide +kernel⟩
theorem der_check_field (tx : Txt w K mg A) (ex : Exs P w K mg base A) (O : Oks P w K mg base A j F) : FnOk P w K mg base (L2.CX P w) (j + 3) A.f_check_field A.d_check_field ["name", "parts", "words", "names"] (spT K mg 4 (defRun 8 (b_check_field F))) := by
  have S := sc_check_field
  refine fn_T tx.u_check_field S fun cdv Ar outer s H E hr tk hp => ?_
  have hr0 := hr.mono (Nat.le_add_right _ _)
  have hr1 := hr.mono (Nat.le_succ _)
  have hr2 := hr.mono (Nat.le_add_left 2 _)
  have hu := hu65 hr
  exact (ds_cons (ds_asg (dv 1) (dg_tup rfl (dgs_cons (dg_name (i := 4) S.nd rfl (by first | exact Or.inl rfl | exact Or.inr rfl)) (dgs_cons (dg_name (i := 5) S.nd rfl (by first | exact Or.inl rfl | exact Or.inr rfl)) (dgs_cons (dg_name (i := 6) S.nd rfl (by first | exact Or.inl rfl | exact Or.inr rfl)) (dgs_cons (dg_name (i := 7) S.nd rfl (by first | exact Or.inl rfl | exact Or.inr rfl)) dgs_nil))))))
  (ds_cons (ds_if (dt_not (dt_val (de_call (ps := ["value", "names"]) O.is_one_of hr0 rfl tx.g_is_one_of tx.u_is_one_of.kp tx.b_is_one_of tk (da_cons (dv 4) (da_cons (dv 2) da_nil)))))
  (ds_cons (ds_raise2 rfl tk tx.ox_InvalidForm tx.xi_InvalidForm tx.xt_InvalidForm ex.F_InvalidForm hr2 tx.b_InvalidForm rfl tx.g_InvalidForm (da_cons (de_str (by decide +kernel)) (da_cons (dv 0) da_nil)))
   ds_nil)
  ds_nil)
  (ds_cons (ds_if (dt_w (dw_and (dt_cmp os_isnot nx_isnot (dv 5) de_non rfl) (dw_and1 (dt_w (dw_or (dt_not (dt_val (de_call (ps := ["value", "names"]) O.is_one_of hr0 rfl tx.g_is_one_of tx.u_is_one_of.kp tx.b_is_one_of tk (da_cons (dv 5) (da_cons (dv 3) da_nil))))) (dw_or1 (dt_cmp (os_eq hu) nx_eq (dv 5) (dv 0) rfl)))))))
  (ds_cons (ds_raise2 rfl tk tx.ox_InvalidForm tx.xi_InvalidForm tx.xt_InvalidForm ex.F_InvalidForm hr2 tx.b_InvalidForm rfl tx.g_InvalidForm (da_cons (de_str (by decide +kernel)) (da_cons (dv 0) da_nil)))
   ds_nil)
  ds_nil)
  (ds_cons (ds_if (dt_not (dt_val (de_call (ps := ["value", "looks", "size"]) O.is_near hr0 rfl tx.g_is_near tx.u_is_near.kp tx.b_is_near tk (da_cons (dv 6) (da_cons (dv 5) (da_cons (de_callB cs_len nx_len rfl tx.n_len boot_len (da_cons (dv 2) da_nil)) da_nil))))))
  (ds_cons (ds_raise2 rfl tk tx.ox_InvalidForm tx.xi_InvalidForm tx.xt_InvalidForm ex.F_InvalidForm hr2 tx.b_InvalidForm rfl tx.g_InvalidForm (da_cons (de_str (by decide +kernel)) (da_cons (dv 0) da_nil)))
   ds_nil)
  ds_nil)
  (ds_cons (ds_if (dt_w (dw_and (dt_cmp os_isnot nx_isnot (dv 7) de_non rfl) (dw_and1 (dt_not (dt_val (de_call (ps := ["value", "size"]) O.is_row hr0 rfl tx.g_is_row tx.u_is_row.kp tx.b_is_row tk (da_cons (dv 7) (da_cons (de_callB cs_len nx_len rfl tx.n_len boot_len (da_cons (dv 2) da_nil)) da_nil))))))))
  (ds_cons (ds_raise2 rfl tk tx.ox_InvalidForm tx.xi_InvalidForm tx.xt_InvalidForm ex.F_InvalidForm hr2 tx.b_InvalidForm rfl tx.g_InvalidForm (da_cons (de_str (by decide +kernel)) (da_cons (dv 0) da_nil)))
   ds_nil)
  ds_nil)
  ds_nil)))))
theorem sc_Form_init : FnScope ["self", "words", "fields", "room", "names", "item", "name", "parts"] ["self", "words", "fields", "room"] (defScope st_Form_init) := ⟨rfl, rfl, rfl, by decide +kernel, rfl, by decide +kernel, by decide +kernel⟩
theorem der_Form_init (tx : Txt w K mg A) (ex : Exs P w K mg base A) (O : Oks P w K mg base A j F) : FnOk P w K mg base (L2.CX P w) (j + 3) A.f_Form_init A.d_Form_init ["self", "words", "fields", "room"] (spT K mg 4 (defRun 8 (b_Form_init F))) := by
  have S := sc_Form_init
  refine fn_TD tx.u_Form_init S fun cdv Ar outer s H E hr tk hp => ?_
  have hr0 := hr.mono (Nat.le_add_right _ _)
  have hr1 := hr.mono (Nat.le_succ _)
  have hr2 := hr.mono (Nat.le_add_left 2 _)
  have hu := hu65 hr
  exact (ds_cons (ds_if (dt_not (dt_val (de_call (ps := ["value", "least", "most"]) O.are_names hr0 rfl tx.g_are_names tx.u_are_names.kp tx.b_are_names tk (da_cons (dv 1) (da_cons de_int (da_cons de_int da_nil))))))
  (ds_cons (ds_raise2 rfl tk tx.ox_InvalidForm tx.xi_InvalidForm tx.xt_InvalidForm ex.F_InvalidForm hr2 tx.b_InvalidForm rfl tx.g_InvalidForm (da_cons (de_str (by decide +kernel)) (da_cons (de_str (by decide +kernel)) da_nil)))
   ds_nil)
  ds_nil)
  (ds_cons (ds_if (dt_not (dt_val (de_call (ps := ["value"]) O.are_fields hr0 rfl tx.g_are_fields tx.u_are_fields.kp tx.b_are_fields tk (da_cons (dv 2) da_nil))))
  (ds_cons (ds_raise2 rfl tk tx.ox_InvalidForm tx.xi_InvalidForm tx.xt_InvalidForm ex.F_InvalidForm hr2 tx.b_InvalidForm rfl tx.g_InvalidForm (da_cons (de_str (by decide +kernel)) (da_cons (de_str (by decide +kernel)) da_nil)))
   ds_nil)
  ds_nil)
  (ds_cons (ds_setLc (i := 4) (own := [("item", 5)]) rfl S.nd rfl rfl (sw_true rfl rfl rfl (by decide +kernel)) (di_e (dv 2)) (blkOk_by rfl) (fun _ _ _ _ _ => (dg_name (i := 5) S.nd rfl (by first | exact Or.inl rfl | exact Or.inr rfl))) (fun _ _ _ _ _ => dts_nil) (fun _ _ _ _ _ => (de_ix (dv 5) de_int)))
  (ds_cons (ds_for hp rfl (di_e (dv 2)) (dg_tup rfl (dgs_cons (dg_name (i := 6) S.nd rfl (by first | exact Or.inl rfl | exact Or.inr rfl)) (dgs_cons (dg_name (i := 7) S.nd rfl (by first | exact Or.inl rfl | exact Or.inr rfl)) dgs_nil)))
  (ds_cons (ds_expr (de_call (ps := ["name", "parts", "words", "names"]) O.check_field hr0 rfl tx.g_check_field tx.u_check_field.kp tx.b_check_field tk (da_cons (dv 6) (da_cons (dv 7) (da_cons (dv 1) (da_cons (dv 4) da_nil))))))
   ds_nil))
  (ds_cons (ds_if (dt_w (dw_or (dt_not (dt_val (de_call (ps := ["value"]) O.is_integer hr0 rfl tx.g_is_integer tx.u_is_integer.kp tx.b_is_integer tk (da_cons (dv 3) da_nil)))) (dw_or1 (dt_not (dt_chain os_le os_le nx_le nx_le de_int (dv 3) de_int)))))
  (ds_cons (ds_raise2 rfl tk tx.ox_InvalidForm tx.xi_InvalidForm tx.xt_InvalidForm ex.F_InvalidForm hr2 tx.b_InvalidForm rfl tx.g_InvalidForm (da_cons (de_str (by decide +kernel)) (da_cons (de_str (by decide +kernel)) da_nil)))
   ds_nil)
  ds_nil)
  (ds_cons (ds_fld tx.cs (dv 0) (dv 1))
  (ds_cons (ds_fld tx.cs (dv 0) (dv 2))
  (ds_cons (ds_fld tx.cs (dv 0) (dv 3))
  ds_nil))))))))
theorem sc_Form___eq__ : FnScope ["self", "other"] ["self", "other"] (defScope st_Form___eq__) := ⟨rfl, rfl, rfl, by decide +kernel, rfl, by decide +kernel, by decide +kernel⟩
theorem der_Form___eq__ (tx : Txt w K mg A) (ex : Exs P w K mg base A) (O : Oks P w K mg base A j F) : FnOk P w K mg base (L2.CX P w) (j + 3) A.f_Form___eq__ A.d_Form___eq__ ["self", "other"] (spT K mg 2 (defRun 2 (b_Form___eq__ F))) := by
  have S := sc_Form___eq__
  refine fn_T tx.u_Form___eq__ S fun cdv Ar outer s H E hr tk hp => ?_
  have hr0 := hr.mono (Nat.le_add_right _ _)
  have hr1 := hr.mono (Nat.le_succ _)
  have hr2 := hr.mono (Nat.le_add_left 2 _)
  have hu := hu65 hr
  exact (ds_cons (ds_if (dt_not (dt_val (de_isO tx.io_Form rfl tx.n_isinstance rfl tx.g_Form (dv 1))))
  (ds_cons (ds_ret de_bl)
   ds_nil)
  ds_nil)
  (ds_cons (ds_ret (de_cmp (os_eq hu) nx_eq (de_tup (da_cons (de_fld tx.cs (dv 0)) (da_cons (de_fld tx.cs (dv 0)) (da_cons (de_fld tx.cs (dv 0)) da_nil)))) (de_tup (da_cons (de_fld tx.cs (dv 1)) (da_cons (de_fld tx.cs (dv 1)) (da_cons (de_fld tx.cs (dv 1)) da_nil)))) rfl))
  ds_nil))
theorem sc_Form_field_names : FnScope ["self", "item"] ["self"] (defScope st_Form_field_names) := ⟨rfl, rfl, rfl, by decide +kernel, rfl, by decide +kernel, by decide +kernel⟩
theorem der_Form_field_names (tx : Txt w K mg A) (ex : Exs P w K mg base A) (O : Oks P w K mg base A j F) : FnOk P w K mg base (L2.CX P w) (j + 3) A.f_Form_field_names A.d_Form_field_names ["self"] (spT K mg 1 (defRun 2 (b_Form_field_names F))) := by
  have S := sc_Form_field_names
  refine fn_T tx.u_Form_field_names S fun cdv Ar outer s H E hr tk hp => ?_
  have hr0 := hr.mono (Nat.le_add_right _ _)
  have hr1 := hr.mono (Nat.le_succ _)
  have hr2 := hr.mono (Nat.le_add_left 2 _)
  have hu := hu65 hr
  exact (ds_cons (ds_ret (de_overTy cl_tup nx_tup rfl tx.n_tuple boot_tuple (dl_lc (own := [("item", 1)]) rfl S.nd (di_e (de_fld tx.cs (dv 0))) (blkOk_by rfl) (fun _ _ _ _ _ => (dg_name (i := 1) S.nd rfl (by first | exact Or.inl rfl | exact Or.inr rfl))) (fun _ _ _ _ _ => dts_nil) (fun _ _ _ _ _ => (de_ix (dv 1) de_int)))))
  ds_nil)
theorem sc_Form_parts_of : FnScope ["self", "name", "known_name", "parts"] ["self", "name"] (defScope st_Form_parts_of) := ⟨rfl, rfl, rfl, by decide +kernel, rfl, by decide +kernel, by decide +kernel⟩
theorem der_Form_parts_of (tx : Txt w K mg A) (ex : Exs P w K mg base A) (O : Oks P w K mg base A j F) : FnOk P w K mg base (L2.CX P w) (j + 3) A.f_Form_parts_of A.d_Form_parts_of ["self", "name"] (spT K mg 2 (defRun 4 (b_Form_parts_of F))) := by
  have S := sc_Form_parts_of
  refine fn_T tx.u_Form_parts_of S fun cdv Ar outer s H E hr tk hp => ?_
  have hr0 := hr.mono (Nat.le_add_right _ _)
  have hr1 := hr.mono (Nat.le_succ _)
  have hr2 := hr.mono (Nat.le_add_left 2 _)
  have hu := hu65 hr
  exact (ds_cons (ds_for hp rfl (di_e (de_fld tx.cs (dv 0))) (dg_tup rfl (dgs_cons (dg_name (i := 2) S.nd rfl (by first | exact Or.inl rfl | exact Or.inr rfl)) (dgs_cons (dg_name (i := 3) S.nd rfl (by first | exact Or.inl rfl | exact Or.inr rfl)) dgs_nil)))
  (ds_cons (ds_if (dt_w (dw_and (dt_val (de_isk .str boot_str rfl tx.n_isinstance rfl tx.n_str (dv 1))) (dw_and1 (dt_cmp (os_eq hu) nx_eq (dv 2) (dv 1) rfl))))
   (ds_cons (ds_ret (dv 3))
    ds_nil)
   ds_nil)
   ds_nil))
  (ds_cons (ds_raise1 rfl tk tx.ox_UnknownField tx.xi_UnknownField tx.xt_UnknownField ex.F_UnknownField hr2 tx.b_UnknownField rfl tx.g_UnknownField (da_cons (dv 1) da_nil))
  ds_nil))
theorem sc_Form_readers : FnScope ["self", "name", "item"] ["self", "name"] (defScope st_Form_readers) := ⟨rfl, rfl, rfl, by decide +kernel, rfl, by decide +kernel, by decide +kernel⟩
theorem der_Form_readers (tx : Txt w K mg A) (ex : Exs P w K mg base A) (O : Oks P w K mg base A j F) : FnOk P w K mg base (L2.CX P w) (j + 3) A.f_Form_readers A.d_Form_readers ["self", "name"] (spT K mg 2 (defRun 3 (b_Form_readers F))) := by
  have S := sc_Form_readers
  refine fn_T tx.u_Form_readers S fun cdv Ar outer s H E hr tk hp => ?_
  have hr0 := hr.mono (Nat.le_add_right _ _)
  have hr1 := hr.mono (Nat.le_succ _)
  have hr2 := hr.mono (Nat.le_add_left 2 _)
  have hu := hu65 hr
  exact (ds_cons (ds_expr (de_meth (ps := ["self", "name"]) tx.g_Form tx.cc_Form tx.h_Form_parts_of O.Form_parts_of hr0 tx.b_Form_parts_of tk (dv 0) (da_cons (dv 1) da_nil)))
  (ds_cons (ds_ret (de_overTy cl_tup nx_tup rfl tx.n_tuple boot_tuple (dl_lc (own := [("item", 2)]) rfl S.nd (di_e (de_fld tx.cs (dv 0))) (blkOk_by rfl) (fun _ _ _ _ _ => (dg_name (i := 2) S.nd rfl (by first | exact Or.inl rfl | exact Or.inr rfl))) (fun _ _ _ _ _ => (dts_one (dt_cmp (os_eq hu) nx_eq (de_ix (de_ix (dv 2) de_int) de_int) (dv 1) rfl))) (fun _ _ _ _ _ => (de_ix (dv 2) de_int)))))
  ds_nil))
theorem sc__law_mix : FnScope ["_law_value", "_law_k", "_law_number"] ["_law_value", "_law_k"] (defScope st__law_mix) := ⟨rfl, rfl, rfl, by decide +kernel, rfl, by decide +kernel, by decide +kernel⟩
theorem der__law_mix (tx : Txt w K mg A) (ex : Exs P w K mg base A) (O : Oks P w K mg base A j F) : FnOk P w K mg base (L2.CX P w) (j + 3) A.f__law_mix A.d__law_mix ["_law_value", "_law_k"] (spT K mg 2 (defRun 3 (b__law_mix F))) := by
  have S := sc__law_mix
  refine fn_T tx.u__law_mix S fun cdv Ar outer s H E hr tk hp => ?_
  have hr0 := hr.mono (Nat.le_add_right _ _)
  have hr1 := hr.mono (Nat.le_succ _)
  have hr2 := hr.mono (Nat.le_add_left 2 _)
  have hu := hu65 hr
  exact (ds_cons (ds_set (i := 2) S.nd rfl (by first | exact Or.inl rfl | exact Or.inr rfl) (de_op os_mod nx_mod (de_op os_mul nx_mul (de_op os_add nx_add (de_op os_add nx_add (de_callTy cs_int nx_bint rfl tx.n_int boot_int (da_cons (dv 0) da_nil)) (de_op os_mul nx_mul de_int (dv 1))) de_int) de_int) de_int))
  (ds_cons (ds_set (i := 2) S.nd rfl (by first | exact Or.inl rfl | exact Or.inr rfl) (de_op os_mod nx_mod (de_op os_mul nx_mul (dv 2) (de_op os_add nx_add (de_op os_div nx_div (dv 2) de_int) de_int)) de_int))
  (ds_cons (ds_ret (de_op os_mod nx_mod (de_op os_mul nx_mul (dv 2) (de_op os_add nx_add (de_op os_div nx_div (dv 2) de_int) de_int)) de_int))
  ds_nil)))
theorem sc__law_box : FnScope ["_law_script", "_law_cells", "_law_cell", "_law_seed"] ["_law_script"] (defScope st__law_box) := ⟨rfl, rfl, rfl, by decide +kernel, rfl, by decide +kernel, by decide +kernel⟩
theorem der__law_box (tx : Txt w K mg A) (ex : Exs P w K mg base A) (O : Oks P w K mg base A j F) : FnOk P w K mg base (L2.CX P w) (j + 3) A.f__law_box A.d__law_box ["_law_script"] (spT K mg 1 (defRun 4 (b__law_box F))) := by
  have S := sc__law_box
  refine fn_T tx.u__law_box S fun cdv Ar outer s H E hr tk hp => ?_
  have hr0 := hr.mono (Nat.le_add_right _ _)
  have hr1 := hr.mono (Nat.le_succ _)
  have hr2 := hr.mono (Nat.le_add_left 2 _)
  have hu := hu65 hr
  exact (ds_cons (ds_setLc (i := 1) (own := [("_law_cell", 2)]) rfl S.nd rfl rfl (sw_true rfl rfl rfl (by decide +kernel)) (di_e (de_sl (dv 0) do_none (do_some de_int))) (blkOk_by rfl) (fun _ _ _ _ _ => (dg_name (i := 2) S.nd rfl (by first | exact Or.inl rfl | exact Or.inr rfl))) (fun _ _ _ _ _ => dts_nil) (fun _ _ _ _ _ => (de_callTy cs_int nx_bint rfl tx.n_int boot_int (da_cons (dv 2) da_nil))))
  (ds_cons (ds_set (i := 3) S.nd rfl (by first | exact Or.inl rfl | exact Or.inr rfl) de_int)
  (ds_cons (ds_for hp rfl (di_e (dv 1)) (dg_name (i := 2) S.nd rfl (by first | exact Or.inl rfl | exact Or.inr rfl))
  (ds_cons (ds_set (i := 3) S.nd rfl (by first | exact Or.inl rfl | exact Or.inr rfl) (de_call (ps := ["_law_value", "_law_k"]) O._law_mix hr0 rfl tx.g__law_mix tx.u__law_mix.kp tx.b__law_mix tk (da_cons (de_op os_add nx_add (dv 3) (dv 2)) (da_cons de_int da_nil))))
   ds_nil))
  (ds_cons (ds_ret (de_lst (da_cons (dv 1) (da_cons de_int (da_cons de_int (da_cons (dv 3) (da_cons de_int da_nil)))))))
  ds_nil))))
theorem sc__law_draw : FnScope ["_law_box_here", "_law_many", "_law_cell", "_law_digit"] ["_law_box_here", "_law_many"] (defScope st__law_draw) := ⟨rfl, rfl, rfl, by decide +kernel, rfl, by decide +kernel, by decide +kernel⟩
theorem der__law_draw (tx : Txt w K mg A) (ex : Exs P w K mg base A) (O : Oks P w K mg base A j F) : FnOk P w K mg base (L2.CX P w) (j + 3) A.f__law_draw A.d__law_draw ["_law_box_here", "_law_many"] (spT K mg 2 (defRun 4 (b__law_draw F))) := by
  have S := sc__law_draw
  refine fn_T tx.u__law_draw S fun cdv Ar outer s H E hr tk hp => ?_
  have hr0 := hr.mono (Nat.le_add_right _ _)
  have hr1 := hr.mono (Nat.le_succ _)
  have hr2 := hr.mono (Nat.le_add_left 2 _)
  have hu := hu65 hr
  exact (ds_cons (ds_sub (dv 0) de_int (de_op os_add nx_add (de_ix (dv 0) de_int) de_int))
  (ds_cons (ds_if (dt_w (dw_and (dt_cmp (os_eq hu) nx_eq (de_ix (dv 0) de_int) de_int rfl) (dw_and1 (dt_cmp os_lt nx_lt (de_ix (dv 0) de_int) (de_callB cs_len nx_len rfl tx.n_len boot_len (da_cons (de_ix (dv 0) de_int) da_nil)) rfl))))
  (ds_cons (ds_set (i := 2) S.nd rfl (by first | exact Or.inl rfl | exact Or.inr rfl) (de_ix (de_ix (dv 0) de_int) (de_ix (dv 0) de_int)))
   (ds_cons (ds_sub (dv 0) de_int (de_op os_add nx_add (de_ix (dv 0) de_int) de_int))
   (ds_cons (ds_if (dt_cmp os_lt nx_lt (dv 2) (de_op os_pow nx_pow de_int de_int) rfl)
   (ds_cons (ds_ret (de_op os_mod nx_mod (de_callTy cs_int nx_bint rfl tx.n_int boot_int (da_cons (de_call (ps := ["_law_value", "_law_k"]) O._law_mix hr0 rfl tx.g__law_mix tx.u__law_mix.kp tx.b__law_mix tk (da_cons (dv 2) (da_cons (de_ix (dv 0) de_int) da_nil))) da_nil)) (dv 1)))
    ds_nil)
   ds_nil)
   (ds_cons (ds_sub (dv 0) de_int (dv 2))
   ds_nil))))
  ds_nil)
  (ds_cons (ds_if (dt_cmp (os_eq hu) nx_eq (de_ix (dv 0) de_int) de_int rfl)
  (ds_cons (ds_ret (de_op os_mod nx_mod (de_callTy cs_int nx_bint rfl tx.n_int boot_int (da_cons (de_call (ps := ["_law_value", "_law_k"]) O._law_mix hr0 rfl tx.g__law_mix tx.u__law_mix.kp tx.b__law_mix tk (da_cons (de_ix (dv 0) de_int) (da_cons (de_ix (dv 0) de_int) da_nil))) da_nil)) (dv 1)))
   ds_nil)
  ds_nil)
  (ds_cons (ds_set (i := 3) S.nd rfl (by first | exact Or.inl rfl | exact Or.inr rfl) (de_op os_mod nx_mod (de_callTy cs_int nx_bint rfl tx.n_int boot_int (da_cons (de_ix (dv 0) de_int) da_nil)) (dv 1)))
  (ds_cons (ds_sub (dv 0) de_int (de_op os_div nx_div (de_callTy cs_int nx_bint rfl tx.n_int boot_int (da_cons (de_ix (dv 0) de_int) da_nil)) (dv 1)))
  (ds_cons (ds_ret (dv 3))
  ds_nil))))))
theorem sc__law_same : FnScope ["_law_told", "_law_due", "_law_k"] ["_law_told", "_law_due"] (defScope st__law_same) := ⟨rfl, rfl, rfl, by decide +kernel, rfl, by decide +kernel, by decide +kernel⟩
theorem der__law_same (tx : Txt w K mg A) (ex : Exs P w K mg base A) (O : Oks P w K mg base A j F) : FnOk P w K mg base (L2.CX P w) (j + 3) A.f__law_same A.d__law_same ["_law_told", "_law_due"] (spT K mg 2 (defRun 3 (b__law_same F))) := by
  have S := sc__law_same
  refine fn_T tx.u__law_same S fun cdv Ar outer s H E hr tk hp => ?_
  have hr0 := hr.mono (Nat.le_add_right _ _)
  have hr1 := hr.mono (Nat.le_succ _)
  have hr2 := hr.mono (Nat.le_add_left 2 _)
  have hu := hu65 hr
  exact (ds_cons (ds_if (dt_w (dw_or (dt_val (de_isk .tuple boot_tuple rfl tx.n_isinstance rfl tx.n_tuple (dv 1))) (dw_or1 (dt_val (de_isk .list boot_list rfl tx.n_isinstance rfl tx.n_list (dv 1))))))
  (ds_cons (ds_if (dt_w (dw_or (dt_cmp (os_ne hu) nx_ne (de_isk .tuple boot_tuple rfl tx.n_isinstance rfl tx.n_tuple (dv 1)) (de_isk .tuple boot_tuple rfl tx.n_isinstance rfl tx.n_tuple (dv 0)) rfl) (dw_or1 (dt_cmp (os_ne hu) nx_ne (de_isk .list boot_list rfl tx.n_isinstance rfl tx.n_list (dv 1)) (de_isk .list boot_list rfl tx.n_isinstance rfl tx.n_list (dv 0)) rfl))))
   (ds_cons (ds_ret de_bl)
    ds_nil)
   ds_nil)
   (ds_cons (ds_if (dt_cmp (os_ne hu) nx_ne (de_callB cs_len nx_len rfl tx.n_len boot_len (da_cons (dv 0) da_nil)) (de_callB cs_len nx_len rfl tx.n_len boot_len (da_cons (dv 1) da_nil)) rfl)
   (ds_cons (ds_ret de_bl)
    ds_nil)
   ds_nil)
   (ds_cons (ds_ret (de_overB (cl_all rfl) nx_all rfl tx.n_all boot_all (dl_lc (own := [("_law_k", 2)]) rfl S.nd (di_range1 rfl tx.n_range (da_cons (de_callB cs_len nx_len rfl tx.n_len boot_len (da_cons (dv 1) da_nil)) da_nil)) (blkOk_by rfl) (fun _ _ _ _ _ => (dg_name (i := 2) S.nd rfl (by first | exact Or.inl rfl | exact Or.inr rfl))) (fun _ _ _ _ _ => dts_nil) (fun _ _ _ _ _ => (de_call (ps := ["_law_told", "_law_due"]) O._law_same hr0 rfl tx.g__law_same tx.u__law_same.kp tx.b__law_same takes0 (da_cons (de_ix (dv 0) (dv 2)) (da_cons (de_ix (dv 1) (dv 2)) da_nil)))))))
   ds_nil)))
  ds_nil)
  (ds_cons (ds_if (dt_cmp os_is nx_is (dv 1) de_non rfl)
  (ds_cons (ds_ret (de_cmp os_is nx_is (dv 0) de_non rfl))
   ds_nil)
  ds_nil)
  (ds_cons (ds_if (dt_w (dw_or (dt_val (de_isk .bool boot_bool rfl tx.n_isinstance rfl tx.n_bool (dv 1))) (dw_or1 (dt_val (de_isk .bool boot_bool rfl tx.n_isinstance rfl tx.n_bool (dv 0))))))
  (ds_cons (ds_ret (de_and (de_isk .bool boot_bool rfl tx.n_isinstance rfl tx.n_bool (dv 1)) (de_and (de_isk .bool boot_bool rfl tx.n_isinstance rfl tx.n_bool (dv 0)) (de_and1 (de_cmp (os_eq hu) nx_eq (dv 1) (dv 0) rfl)))))
   ds_nil)
  ds_nil)
  (ds_cons (ds_if (dt_val (de_isk .int boot_int rfl tx.n_isinstance rfl tx.n_int (dv 1)))
  (ds_cons (ds_ret (de_and (de_isk .int boot_int rfl tx.n_isinstance rfl tx.n_int (dv 0)) (de_and1 (de_cmp (os_eq hu) nx_eq (dv 0) (dv 1) rfl))))
   ds_nil)
  ds_nil)
  (ds_cons (ds_ret (de_and (de_isk .str boot_str rfl tx.n_isinstance rfl tx.n_str (dv 0)) (de_and1 (de_cmp (os_eq hu) nx_eq (dv 0) (dv 1) rfl))))
  ds_nil)))))
theorem sc__law_names : FnScope ["_law_box_here", "_law_many", "_law_names_here", "_law_k", "_law_word", "_law_at", "_law_free", "_law_sign"] ["_law_box_here", "_law_many"] (defScope st__law_names) := ⟨rfl, rfl, rfl, by decide +kernel, rfl, by decide +kernel, by decide +kernel⟩
theorem der__law_names (tx : Txt w K mg A) (ex : Exs P w K mg base A) (O : Oks P w K mg base A j F) : FnOk P w K mg base (L2.CX P w) (j + 3) A.f__law_names A.d__law_names ["_law_box_here", "_law_many"] (spT K mg 2 (defRun 8 (b__law_names F))) := by
  have S := sc__law_names
  refine fn_T tx.u__law_names S fun cdv Ar outer s H E hr tk hp => ?_
  have hr0 := hr.mono (Nat.le_add_right _ _)
  have hr1 := hr.mono (Nat.le_succ _)
  have hr2 := hr.mono (Nat.le_add_left 2 _)
  have hu := hu65 hr
  exact (ds_cons (ds_set (i := 2) S.nd rfl (by first | exact Or.inl rfl | exact Or.inr rfl) (de_lst da_nil))
  (ds_cons (ds_for hp rfl (di_range1 rfl tx.n_range (da_cons (dv 1) da_nil)) (dg_name (i := 3) S.nd rfl (by first | exact Or.inl rfl | exact Or.inr rfl))
  (ds_cons (ds_set (i := 4) S.nd rfl (by first | exact Or.inl rfl | exact Or.inr rfl) (de_str (by decide +kernel)))
   (ds_cons (ds_for hp rfl (di_range1 rfl tx.n_range (da_cons (de_op os_add nx_add de_int (de_call (ps := ["_law_box_here", "_law_many"]) O._law_draw hr0 rfl tx.g__law_draw tx.u__law_draw.kp tx.b__law_draw tk (da_cons (dv 0) (da_cons de_int da_nil)))) da_nil)) (dg_name (i := 5) S.nd rfl (by first | exact Or.inl rfl | exact Or.inr rfl))
   (ds_cons (ds_set (i := 4) S.nd rfl (by first | exact Or.inl rfl | exact Or.inr rfl) (de_op os_add nx_add (dv 4) (de_ix (de_str (by decide +kernel)) (de_call (ps := ["_law_box_here", "_law_many"]) O._law_draw hr0 rfl tx.g__law_draw tx.u__law_draw.kp tx.b__law_draw tk (da_cons (dv 0) (da_cons de_int da_nil))))))
    ds_nil))
   (ds_cons (ds_if (dt_cmp (os_in hu) nx_in (dv 4) (dv 2) rfl)
   (ds_cons (ds_setLc (i := 6) (own := [("_law_sign", 7)]) rfl S.nd rfl rfl (sw_true rfl rfl rfl (by decide +kernel)) (di_e (de_str (by decide +kernel))) (blkOk_by rfl) (fun _ _ _ _ _ => (dg_name (i := 7) S.nd rfl (by first | exact Or.inl rfl | exact Or.inr rfl))) (fun _ _ _ _ _ => (dts_one (dt_cmp (os_notin hu) nx_notin (de_op os_add nx_add (de_sl (dv 4) do_none (do_some de_int)) (dv 7)) (dv 2) rfl))) (fun _ _ _ _ _ => (de_op os_add nx_add (de_sl (dv 4) do_none (do_some de_int)) (dv 7))))
    (ds_cons (ds_set (i := 4) S.nd rfl (by first | exact Or.inl rfl | exact Or.inr rfl) (de_ix (dv 6) de_int))
    ds_nil))
   ds_nil)
   (ds_cons (ds_expr (de_mt ms_append nx_append PySem.F.plainAttrs_list PySem.F.slot_list_append PySem.F.type_list_append (dv 2) (da_cons (dv 4) da_nil)))
   ds_nil)))))
  (ds_cons (ds_ret (dv 2))
  ds_nil)))
theorem sc__law_entries : FnScope ["_law_box_here", "_law_notes", "_law_size", "_law_menu", "_law_k"] ["_law_box_here", "_law_notes", "_law_size"] (defScope st__law_entries) := ⟨rfl, rfl, rfl, by decide +kernel, rfl, by decide +kernel, by decide +kernel⟩
theorem der__law_entries (tx : Txt w K mg A) (ex : Exs P w K mg base A) (O : Oks P w K mg base A j F) : FnOk P w K mg base (L2.CX P w) (j + 3) A.f__law_entries A.d__law_entries ["_law_box_here", "_law_notes", "_law_size"] (spT K mg 3 (defRun 5 (b__law_entries F))) := by
  have S := sc__law_entries
  refine fn_T tx.u__law_entries S fun cdv Ar outer s H E hr tk hp => ?_
  have hr0 := hr.mono (Nat.le_add_right _ _)
  have hr1 := hr.mono (Nat.le_succ _)
  have hr2 := hr.mono (Nat.le_add_left 2 _)
  have hu := hu65 hr
  exact (ds_cons (ds_set (i := 3) S.nd rfl (by first | exact Or.inl rfl | exact Or.inr rfl) (de_lst (da_cons de_non (da_cons de_non (da_cons (de_ix (dv 1) de_int) (da_cons (de_ix (dv 1) de_int) da_nil))))))
  (ds_cons (ds_ret (de_overTy cl_tup nx_tup rfl tx.n_tuple boot_tuple (dl_lc (own := [("_law_k", 4)]) rfl S.nd (di_range1 rfl tx.n_range (da_cons (dv 2) da_nil)) (blkOk_by rfl) (fun _ _ _ _ _ => (dg_name (i := 4) S.nd rfl (by first | exact Or.inl rfl | exact Or.inr rfl))) (fun _ _ _ _ _ => dts_nil) (fun _ _ _ _ _ => (de_ix (dv 3) (de_call (ps := ["_law_box_here", "_law_many"]) O._law_draw hr0 rfl tx.g__law_draw tx.u__law_draw.kp tx.b__law_draw takes0 (da_cons (dv 0) (da_cons de_int da_nil))))))))
  ds_nil))
theorem sc__law_field : FnScope ["_law_box_here", "_law_words", "_law_names_here", "_law_name", "_law_notes", "_law_first", "_law_others_here", "_law_other", "_law_looks", "_law_near", "_law_word", "_law_far"] ["_law_box_here", "_law_words", "_law_names_here", "_law_name", "_law_notes"] (defScope st__law_field) := ⟨rfl, rfl, rfl, by decide +kernel, rfl, by decide +kernel, by decide +kernel⟩
theorem der__law_field (tx : Txt w K mg A) (ex : Exs P w K mg base A) (O : Oks P w K mg base A j F) : FnOk P w K mg base (L2.CX P w) (j + 3) A.f__law_field A.d__law_field ["_law_box_here", "_law_words", "_law_names_here", "_law_name", "_law_notes"] (spT K mg 5 (defRun 12 (b__law_field F))) := by
  have S := sc__law_field
  refine fn_T tx.u__law_field S fun cdv Ar outer s H E hr tk hp => ?_
  have hr0 := hr.mono (Nat.le_add_right _ _)
  have hr1 := hr.mono (Nat.le_succ _)
  have hr2 := hr.mono (Nat.le_add_left 2 _)
  have hu := hu65 hr
  exact (ds_cons (ds_set (i := 5) S.nd rfl (by first | exact Or.inl rfl | exact Or.inr rfl) (de_ix (dv 1) (de_call (ps := ["_law_box_here", "_law_many"]) O._law_draw hr0 rfl tx.g__law_draw tx.u__law_draw.kp tx.b__law_draw tk (da_cons (dv 0) (da_cons (de_callB cs_len nx_len rfl tx.n_len boot_len (da_cons (dv 1) da_nil)) da_nil)))))
  (ds_cons (ds_setLc (i := 6) (own := [("_law_other", 7)]) rfl S.nd rfl rfl (sw_true rfl rfl rfl (by decide +kernel)) (di_e (dv 2)) (blkOk_by rfl) (fun _ _ _ _ _ => (dg_name (i := 7) S.nd rfl (by first | exact Or.inl rfl | exact Or.inr rfl))) (fun _ _ _ _ _ => (dts_one (dt_cmp (os_ne hu) nx_ne (dv 7) (dv 3) rfl))) (fun _ _ _ _ _ => (dv 7)))
  (ds_cons (ds_set (i := 8) S.nd rfl (by first | exact Or.inl rfl | exact Or.inr rfl) de_non)
  (ds_cons (ds_set (i := 9) S.nd rfl (by first | exact Or.inl rfl | exact Or.inr rfl) (de_call (ps := ["_law_box_here", "_law_notes", "_law_size"]) O._law_entries hr0 rfl tx.g__law_entries tx.u__law_entries.kp tx.b__law_entries tk (da_cons (dv 0) (da_cons (dv 4) (da_cons (de_callB cs_len nx_len rfl tx.n_len boot_len (da_cons (dv 1) da_nil)) da_nil)))))
  (ds_cons (ds_if (dt_w (dw_and (dt_cmp os_gt nx_gt (de_callB cs_len nx_len rfl tx.n_len boot_len (da_cons (dv 6) da_nil)) de_int rfl) (dw_and1 (dt_cmp (os_eq hu) nx_eq (de_call (ps := ["_law_box_here", "_law_many"]) O._law_draw hr0 rfl tx.g__law_draw tx.u__law_draw.kp tx.b__law_draw tk (da_cons (dv 0) (da_cons de_int da_nil))) de_int rfl))))
  (ds_cons (ds_set (i := 8) S.nd rfl (by first | exact Or.inl rfl | exact Or.inr rfl) (de_ix (dv 6) (de_call (ps := ["_law_box_here", "_law_many"]) O._law_draw hr0 rfl tx.g__law_draw tx.u__law_draw.kp tx.b__law_draw tk (da_cons (dv 0) (da_cons (de_callB cs_len nx_len rfl tx.n_len boot_len (da_cons (dv 6) da_nil)) da_nil)))))
   (ds_cons (ds_set (i := 9) S.nd rfl (by first | exact Or.inl rfl | exact Or.inr rfl) (de_overTy cl_tup nx_tup rfl tx.n_tuple boot_tuple (dl_lc (own := [("_law_word", 10)]) rfl S.nd (di_e (dv 1)) (blkOk_by rfl) (fun _ _ _ _ _ => (dg_name (i := 10) S.nd rfl (by first | exact Or.inl rfl | exact Or.inr rfl))) (fun _ _ _ _ _ => dts_nil) (fun _ _ _ _ _ => (de_call (ps := ["_law_box_here", "_law_notes", "_law_size"]) O._law_entries hr0 rfl tx.g__law_entries tx.u__law_entries.kp tx.b__law_entries takes0 (da_cons (dv 0) (da_cons (dv 4) (da_cons (de_callB cs_len nx_len rfl tx.n_len boot_len (da_cons (dv 1) da_nil)) da_nil))))))))
   ds_nil))
  ds_nil)
  (ds_cons (ds_set (i := 11) S.nd rfl (by first | exact Or.inl rfl | exact Or.inr rfl) de_non)
  (ds_cons (ds_if (dt_cmp (os_eq hu) nx_eq (de_call (ps := ["_law_box_here", "_law_many"]) O._law_draw hr0 rfl tx.g__law_draw tx.u__law_draw.kp tx.b__law_draw tk (da_cons (dv 0) (da_cons de_int da_nil))) de_int rfl)
  (ds_cons (ds_set (i := 11) S.nd rfl (by first | exact Or.inl rfl | exact Or.inr rfl) (de_call (ps := ["_law_box_here", "_law_notes", "_law_size"]) O._law_entries hr0 rfl tx.g__law_entries tx.u__law_entries.kp tx.b__law_entries tk (da_cons (dv 0) (da_cons (dv 4) (da_cons (de_callB cs_len nx_len rfl tx.n_len boot_len (da_cons (dv 1) da_nil)) da_nil)))))
   ds_nil)
  ds_nil)
  (ds_cons (ds_ret (de_tup (da_cons (dv 5) (da_cons (dv 8) (da_cons (dv 9) (da_cons (dv 11) da_nil))))))
  ds_nil))))))))
theorem sc__law_parts : FnScope ["_law_box_here", "_law_size", "_law_words", "_law_names_here", "_law_notes", "_law_fields", "_law_name"] ["_law_box_here"] (defScope st__law_parts) := ⟨rfl, rfl, rfl, by decide +kernel, rfl, by decide +kernel, by decide +kernel⟩
theorem der__law_parts (tx : Txt w K mg A) (ex : Exs P w K mg base A) (O : Oks P w K mg base A j F) : FnOk P w K mg base (L2.CX P w) (j + 3) A.f__law_parts A.d__law_parts ["_law_box_here"] (spT K mg 1 (defRun 7 (b__law_parts F))) := by
  have S := sc__law_parts
  refine fn_T tx.u__law_parts S fun cdv Ar outer s H E hr tk hp => ?_
  have hr0 := hr.mono (Nat.le_add_right _ _)
  have hr1 := hr.mono (Nat.le_succ _)
  have hr2 := hr.mono (Nat.le_add_left 2 _)
  have hu := hu65 hr
  exact (ds_cons (ds_set (i := 1) S.nd rfl (by first | exact Or.inl rfl | exact Or.inr rfl) (de_op os_add nx_add de_int (de_call (ps := ["_law_box_here", "_law_many"]) O._law_draw hr0 rfl tx.g__law_draw tx.u__law_draw.kp tx.b__law_draw tk (da_cons (dv 0) (da_cons de_int da_nil)))))
  (ds_cons (ds_set (i := 2) S.nd rfl (by first | exact Or.inl rfl | exact Or.inr rfl) (de_callTy cs_tuple nx_tuple rfl tx.n_tuple boot_tuple (da_cons (de_call (ps := ["_law_box_here", "_law_many"]) O._law_names hr0 rfl tx.g__law_names tx.u__law_names.kp tx.b__law_names tk (da_cons (dv 0) (da_cons (de_op os_add nx_add de_int (de_call (ps := ["_law_box_here", "_law_many"]) O._law_draw hr0 rfl tx.g__law_draw tx.u__law_draw.kp tx.b__law_draw tk (da_cons (dv 0) (da_cons de_int da_nil)))) da_nil))) da_nil)))
  (ds_cons (ds_set (i := 3) S.nd rfl (by first | exact Or.inl rfl | exact Or.inr rfl) (de_call (ps := ["_law_box_here", "_law_many"]) O._law_names hr0 rfl tx.g__law_names tx.u__law_names.kp tx.b__law_names tk (da_cons (dv 0) (da_cons (de_op os_add nx_add de_int (de_call (ps := ["_law_box_here", "_law_many"]) O._law_draw hr0 rfl tx.g__law_draw tx.u__law_draw.kp tx.b__law_draw tk (da_cons (dv 0) (da_cons de_int da_nil)))) da_nil))))
  (ds_cons (ds_set (i := 4) S.nd rfl (by first | exact Or.inl rfl | exact Or.inr rfl) (de_call (ps := ["_law_box_here", "_law_many"]) O._law_names hr0 rfl tx.g__law_names tx.u__law_names.kp tx.b__law_names tk (da_cons (dv 0) (da_cons de_int da_nil))))
  (ds_cons (ds_if (dt_w (dw_and (dt_cmp (os_eq hu) nx_eq (de_call (ps := ["_law_box_here", "_law_many"]) O._law_draw hr0 rfl tx.g__law_draw tx.u__law_draw.kp tx.b__law_draw tk (da_cons (dv 0) (da_cons de_int da_nil))) de_int rfl) (dw_and1 (dt_cmp (os_notin hu) nx_notin (de_ix (dv 2) de_int) (dv 3) rfl))))
  (ds_cons (ds_sub (dv 3) de_int (de_ix (dv 2) de_int))
   ds_nil)
  ds_nil)
  (ds_cons (ds_set (i := 5) S.nd rfl (by first | exact Or.inl rfl | exact Or.inr rfl) (de_overTy cl_tup nx_tup rfl tx.n_tuple boot_tuple (dl_lc (own := [("_law_name", 6)]) rfl S.nd (di_e (dv 3)) (blkOk_by rfl) (fun _ _ _ _ _ => (dg_name (i := 6) S.nd rfl (by first | exact Or.inl rfl | exact Or.inr rfl))) (fun _ _ _ _ _ => dts_nil) (fun _ _ _ _ _ => (de_tup (da_cons (dv 6) (da_cons (de_call (ps := ["_law_box_here", "_law_words", "_law_names_here", "_law_name", "_law_notes"]) O._law_field hr0 rfl tx.g__law_field tx.u__law_field.kp tx.b__law_field takes0 (da_cons (dv 0) (da_cons (dv 2) (da_cons (dv 3) (da_cons (dv 6) (da_cons (dv 4) da_nil)))))) da_nil)))))))
  (ds_cons (ds_ret (de_tup (da_cons (dv 2) (da_cons (dv 5) (da_cons (dv 1) da_nil)))))
  ds_nil)))))))
theorem sc__law_tells : FnScope ["_law_form", "_law_parts_here", "_law_names_here", "_law_pair", "_law_name", "_law_field_here", "_law_due"] ["_law_form", "_law_parts_here"] (defScope st__law_tells) := ⟨rfl, rfl, rfl, by decide +kernel, rfl, by decide +kernel, by decide +kernel⟩
theorem der__law_tells (tx : Txt w K mg A) (ex : Exs P w K mg base A) (O : Oks P w K mg base A j F) : FnOk P w K mg base (L2.CX P w) (j + 3) A.f__law_tells A.d__law_tells ["_law_form", "_law_parts_here"] (spT K mg 2 (defRun 7 (b__law_tells F))) := by
  have S := sc__law_tells
  refine fn_T tx.u__law_tells S fun cdv Ar outer s H E hr tk hp => ?_
  have hr0 := hr.mono (Nat.le_add_right _ _)
  have hr1 := hr.mono (Nat.le_succ _)
  have hr2 := hr.mono (Nat.le_add_left 2 _)
  have hu := hu65 hr
  exact (ds_cons (ds_set (i := 2) S.nd rfl (by first | exact Or.inl rfl | exact Or.inr rfl) (de_overTy cl_tup nx_tup rfl tx.n_tuple boot_tuple (dl_lc (own := [("_law_pair", 3)]) rfl S.nd (di_e (de_ix (dv 1) de_int)) (blkOk_by rfl) (fun _ _ _ _ _ => (dg_name (i := 3) S.nd rfl (by first | exact Or.inl rfl | exact Or.inr rfl))) (fun _ _ _ _ _ => dts_nil) (fun _ _ _ _ _ => (de_ix (dv 3) de_int)))))
  (ds_cons (ds_if (dt_not (dt_val (de_call (ps := ["_law_told", "_law_due"]) O._law_same hr0 rfl tx.g__law_same tx.u__law_same.kp tx.b__law_same tk (da_cons (de_tup (da_cons (de_fld tx.cs (dv 0)) (da_cons (de_fld tx.cs (dv 0)) (da_cons (de_fld tx.cs (dv 0)) (da_cons (de_meth0 (ps := ["self"]) tx.g_Form tx.cc_Form tx.h_Form_field_names O.Form_field_names hr0 tx.b_Form_field_names tk (dv 0)) da_nil))))) (da_cons (de_op os_add nx_add (dv 1) (de_tup (da_cons (dv 2) da_nil))) da_nil)))))
  (ds_cons (ds_ret de_bl)
   ds_nil)
  ds_nil)
  (ds_cons (ds_for hp rfl (di_e (de_ix (dv 1) de_int)) (dg_tup rfl (dgs_cons (dg_name (i := 4) S.nd rfl (by first | exact Or.inl rfl | exact Or.inr rfl)) (dgs_cons (dg_name (i := 5) S.nd rfl (by first | exact Or.inl rfl | exact Or.inr rfl)) dgs_nil)))
  (ds_cons (ds_set (i := 6) S.nd rfl (by first | exact Or.inl rfl | exact Or.inr rfl) (de_overTy cl_tup nx_tup rfl tx.n_tuple boot_tuple (dl_lc (own := [("_law_pair", 3)]) rfl S.nd (di_e (de_ix (dv 1) de_int)) (blkOk_by rfl) (fun _ _ _ _ _ => (dg_name (i := 3) S.nd rfl (by first | exact Or.inl rfl | exact Or.inr rfl))) (fun _ _ _ _ _ => (dts_one (dt_cmp (os_eq hu) nx_eq (de_ix (de_ix (dv 3) de_int) de_int) (dv 4) rfl))) (fun _ _ _ _ _ => (de_ix (dv 3) de_int)))))
   (ds_cons (ds_if (dt_w (dw_or (dt_not (dt_val (de_call (ps := ["_law_told", "_law_due"]) O._law_same hr0 rfl tx.g__law_same tx.u__law_same.kp tx.b__law_same tk (da_cons (de_meth (ps := ["self", "name"]) tx.g_Form tx.cc_Form tx.h_Form_parts_of O.Form_parts_of hr0 tx.b_Form_parts_of tk (dv 0) (da_cons (dv 4) da_nil)) (da_cons (dv 5) da_nil))))) (dw_or1 (dt_not (dt_val (de_call (ps := ["_law_told", "_law_due"]) O._law_same hr0 rfl tx.g__law_same tx.u__law_same.kp tx.b__law_same tk (da_cons (de_meth (ps := ["self", "name"]) tx.g_Form tx.cc_Form tx.h_Form_readers O.Form_readers hr0 tx.b_Form_readers tk (dv 0) (da_cons (dv 4) da_nil)) (da_cons (dv 6) da_nil))))))))
   (ds_cons (ds_ret de_bl)
    ds_nil)
   ds_nil)
   ds_nil)))
  (ds_cons (ds_ret de_bl)
  ds_nil))))
theorem sc__law_turned : FnScope ["_law_row", "_law_entry"] ["_law_row"] (defScope st__law_turned) := ⟨rfl, rfl, rfl, by decide +kernel, rfl, by decide +kernel, by decide +kernel⟩
theorem der__law_turned (tx : Txt w K mg A) (ex : Exs P w K mg base A) (O : Oks P w K mg base A j F) : FnOk P w K mg base (L2.CX P w) (j + 3) A.f__law_turned A.d__law_turned ["_law_row"] (spT K mg 1 (defRun 2 (b__law_turned F))) := by
  have S := sc__law_turned
  refine fn_T tx.u__law_turned S fun cdv Ar outer s H E hr tk hp => ?_
  have hr0 := hr.mono (Nat.le_add_right _ _)
  have hr1 := hr.mono (Nat.le_succ _)
  have hr2 := hr.mono (Nat.le_add_left 2 _)
  have hu := hu65 hr
  exact (ds_cons (ds_ret (de_op os_add nx_add (de_overTy cl_tup nx_tup rfl tx.n_tuple boot_tuple (dl_lc (own := [("_law_entry", 1)]) rfl S.nd (di_e (de_sl (dv 0) do_none (do_some de_int))) (blkOk_by rfl) (fun _ _ _ _ _ => (dg_name (i := 1) S.nd rfl (by first | exact Or.inl rfl | exact Or.inr rfl))) (fun _ _ _ _ _ => dts_nil) (fun _ _ _ _ _ => (de_ix (de_lst (da_cons (de_str (by decide +kernel)) (da_cons de_non da_nil))) (de_callTy cs_intB nx_bintB rfl tx.n_int boot_int (da_cons (de_cmp (os_eq hu) nx_eq (dv 1) (de_str (by decide +kernel)) rfl) da_nil)))))) (de_sl (dv 0) (do_some de_int) do_none)))
  ds_nil)
theorem sc__law_others : FnScope ["_law_box_here", "_law_parts_here", "_law_words", "_law_fields", "_law_size", "_law_at", "_law_name", "_law_field_here", "_law_first", "_law_looks", "_law_near", "_law_far", "_law_other", "_law_found", "_law_changed", "_law_made"] ["_law_box_here", "_law_parts_here"] (defScope st__law_others) := ⟨rfl, rfl, rfl, by decide +kernel, rfl, by decide +kernel, by decide +kernel⟩
theorem der__law_others (tx : Txt w K mg A) (ex : Exs P w K mg base A) (O : Oks P w K mg base A j F) : FnOk P w K mg base (L2.CX P w) (j + 3) A.f__law_others A.d__law_others ["_law_box_here", "_law_parts_here"] (spT K mg 2 (defRun 16 (b__law_others F))) := by
  have S := sc__law_others
  refine fn_T tx.u__law_others S fun cdv Ar outer s H E hr tk hp => ?_
  have hr0 := hr.mono (Nat.le_add_right _ _)
  have hr1 := hr.mono (Nat.le_succ _)
  have hr2 := hr.mono (Nat.le_add_left 2 _)
  have hu := hu65 hr
  exact (ds_cons (ds_asg (dv 1) (dg_tup rfl (dgs_cons (dg_name (i := 2) S.nd rfl (by first | exact Or.inl rfl | exact Or.inr rfl)) (dgs_cons (dg_name (i := 3) S.nd rfl (by first | exact Or.inl rfl | exact Or.inr rfl)) (dgs_cons (dg_name (i := 4) S.nd rfl (by first | exact Or.inl rfl | exact Or.inr rfl)) dgs_nil)))))
  (ds_cons (ds_set (i := 5) S.nd rfl (by first | exact Or.inl rfl | exact Or.inr rfl) (de_call (ps := ["_law_box_here", "_law_many"]) O._law_draw hr0 rfl tx.g__law_draw tx.u__law_draw.kp tx.b__law_draw tk (da_cons (dv 0) (da_cons (de_callB cs_len nx_len rfl tx.n_len boot_len (da_cons (dv 3) da_nil)) da_nil))))
  (ds_cons (ds_asg (de_ix (dv 3) (dv 5)) (dg_tup rfl (dgs_cons (dg_name (i := 6) S.nd rfl (by first | exact Or.inl rfl | exact Or.inr rfl)) (dgs_cons (dg_name (i := 7) S.nd rfl (by first | exact Or.inl rfl | exact Or.inr rfl)) dgs_nil))))
  (ds_cons (ds_asg (dv 7) (dg_tup rfl (dgs_cons (dg_name (i := 8) S.nd rfl (by first | exact Or.inl rfl | exact Or.inr rfl)) (dgs_cons (dg_name (i := 9) S.nd rfl (by first | exact Or.inl rfl | exact Or.inr rfl)) (dgs_cons (dg_name (i := 10) S.nd rfl (by first | exact Or.inl rfl | exact Or.inr rfl)) (dgs_cons (dg_name (i := 11) S.nd rfl (by first | exact Or.inl rfl | exact Or.inr rfl)) dgs_nil))))))
  (ds_cons (ds_set (i := 12) S.nd rfl (by first | exact Or.inl rfl | exact Or.inr rfl) (de_ix (dv 2) (de_op os_mod nx_mod (de_op os_add nx_add (de_index hu (dv 2) (da_cons (dv 8) da_nil)) de_int) (de_callB cs_len nx_len rfl tx.n_len boot_len (da_cons (dv 2) da_nil)))))
  (ds_cons (ds_set (i := 13) S.nd rfl (by first | exact Or.inl rfl | exact Or.inr rfl) (de_lst (da_cons (de_tup (da_cons (dv 2) (da_cons (dv 3) (da_cons (de_op os_add nx_add de_int (de_op os_mod nx_mod (dv 4) de_int)) da_nil)))) da_nil)))
  (ds_cons (ds_set (i := 14) S.nd rfl (by first | exact Or.inl rfl | exact Or.inr rfl) (de_lst (da_cons (de_tup (da_cons (dv 12) (da_cons (dv 9) (da_cons (dv 10) (da_cons (dv 11) da_nil))))) da_nil)))
  (ds_cons (ds_if (dt_cmp os_is nx_is (dv 9) de_non rfl)
  (ds_cons (ds_expr (de_mt ms_append nx_append PySem.F.plainAttrs_list PySem.F.slot_list_append PySem.F.type_list_append (dv 14) (da_cons (de_tup (da_cons (dv 8) (da_cons (dv 9) (da_cons (de_call (ps := ["_law_row"]) O._law_turned hr0 rfl tx.g__law_turned tx.u__law_turned.kp tx.b__law_turned tk (da_cons (dv 10) da_nil)) (da_cons (dv 11) da_nil))))) da_nil)))
   ds_nil)
  (ds_cons (ds_expr (de_mt ms_append nx_append PySem.F.plainAttrs_list PySem.F.slot_list_append PySem.F.type_list_append (dv 14) (da_cons (de_tup (da_cons (dv 8) (da_cons (dv 9) (da_cons (de_op os_add nx_add (de_tup (da_cons (de_call (ps := ["_law_row"]) O._law_turned hr0 rfl tx.g__law_turned tx.u__law_turned.kp tx.b__law_turned tk (da_cons (de_ix (dv 10) de_int) da_nil)) da_nil)) (de_sl (dv 10) (do_some de_int) do_none)) (da_cons (dv 11) da_nil))))) da_nil)))
   (ds_cons (ds_expr (de_mt ms_append nx_append PySem.F.plainAttrs_list PySem.F.slot_list_append PySem.F.type_list_append (dv 14) (da_cons (de_tup (da_cons (dv 8) (da_cons de_non (da_cons (de_ix (dv 10) de_int) (da_cons (dv 11) da_nil))))) da_nil)))
   ds_nil)))
  (ds_cons (ds_if (dt_cmp os_is nx_is (dv 11) de_non rfl)
  (ds_cons (ds_expr (de_mt ms_append nx_append PySem.F.plainAttrs_list PySem.F.slot_list_append PySem.F.type_list_append (dv 14) (da_cons (de_tup (da_cons (dv 8) (da_cons (dv 9) (da_cons (dv 10) (da_cons (de_op os_mulT nx_mulT (de_tup (da_cons de_non da_nil)) (de_callB cs_len nx_len rfl tx.n_len boot_len (da_cons (dv 2) da_nil))) da_nil))))) da_nil)))
   ds_nil)
  (ds_cons (ds_expr (de_mt ms_append nx_append PySem.F.plainAttrs_list PySem.F.slot_list_append PySem.F.type_list_append (dv 14) (da_cons (de_tup (da_cons (dv 8) (da_cons (dv 9) (da_cons (dv 10) (da_cons de_non da_nil))))) da_nil)))
   (ds_cons (ds_expr (de_mt ms_append nx_append PySem.F.plainAttrs_list PySem.F.slot_list_append PySem.F.type_list_append (dv 14) (da_cons (de_tup (da_cons (dv 8) (da_cons (dv 9) (da_cons (dv 10) (da_cons (de_call (ps := ["_law_row"]) O._law_turned hr0 rfl tx.g__law_turned tx.u__law_turned.kp tx.b__law_turned tk (da_cons (dv 11) da_nil)) da_nil))))) da_nil)))
   ds_nil)))
  (ds_cons (ds_for hp rfl (di_e (dv 14)) (dg_name (i := 15) S.nd rfl (by first | exact Or.inl rfl | exact Or.inr rfl))
  (ds_cons (ds_expr (de_mt ms_append nx_append PySem.F.plainAttrs_list PySem.F.slot_list_append PySem.F.type_list_append (dv 13) (da_cons (de_tup (da_cons (dv 2) (da_cons (de_op os_add nx_add (de_op os_add nx_add (de_sl (dv 3) do_none (do_some (dv 5))) (de_tup (da_cons (de_tup (da_cons (dv 6) (da_cons (dv 15) da_nil))) da_nil))) (de_sl (dv 3) (do_some (de_op os_add nx_add (dv 5) de_int)) do_none)) (da_cons (dv 4) da_nil)))) da_nil)))
   ds_nil))
  (ds_cons (ds_expr (de_mt ms_append nx_append PySem.F.plainAttrs_list PySem.F.slot_list_append PySem.F.type_list_append (dv 13) (da_cons (de_tup (da_cons (de_op os_add nx_add (de_sl (dv 2) (do_some de_int) do_none) (de_sl (dv 2) do_none (do_some de_int))) (da_cons (dv 3) (da_cons (dv 4) da_nil)))) da_nil)))
  (ds_cons (ds_if (dt_cmp os_gt nx_gt (de_callB cs_len nx_len rfl tx.n_len boot_len (da_cons (dv 3) da_nil)) de_int rfl)
  (ds_cons (ds_expr (de_mt ms_append nx_append PySem.F.plainAttrs_list PySem.F.slot_list_append PySem.F.type_list_append (dv 13) (da_cons (de_tup (da_cons (dv 2) (da_cons (de_op os_add nx_add (de_sl (dv 3) (do_some de_int) do_none) (de_sl (dv 3) do_none (do_some de_int))) (da_cons (dv 4) da_nil)))) da_nil)))
   ds_nil)
  ds_nil)
  (ds_cons (ds_ret (dv 13))
  ds_nil)))))))))))))
theorem sc_law : FnScope ["_law_script", "_law_box_here", "_law_parts_here", "_law_form", "_law_plain", "_law_twin", "_law_other", "_law_unlike"] ["_law_script"] (defScope st_law) := ⟨rfl, rfl, rfl, by decide +kernel, rfl, by decide +kernel, by decide +kernel⟩
theorem der_law (tx : Txt w K mg A) (ex : Exs P w K mg base A) (O : Oks P w K mg base A j F) : FnOk P w K mg base (L2.CX P w) (j + 3) A.f_law A.d_law ["_law_script"] (spT K mg 1 (defRun 8 (b_law F))) := by
  have S := sc_law
  refine fn_T tx.u_law S fun cdv Ar outer s H E hr tk hp => ?_
  have hr0 := hr.mono (Nat.le_add_right _ _)
  have hr1 := hr.mono (Nat.le_succ _)
  have hr2 := hr.mono (Nat.le_add_left 2 _)
  have hu := hu65 hr
  exact (ds_cons (ds_set (i := 1) S.nd rfl (by first | exact Or.inl rfl | exact Or.inr rfl) (de_call (ps := ["_law_script"]) O._law_box hr0 rfl tx.g__law_box tx.u__law_box.kp tx.b__law_box tk (da_cons (dv 0) da_nil)))
  (ds_cons (ds_set (i := 2) S.nd rfl (by first | exact Or.inl rfl | exact Or.inr rfl) (de_call (ps := ["_law_box_here"]) O._law_parts hr0 rfl tx.g__law_parts tx.u__law_parts.kp tx.b__law_parts tk (da_cons (dv 1) da_nil)))
  (ds_cons (ds_set (i := 3) S.nd rfl (by first | exact Or.inl rfl | exact Or.inr rfl) (de_makeK (ps := ["self", "words", "fields", "room"]) (ks := ["room"]) (dt := []) tx.m_Form O.Form_init hr1 rfl tx.g_Form tx.kb_Form_init_2_room (fun _ _ => .nil) tk (da_cons (de_ix (dv 2) de_int) (da_cons (de_ix (dv 2) de_int) da_nil)) (dk_cons (de_ix (dv 2) de_int) dk_nil) rfl))
  (ds_cons (ds_set (i := 4) S.nd rfl (by first | exact Or.inl rfl | exact Or.inr rfl) (de_makeK (ps := ["self", "words", "fields", "room"]) (ks := []) (dt := [(.int 3)]) tx.m_Form O.Form_init hr1 rfl tx.g_Form tx.kb_Form_init_2_ (fun _ _ => (.cons (.int _) .nil)) tk (da_cons (de_ix (dv 2) de_int) (da_cons (de_ix (dv 2) de_int) da_nil)) dk_nil rfl))
  (ds_cons (ds_if (dt_w (dw_or (dt_not (dt_val (de_call (ps := ["_law_form", "_law_parts_here"]) O._law_tells hr0 rfl tx.g__law_tells tx.u__law_tells.kp tx.b__law_tells tk (da_cons (dv 3) (da_cons (dv 2) da_nil))))) (dw_or1 (dt_not (dt_val (de_call (ps := ["_law_form", "_law_parts_here"]) O._law_tells hr0 rfl tx.g__law_tells tx.u__law_tells.kp tx.b__law_tells tk (da_cons (dv 4) (da_cons (de_op os_add nx_add (de_sl (dv 2) do_none (do_some de_int)) (de_tup (da_cons de_int da_nil))) da_nil))))))))
  (ds_cons (ds_ret de_bl)
   ds_nil)
  ds_nil)
  (ds_cons (ds_set (i := 5) S.nd rfl (by first | exact Or.inl rfl | exact Or.inr rfl) (de_makeK (ps := ["self", "words", "fields", "room"]) (ks := ["room"]) (dt := []) tx.m_Form O.Form_init hr1 rfl tx.g_Form tx.kb_Form_init_2_room (fun _ _ => .nil) tk (da_cons (de_ix (dv 2) de_int) (da_cons (de_ix (dv 2) de_int) da_nil)) (dk_cons (de_ix (dv 2) de_int) dk_nil) rfl))
  (ds_cons (ds_if (dt_w (dw_or (dt_not (dt_cmp (op_eqO tx.g_Form tx.sp_Form___eq__.1 tx.sp_Form___eq__.2 O.Form___eq__ hr0 tx.b_Form___eq__ (os_eq hu)) nx_eqO (dv 3) (dv 5) rfl)) (dw_or (dt_cmp (op_neO tx.g_Form tx.om_Form tx.ne_Form tx.sp_Form___eq__.1 tx.sp_Form___eq__.2 O.Form___eq__ hr1 tx.b_Form___eq__ (os_ne hu)) nx_neO (dv 3) (dv 5) rfl) (dw_or1 (dt_cmp (os_ne hu) nx_ne (de_cmp (op_eqO tx.g_Form tx.sp_Form___eq__.1 tx.sp_Form___eq__.2 O.Form___eq__ hr0 tx.b_Form___eq__ (os_eq hu)) nx_eqO (dv 4) (dv 3) rfl) (de_cmp (os_eq hu) nx_eq (de_ix (dv 2) de_int) de_int rfl) rfl)))))
  (ds_cons (ds_ret de_bl)
   ds_nil)
  ds_nil)
  (ds_cons (ds_for hp rfl (di_e (de_call (ps := ["_law_box_here", "_law_parts_here"]) O._law_others hr0 rfl tx.g__law_others tx.u__law_others.kp tx.b__law_others tk (da_cons (dv 1) (da_cons (dv 2) da_nil)))) (dg_name (i := 6) S.nd rfl (by first | exact Or.inl rfl | exact Or.inr rfl))
  (ds_cons (ds_set (i := 7) S.nd rfl (by first | exact Or.inl rfl | exact Or.inr rfl) (de_makeK (ps := ["self", "words", "fields", "room"]) (ks := ["room"]) (dt := []) tx.m_Form O.Form_init hr1 rfl tx.g_Form tx.kb_Form_init_2_room (fun _ _ => .nil) tk (da_cons (de_ix (dv 6) de_int) (da_cons (de_ix (dv 6) de_int) da_nil)) (dk_cons (de_ix (dv 6) de_int) dk_nil) rfl))
   (ds_cons (ds_if (dt_w (dw_or (dt_cmp (op_eqO tx.g_Form tx.sp_Form___eq__.1 tx.sp_Form___eq__.2 O.Form___eq__ hr0 tx.b_Form___eq__ (os_eq hu)) nx_eqO (dv 3) (dv 7) rfl) (dw_or (dt_cmp (op_eqO tx.g_Form tx.sp_Form___eq__.1 tx.sp_Form___eq__.2 O.Form___eq__ hr0 tx.b_Form___eq__ (os_eq hu)) nx_eqO (dv 7) (dv 3) rfl) (dw_or1 (dt_not (dt_val (de_call (ps := ["_law_form", "_law_parts_here"]) O._law_tells hr0 rfl tx.g__law_tells tx.u__law_tells.kp tx.b__law_tells tk (da_cons (dv 7) (da_cons (dv 6) da_nil)))))))))
   (ds_cons (ds_ret de_bl)
    ds_nil)
   ds_nil)
   ds_nil)))
  (ds_cons (ds_ret (de_and (de_call (ps := ["_law_form", "_law_parts_here"]) O._law_tells hr0 rfl tx.g__law_tells tx.u__law_tells.kp tx.b__law_tells tk (da_cons (dv 3) (da_cons (dv 2) da_nil))) (de_and1 (de_cmp (op_eqO tx.g_Form tx.sp_Form___eq__.1 tx.sp_Form___eq__.2 O.Form___eq__ hr0 tx.b_Form___eq__ (os_eq hu)) nx_eqO (dv 3) (dv 5) rfl))))
  ds_nil)))))))))
theorem oks_step (tx : Txt w K mg A) (ex : Exs P w K mg base A) (O : Oks P w K mg base A j F) : Oks P w K mg base A (j + 3) (stepF F) :=
  ⟨der_is_integer tx ex O, der_is_name tx ex O, der_is_one_of tx ex O, der_are_names tx ex O, der_is_pair tx ex O, der_are_fields tx ex O, der_is_row tx ex O, der_is_near tx ex O, der_check_field tx ex O, der_Form_init tx ex O, der_Form___eq__ tx ex O, der_Form_field_names tx ex O, der_Form_parts_of tx ex O, der_Form_readers tx ex O, der__law_mix tx ex O, der__law_box tx ex O, der__law_draw tx ex O, der__law_same tx ex O, der__law_names tx ex O, der__law_entries tx ex O, der__law_field tx ex O, der__law_parts tx ex O, der__law_tells tx ex O, der__law_turned tx ex O, der__law_others tx ex O, der_law tx ex O⟩
theorem oks_stk : Oks P w K mg base A 0 FF.stk := by
  constructor <;> exact ⟨fun vs H Q E h => h.1, fun Ar outer s H args us vs Q E hr e0 hb hv hs => (by obtain ⟨_, _, _, _, _, _, z⟩ := hs; exact False.elim z)⟩
theorem oks_run (tx : Txt w K mg A) (ex : Exs P w K mg base A) : ∀ k, Oks P w K mg base A (3 * k) (runF k)
  | 0 => oks_stk
  | k + 1 => oks_step tx ex (oks_run tx ex k)
end
end LW
end

section
namespace LW
open PySem PySem.Spec PyProof.Rows
open L2 W3
theorem all_mk {P : Program} {w : World} {K : PySem.W.Frag} {h : Heap} {mg : Str → Option Value} {fa : Addr} (X : K.In h) (G : h.Ns mainGlobals mg) (hfa : mg "law" = some (.ref fa))
    {C_Form : Addr}
    {f_is_integer : Addr} {fd_is_integer : FuncData}
    {f_is_name : Addr} {fd_is_name : FuncData}
    {f_is_one_of : Addr} {fd_is_one_of : FuncData}
    {f_are_names : Addr} {fd_are_names : FuncData}
    {f_is_pair : Addr} {fd_is_pair : FuncData}
    {f_are_fields : Addr} {fd_are_fields : FuncData}
    {f_is_row : Addr} {fd_is_row : FuncData}
    {f_is_near : Addr} {fd_is_near : FuncData}
    {f_check_field : Addr} {fd_check_field : FuncData}
    {f_Form_init : Addr} {fd_Form_init : FuncData}
    {f_Form___eq__ : Addr} {fd_Form___eq__ : FuncData}
    {f_Form_field_names : Addr} {fd_Form_field_names : FuncData}
    {f_Form_parts_of : Addr} {fd_Form_parts_of : FuncData}
    {f_Form_readers : Addr} {fd_Form_readers : FuncData}
    {f__law_mix : Addr} {fd__law_mix : FuncData}
    {f__law_box : Addr} {fd__law_box : FuncData}
    {f__law_draw : Addr} {fd__law_draw : FuncData}
    {f__law_same : Addr} {fd__law_same : FuncData}
    {f__law_names : Addr} {fd__law_names : FuncData}
    {f__law_entries : Addr} {fd__law_entries : FuncData}
    {f__law_field : Addr} {fd__law_field : FuncData}
    {f__law_parts : Addr} {fd__law_parts : FuncData}
    {f__law_tells : Addr} {fd__law_tells : FuncData}
    {f__law_turned : Addr} {fd__law_turned : FuncData}
    {f__law_others : Addr} {fd__law_others : FuncData}
    {f_law : Addr} {fd_law : FuncData}
    {C_InvalidForm : Addr}
    {C_UnknownField : Addr}
    {xf_InvalidForm : Addr}
    {xf_UnknownField : Addr}
    (a_Form : PySem.W.nsIn K mainGlobals "Form" = some (some (.ref C_Form)))
    (pg_Form : PySem.W.plainGet K C_Form Str.empty = true)
    (hd_Form : PySem.W.hasDictIn K C_Form = true)
    (po_Form : PySem.W.plainOver K C_Form = true)
    (sa_Form : PySem.W.findIn K (.ref C_Form) "__setattr__" = some (some (.builtin "object.__setattr__")))
    (mk_Form : PySem.W.makesIn K C_Form = true)
    (kc_Form : PySem.W.keepIn K (.ref C_Form) = true)
    (no_Form_words : PySem.W.findIn K (.ref C_Form) "words" = some none)
    (no_Form_fields : PySem.W.findIn K (.ref C_Form) "fields" = some none)
    (no_Form_room : PySem.W.findIn K (.ref C_Form) "room" = some none)
    (a_is_integer : PySem.W.nsIn K mainGlobals "is_integer" = some (some (.ref f_is_integer)))
    (U_is_integer : Fun K "is_integer" "is_integer" st_is_integer f_is_integer fd_is_integer)
    (a_is_name : PySem.W.nsIn K mainGlobals "is_name" = some (some (.ref f_is_name)))
    (U_is_name : Fun K "is_name" "is_name" st_is_name f_is_name fd_is_name)
    (a_is_one_of : PySem.W.nsIn K mainGlobals "is_one_of" = some (some (.ref f_is_one_of)))
    (U_is_one_of : Fun K "is_one_of" "is_one_of" st_is_one_of f_is_one_of fd_is_one_of)
    (a_are_names : PySem.W.nsIn K mainGlobals "are_names" = some (some (.ref f_are_names)))
    (U_are_names : Fun K "are_names" "are_names" st_are_names f_are_names fd_are_names)
    (a_is_pair : PySem.W.nsIn K mainGlobals "is_pair" = some (some (.ref f_is_pair)))
    (U_is_pair : Fun K "is_pair" "is_pair" st_is_pair f_is_pair fd_is_pair)
    (a_are_fields : PySem.W.nsIn K mainGlobals "are_fields" = some (some (.ref f_are_fields)))
    (U_are_fields : Fun K "are_fields" "are_fields" st_are_fields f_are_fields fd_are_fields)
    (a_is_row : PySem.W.nsIn K mainGlobals "is_row" = some (some (.ref f_is_row)))
    (U_is_row : Fun K "is_row" "is_row" st_is_row f_is_row fd_is_row)
    (a_is_near : PySem.W.nsIn K mainGlobals "is_near" = some (some (.ref f_is_near)))
    (U_is_near : Fun K "is_near" "is_near" st_is_near f_is_near fd_is_near)
    (a_check_field : PySem.W.nsIn K mainGlobals "check_field" = some (some (.ref f_check_field)))
    (U_check_field : Fun K "check_field" "check_field" st_check_field f_check_field fd_check_field)
    (a_Form_init : PySem.W.findIn K (.ref C_Form) "__init__" = some (some (.ref f_Form_init)))
    (i_Form_init : PySem.W.isFn K (.ref f_Form_init) = true)
    (U_Form_init : FunD K "__init__" "Form.__init__" (defArgs st_Form_init) (defBody st_Form_init) (defScope st_Form_init) [] [("room", .int 3)] f_Form_init fd_Form_init)
    (a_Form___eq__ : PySem.W.findIn K (.ref C_Form) "__eq__" = some (some (.ref f_Form___eq__)))
    (i_Form___eq__ : PySem.W.isFn K (.ref f_Form___eq__) = true)
    (U_Form___eq__ : Fun K "__eq__" "Form.__eq__" st_Form___eq__ f_Form___eq__ fd_Form___eq__)
    (a_Form_field_names : PySem.W.findIn K (.ref C_Form) "field_names" = some (some (.ref f_Form_field_names)))
    (i_Form_field_names : PySem.W.isFn K (.ref f_Form_field_names) = true)
    (U_Form_field_names : Fun K "field_names" "Form.field_names" st_Form_field_names f_Form_field_names fd_Form_field_names)
    (a_Form_parts_of : PySem.W.findIn K (.ref C_Form) "parts_of" = some (some (.ref f_Form_parts_of)))
    (i_Form_parts_of : PySem.W.isFn K (.ref f_Form_parts_of) = true)
    (U_Form_parts_of : Fun K "parts_of" "Form.parts_of" st_Form_parts_of f_Form_parts_of fd_Form_parts_of)
    (a_Form_readers : PySem.W.findIn K (.ref C_Form) "readers" = some (some (.ref f_Form_readers)))
    (i_Form_readers : PySem.W.isFn K (.ref f_Form_readers) = true)
    (U_Form_readers : Fun K "readers" "Form.readers" st_Form_readers f_Form_readers fd_Form_readers)
    (a__law_mix : PySem.W.nsIn K mainGlobals "_law_mix" = some (some (.ref f__law_mix)))
    (U__law_mix : Fun K "_law_mix" "_law_mix" st__law_mix f__law_mix fd__law_mix)
    (a__law_box : PySem.W.nsIn K mainGlobals "_law_box" = some (some (.ref f__law_box)))
    (U__law_box : Fun K "_law_box" "_law_box" st__law_box f__law_box fd__law_box)
    (a__law_draw : PySem.W.nsIn K mainGlobals "_law_draw" = some (some (.ref f__law_draw)))
    (U__law_draw : Fun K "_law_draw" "_law_draw" st__law_draw f__law_draw fd__law_draw)
    (a__law_same : PySem.W.nsIn K mainGlobals "_law_same" = some (some (.ref f__law_same)))
    (U__law_same : Fun K "_law_same" "_law_same" st__law_same f__law_same fd__law_same)
    (a__law_names : PySem.W.nsIn K mainGlobals "_law_names" = some (some (.ref f__law_names)))
    (U__law_names : Fun K "_law_names" "_law_names" st__law_names f__law_names fd__law_names)
    (a__law_entries : PySem.W.nsIn K mainGlobals "_law_entries" = some (some (.ref f__law_entries)))
    (U__law_entries : Fun K "_law_entries" "_law_entries" st__law_entries f__law_entries fd__law_entries)
    (a__law_field : PySem.W.nsIn K mainGlobals "_law_field" = some (some (.ref f__law_field)))
    (U__law_field : Fun K "_law_field" "_law_field" st__law_field f__law_field fd__law_field)
    (a__law_parts : PySem.W.nsIn K mainGlobals "_law_parts" = some (some (.ref f__law_parts)))
    (U__law_parts : Fun K "_law_parts" "_law_parts" st__law_parts f__law_parts fd__law_parts)
    (a__law_tells : PySem.W.nsIn K mainGlobals "_law_tells" = some (some (.ref f__law_tells)))
    (U__law_tells : Fun K "_law_tells" "_law_tells" st__law_tells f__law_tells fd__law_tells)
    (a__law_turned : PySem.W.nsIn K mainGlobals "_law_turned" = some (some (.ref f__law_turned)))
    (U__law_turned : Fun K "_law_turned" "_law_turned" st__law_turned f__law_turned fd__law_turned)
    (a__law_others : PySem.W.nsIn K mainGlobals "_law_others" = some (some (.ref f__law_others)))
    (U__law_others : Fun K "_law_others" "_law_others" st__law_others f__law_others fd__law_others)
    (a_law : PySem.W.nsIn K mainGlobals "law" = some (some (.ref f_law)))
    (U_law : Fun K "law" "law" st_law f_law fd_law)
    (a_InvalidForm : PySem.W.nsIn K mainGlobals "InvalidForm" = some (some (.ref C_InvalidForm)))
    (a_UnknownField : PySem.W.nsIn K mainGlobals "UnknownField" = some (some (.ref C_UnknownField)))
    (ioc_Form : PySem.W.findIn K (.ref C_Form) "__class__" = some (some (.builtin "object.__class__")))
    (iom_Form : PySem.W.mroIn K C_Form (.type "object") = some true)
    (nem_Form : PySem.W.mroIn K C_Form (.type "object") = some true)
    (nee_Form : PySem.W.findIn K (.ref C_Form) "__ne__" = some (some (.builtin "object.__ne__")))
    (opq : PySem.W.nsIn K cStatics "thirdparty.any" = some none)
    (tops : (P.main.scope.names.lookup ("super" : Str)).isSome = false)
    (spc : PySem.W.specialIn K (.builtin "object.__class__") "__get__" = some (some (.builtin "getset_descriptor.__get__")))
    (tki : PySem.W.takesIn K (.builtin "object.__class__") = some true)
    (oxc_InvalidForm : oexB K C_InvalidForm = true)
    (xsa_InvalidForm : PySem.W.findIn K (.ref C_InvalidForm) "__setattr__" = some (some (.builtin "object.__setattr__")))
    (xbe_InvalidForm : PySem.W.subIn K (.ref C_InvalidForm) (.type "BaseException") = some true)
    (xty_InvalidForm : PySem.W.typeIn K (.ref C_InvalidForm) = some (.type "type"))
    (xk_InvalidForm : PySem.W.keepIn K (.ref C_InvalidForm) = true)
    (xi_InvalidForm : PySem.W.findIn K (.ref C_InvalidForm) "__init__" = some (some (.ref xf_InvalidForm)))
    (xt_InvalidForm : PySem.W.typeIn K (.ref xf_InvalidForm) = some (.type "function"))
    (XI_InvalidForm : XInit P K C_InvalidForm xf_InvalidForm "InvalidForm.__init__" st_x_InvalidForm)
    (xsu_InvalidForm : PySem.W.ks_superIn K C_InvalidForm C_InvalidForm "__init__" = some (some (.builtin "ValueError.__init__")))
    (xsv_InvalidForm : PySem.W.subIn K (.ref C_InvalidForm) (.type "ValueError") = some true)
    (xmr_InvalidForm : PySem.W.mroIn K C_InvalidForm (.ref C_InvalidForm) = some true)
    (xga_InvalidForm : PySem.W.findIn K (.ref C_InvalidForm) "__getattribute__" = some (some (.builtin "BaseException.__getattribute__")))
    (xgt_InvalidForm : PySem.W.findIn K (.ref C_InvalidForm) "__getattr__" = some none)
    (xcl_InvalidForm : PySem.W.findIn K (.ref C_InvalidForm) "__class__" = some (some (.builtin "object.__class__")))
    (xhd_InvalidForm : PySem.W.hasDictIn K C_InvalidForm = true)
    (xob_InvalidForm : PySem.W.mroIn K C_InvalidForm (.type "object") = some true)
    (xno_InvalidForm_field : PySem.W.findIn K (.ref C_InvalidForm) "field" = some none)
    (xno_InvalidForm_part : PySem.W.findIn K (.ref C_InvalidForm) "part" = some none)
    (oxc_UnknownField : oexB K C_UnknownField = true)
    (xsa_UnknownField : PySem.W.findIn K (.ref C_UnknownField) "__setattr__" = some (some (.builtin "object.__setattr__")))
    (xbe_UnknownField : PySem.W.subIn K (.ref C_UnknownField) (.type "BaseException") = some true)
    (xty_UnknownField : PySem.W.typeIn K (.ref C_UnknownField) = some (.type "type"))
    (xk_UnknownField : PySem.W.keepIn K (.ref C_UnknownField) = true)
    (xi_UnknownField : PySem.W.findIn K (.ref C_UnknownField) "__init__" = some (some (.ref xf_UnknownField)))
    (xt_UnknownField : PySem.W.typeIn K (.ref xf_UnknownField) = some (.type "function"))
    (XI_UnknownField : XInit P K C_UnknownField xf_UnknownField "UnknownField.__init__" st_x_UnknownField)
    (xsu_UnknownField : PySem.W.ks_superIn K C_UnknownField C_UnknownField "__init__" = some (some (.builtin "ValueError.__init__")))
    (xsv_UnknownField : PySem.W.subIn K (.ref C_UnknownField) (.type "ValueError") = some true)
    (xmr_UnknownField : PySem.W.mroIn K C_UnknownField (.ref C_UnknownField) = some true)
    (xga_UnknownField : PySem.W.findIn K (.ref C_UnknownField) "__getattribute__" = some (some (.builtin "BaseException.__getattribute__")))
    (xgt_UnknownField : PySem.W.findIn K (.ref C_UnknownField) "__getattr__" = some none)
    (xcl_UnknownField : PySem.W.findIn K (.ref C_UnknownField) "__class__" = some (some (.builtin "object.__class__")))
    (xhd_UnknownField : PySem.W.hasDictIn K C_UnknownField = true)
    (xob_UnknownField : PySem.W.mroIn K C_UnknownField (.type "object") = some true)
    (xno_UnknownField_field : PySem.W.findIn K (.ref C_UnknownField) "field" = some none)
    (g_LETTERS : ∃ t, mg "LETTERS" = some (.str "abcdefghijklmnopqrstuvwxyz" t))
    (z_all : PySem.W.nsIn K mainGlobals "all" = some none)
    (z_bool : PySem.W.nsIn K mainGlobals "bool" = some none)
    (z_int : PySem.W.nsIn K mainGlobals "int" = some none)
    (z_isinstance : PySem.W.nsIn K mainGlobals "isinstance" = some none)
    (z_len : PySem.W.nsIn K mainGlobals "len" = some none)
    (z_list : PySem.W.nsIn K mainGlobals "list" = some none)
    (z_range : PySem.W.nsIn K mainGlobals "range" = some none)
    (z_set : PySem.W.nsIn K mainGlobals "set" = some none)
    (z_str : PySem.W.nsIn K mainGlobals "str" = some none)
    (z_super : PySem.W.nsIn K mainGlobals "super" = some none)
    (z_tuple : PySem.W.nsIn K mainGlobals "tuple" = some none)
    (n : Nat) : ∃ fd : FuncData, (∀ (s : Shared) (v : Value), BindsTo s fd ⟨[v], []⟩ [("_law_script", v)]) ∧ ∀ base : Heap, K.In base → base.Ns mainGlobals mg → FnOk P w K mg base (L2.CX P w) (3 * n) fa fd ["_law_script"] (spL K (runF n).law) := by
  obtain rfl : f_law = fa := by
    have e := hfa.symm.trans (PySem.W.mg_of X G a_law)
    cases e
    rfl
  have B_is_integer := U_is_integer.binds (ps := ["value"]) fun _ _ _ _ _ _ us hl => match us, hl with | [_], _ => rfl
  have B_is_name := U_is_name.binds (ps := ["value"]) fun _ _ _ _ _ _ us hl => match us, hl with | [_], _ => rfl
  have B_is_one_of := U_is_one_of.binds (ps := ["value", "names"]) fun _ _ _ _ _ _ us hl => match us, hl with | [_, _], _ => rfl
  have B_are_names := U_are_names.binds (ps := ["value", "least", "most"]) fun _ _ _ _ _ _ us hl => match us, hl with | [_, _, _], _ => rfl
  have B_is_pair := U_is_pair.binds (ps := ["value"]) fun _ _ _ _ _ _ us hl => match us, hl with | [_], _ => rfl
  have B_are_fields := U_are_fields.binds (ps := ["value"]) fun _ _ _ _ _ _ us hl => match us, hl with | [_], _ => rfl
  have B_is_row := U_is_row.binds (ps := ["value", "size"]) fun _ _ _ _ _ _ us hl => match us, hl with | [_, _], _ => rfl
  have B_is_near := U_is_near.binds (ps := ["value", "looks", "size"]) fun _ _ _ _ _ _ us hl => match us, hl with | [_, _, _], _ => rfl
  have B_check_field := U_check_field.binds (ps := ["name", "parts", "words", "names"]) fun _ _ _ _ _ _ us hl => match us, hl with | [_, _, _, _], _ => rfl
  have B_Form___eq__ := U_Form___eq__.binds (ps := ["self", "other"]) fun _ _ _ _ _ _ us hl => match us, hl with | [_, _], _ => rfl
  have B_Form_field_names := U_Form_field_names.binds (ps := ["self"]) fun _ _ _ _ _ _ us hl => match us, hl with | [_], _ => rfl
  have B_Form_parts_of := U_Form_parts_of.binds (ps := ["self", "name"]) fun _ _ _ _ _ _ us hl => match us, hl with | [_, _], _ => rfl
  have B_Form_readers := U_Form_readers.binds (ps := ["self", "name"]) fun _ _ _ _ _ _ us hl => match us, hl with | [_, _], _ => rfl
  have B__law_mix := U__law_mix.binds (ps := ["_law_value", "_law_k"]) fun _ _ _ _ _ _ us hl => match us, hl with | [_, _], _ => rfl
  have B__law_box := U__law_box.binds (ps := ["_law_script"]) fun _ _ _ _ _ _ us hl => match us, hl with | [_], _ => rfl
  have B__law_draw := U__law_draw.binds (ps := ["_law_box_here", "_law_many"]) fun _ _ _ _ _ _ us hl => match us, hl with | [_, _], _ => rfl
  have B__law_same := U__law_same.binds (ps := ["_law_told", "_law_due"]) fun _ _ _ _ _ _ us hl => match us, hl with | [_, _], _ => rfl
  have B__law_names := U__law_names.binds (ps := ["_law_box_here", "_law_many"]) fun _ _ _ _ _ _ us hl => match us, hl with | [_, _], _ => rfl
  have B__law_entries := U__law_entries.binds (ps := ["_law_box_here", "_law_notes", "_law_size"]) fun _ _ _ _ _ _ us hl => match us, hl with | [_, _, _], _ => rfl
  have B__law_field := U__law_field.binds (ps := ["_law_box_here", "_law_words", "_law_names_here", "_law_name", "_law_notes"]) fun _ _ _ _ _ _ us hl => match us, hl with | [_, _, _, _, _], _ => rfl
  have B__law_parts := U__law_parts.binds (ps := ["_law_box_here"]) fun _ _ _ _ _ _ us hl => match us, hl with | [_], _ => rfl
  have B__law_tells := U__law_tells.binds (ps := ["_law_form", "_law_parts_here"]) fun _ _ _ _ _ _ us hl => match us, hl with | [_, _], _ => rfl
  have B__law_turned := U__law_turned.binds (ps := ["_law_row"]) fun _ _ _ _ _ _ us hl => match us, hl with | [_], _ => rfl
  have B__law_others := U__law_others.binds (ps := ["_law_box_here", "_law_parts_here"]) fun _ _ _ _ _ _ us hl => match us, hl with | [_, _], _ => rfl
  have B_law := U_law.binds (ps := ["_law_script"]) fun _ _ _ _ _ _ us hl => match us, hl with | [_], _ => rfl
  have KB_kb_Form_init_2_room := U_Form_init.kbinds0 (ps := ["self", "words", "fields", "room"]) 3 ["room"] [] (fun us mv ws => us ++ weave [true] mv ws) (by simp) (by simp) (fun r1 r2 r3 => Vals.append r1 (Vals.weave [true] r2 r3)) (fun _ _ _ _ _ _ us mv ws h1 h2 h3 => match us, mv, ws, h1, h2, h3 with | [_, _, _], [], [_], _, _, _ => rfl)
  have KB_kb_Form_init_2_ := U_Form_init.kbinds0 (ps := ["self", "words", "fields", "room"]) 3 [] [("room", .int 3)] (fun us mv ws => us ++ weave [false] mv ws) (by simp) (by simp) (fun r1 r2 r3 => Vals.append r1 (Vals.weave [false] r2 r3)) (fun _ _ _ _ _ _ us mv ws h1 h2 h3 => match us, mv, ws, h1, h2, h3 with | [_, _, _], [_], [], _, _, _ => ⟨_, _, _, _, _, _, rfl, rfl, rfl⟩)
  have CF : ClsF K mg CS := by
    intro c fs C hm hC
    simp only [CS, List.mem_cons, List.not_mem_nil, or_false, Prod.mk.injEq] at hm
    obtain ⟨rfl, rfl⟩ := hm
    have e := hC.symm.trans (PySem.W.mg_of X G a_Form); cases e
    exact ⟨⟨pg_Form, hd_Form, po_Form, sa_Form⟩, fun f hf => by simp only [List.mem_cons, List.not_mem_nil, or_false] at hf; rcases hf with rfl | rfl | rfl <;> assumption⟩
  obtain ⟨xcc_InvalidForm, xc_InvalidForm, xdc_InvalidForm, xpm_InvalidForm, xct_InvalidForm, xan_InvalidForm, XL_InvalidForm, XC_InvalidForm, XE_InvalidForm, XD_InvalidForm⟩ := XI_InvalidForm.ex
  obtain ⟨xcc_UnknownField, xc_UnknownField, xdc_UnknownField, xpm_UnknownField, xct_UnknownField, xan_UnknownField, XL_UnknownField, XC_UnknownField, XE_UnknownField, XD_UnknownField⟩ := XI_UnknownField.ex
  let A : Ad := { f_is_integer := f_is_integer, d_is_integer := fd_is_integer, f_is_name := f_is_name, d_is_name := fd_is_name, f_is_one_of := f_is_one_of, d_is_one_of := fd_is_one_of, f_are_names := f_are_names, d_are_names := fd_are_names, f_is_pair := f_is_pair, d_is_pair := fd_is_pair, f_are_fields := f_are_fields, d_are_fields := fd_are_fields, f_is_row := f_is_row, d_is_row := fd_is_row, f_is_near := f_is_near, d_is_near := fd_is_near, f_check_field := f_check_field, d_check_field := fd_check_field, f_Form_init := f_Form_init, d_Form_init := fd_Form_init, f_Form___eq__ := f_Form___eq__, d_Form___eq__ := fd_Form___eq__, f_Form_field_names := f_Form_field_names, d_Form_field_names := fd_Form_field_names, f_Form_parts_of := f_Form_parts_of, d_Form_parts_of := fd_Form_parts_of, f_Form_readers := f_Form_readers, d_Form_readers := fd_Form_readers, f__law_mix := f__law_mix, d__law_mix := fd__law_mix, f__law_box := f__law_box, d__law_box := fd__law_box, f__law_draw := f__law_draw, d__law_draw := fd__law_draw, f__law_same := f__law_same, d__law_same := fd__law_same, f__law_names := f__law_names, d__law_names := fd__law_names, f__law_entries := f__law_entries, d__law_entries := fd__law_entries, f__law_field := f__law_field, d__law_field := fd__law_field, f__law_parts := f__law_parts, d__law_parts := fd__law_parts, f__law_tells := f__law_tells, d__law_tells := fd__law_tells, f__law_turned := f__law_turned, d__law_turned := fd__law_turned, f__law_others := f__law_others, d__law_others := fd__law_others, f_law := f_law, d_law := fd_law, c_Form := C_Form, c_InvalidForm := C_InvalidForm, c_UnknownField := C_UnknownField, xf_InvalidForm := xf_InvalidForm, xd_InvalidForm := fdE "__init__" "InvalidForm.__init__" (defArgs st_x_InvalidForm) (defBody st_x_InvalidForm) (defScope st_x_InvalidForm) xcc_InvalidForm xc_InvalidForm xdc_InvalidForm xpm_InvalidForm xct_InvalidForm xan_InvalidForm, xf_UnknownField := xf_UnknownField, xd_UnknownField := fdE "__init__" "UnknownField.__init__" (defArgs st_x_UnknownField) (defBody st_x_UnknownField) (defScope st_x_UnknownField) xcc_UnknownField xc_UnknownField xdc_UnknownField xpm_UnknownField xct_UnknownField xan_UnknownField }
  have OX_InvalidForm : OexC K C_InvalidForm := ⟨oexB_ok oxc_InvalidForm, xsa_InvalidForm, xbe_InvalidForm, xty_InvalidForm, xk_InvalidForm⟩
  have FX_InvalidForm : ∀ base : Heap, FnOk P w K mg base (L2.CX P w) 1 xf_InvalidForm _ ["self", "part", "field"] (spE2 C_InvalidForm "part" "field") := fun base => exc_ok2 (st := st_x_InvalidForm) ⟨OX_InvalidForm, XL_InvalidForm, XC_InvalidForm, XE_InvalidForm, xsu_InvalidForm, xsv_InvalidForm, xmr_InvalidForm, opq, tops⟩ rfl XD_InvalidForm (NdefX.nscope_by rfl) rfl rfl rfl (PySem.W.mg_none_of X G z_super) (fun L => ⟨rfl, rfl, rfl⟩) xno_InvalidForm_part xno_InvalidForm_field (fun L => rfl) (fun L => rfl)
  have OX_UnknownField : OexC K C_UnknownField := ⟨oexB_ok oxc_UnknownField, xsa_UnknownField, xbe_UnknownField, xty_UnknownField, xk_UnknownField⟩
  have FX_UnknownField : ∀ base : Heap, FnOk P w K mg base (L2.CX P w) 1 xf_UnknownField _ ["self", "field"] (spE1 C_UnknownField "field") := fun base => exc_ok1 (st := st_x_UnknownField) ⟨OX_UnknownField, XL_UnknownField, XC_UnknownField, XE_UnknownField, xsu_UnknownField, xsv_UnknownField, xmr_UnknownField, opq, tops⟩ rfl XD_UnknownField (NdefX.nscope_by rfl) rfl rfl rfl (PySem.W.mg_none_of X G z_super) (fun L => ⟨rfl, rfl, rfl⟩) xno_UnknownField_field (fun L => rfl)
  have tx : Txt w K mg A := { u_is_integer := U_is_integer, b_is_integer := B_is_integer, g_is_integer := PySem.W.mg_of X G a_is_integer, u_is_name := U_is_name, b_is_name := B_is_name, g_is_name := PySem.W.mg_of X G a_is_name, u_is_one_of := U_is_one_of, b_is_one_of := B_is_one_of, g_is_one_of := PySem.W.mg_of X G a_is_one_of, u_are_names := U_are_names, b_are_names := B_are_names, g_are_names := PySem.W.mg_of X G a_are_names, u_is_pair := U_is_pair, b_is_pair := B_is_pair, g_is_pair := PySem.W.mg_of X G a_is_pair, u_are_fields := U_are_fields, b_are_fields := B_are_fields, g_are_fields := PySem.W.mg_of X G a_are_fields, u_is_row := U_is_row, b_is_row := B_is_row, g_is_row := PySem.W.mg_of X G a_is_row, u_is_near := U_is_near, b_is_near := B_is_near, g_is_near := PySem.W.mg_of X G a_is_near, u_check_field := U_check_field, b_check_field := B_check_field, g_check_field := PySem.W.mg_of X G a_check_field, u_Form_init := U_Form_init, u_Form___eq__ := U_Form___eq__, b_Form___eq__ := B_Form___eq__, sp_Form___eq__ := ⟨a_Form___eq__, i_Form___eq__⟩, u_Form_field_names := U_Form_field_names, b_Form_field_names := B_Form_field_names, h_Form_field_names := ⟨a_Form_field_names, i_Form_field_names, U_Form_field_names.kp⟩, u_Form_parts_of := U_Form_parts_of, b_Form_parts_of := B_Form_parts_of, h_Form_parts_of := ⟨a_Form_parts_of, i_Form_parts_of, U_Form_parts_of.kp⟩, u_Form_readers := U_Form_readers, b_Form_readers := B_Form_readers, h_Form_readers := ⟨a_Form_readers, i_Form_readers, U_Form_readers.kp⟩, u__law_mix := U__law_mix, b__law_mix := B__law_mix, g__law_mix := PySem.W.mg_of X G a__law_mix, u__law_box := U__law_box, b__law_box := B__law_box, g__law_box := PySem.W.mg_of X G a__law_box, u__law_draw := U__law_draw, b__law_draw := B__law_draw, g__law_draw := PySem.W.mg_of X G a__law_draw, u__law_same := U__law_same, b__law_same := B__law_same, g__law_same := PySem.W.mg_of X G a__law_same, u__law_names := U__law_names, b__law_names := B__law_names, g__law_names := PySem.W.mg_of X G a__law_names, u__law_entries := U__law_entries, b__law_entries := B__law_entries, g__law_entries := PySem.W.mg_of X G a__law_entries, u__law_field := U__law_field, b__law_field := B__law_field, g__law_field := PySem.W.mg_of X G a__law_field, u__law_parts := U__law_parts, b__law_parts := B__law_parts, g__law_parts := PySem.W.mg_of X G a__law_parts, u__law_tells := U__law_tells, b__law_tells := B__law_tells, g__law_tells := PySem.W.mg_of X G a__law_tells, u__law_turned := U__law_turned, b__law_turned := B__law_turned, g__law_turned := PySem.W.mg_of X G a__law_turned, u__law_others := U__law_others, b__law_others := B__law_others, g__law_others := PySem.W.mg_of X G a__law_others, u_law := U_law, b_law := B_law, g_law := PySem.W.mg_of X G a_law, kb_Form_init_2_room := KB_kb_Form_init_2_room, kb_Form_init_2_ := KB_kb_Form_init_2_, g_Form := PySem.W.mg_of X G a_Form, cc_Form := ⟨pg_Form, hd_Form, po_Form, sa_Form⟩, m_Form := ⟨mk_Form, a_Form_init, i_Form_init, kc_Form⟩, om_Form := nem_Form, ne_Form := nee_Form, io_Form := ⟨⟨pg_Form, hd_Form, po_Form, sa_Form⟩, ioc_Form, spc, tki, iom_Form⟩, cs := CF, c_LETTERS := g_LETTERS, n_all := PySem.W.mg_none_of X G z_all, n_bool := PySem.W.mg_none_of X G z_bool, n_int := PySem.W.mg_none_of X G z_int, n_isinstance := PySem.W.mg_none_of X G z_isinstance, n_len := PySem.W.mg_none_of X G z_len, n_list := PySem.W.mg_none_of X G z_list, n_range := PySem.W.mg_none_of X G z_range, n_set := PySem.W.mg_none_of X G z_set, n_str := PySem.W.mg_none_of X G z_str, n_super := PySem.W.mg_none_of X G z_super, n_tuple := PySem.W.mg_none_of X G z_tuple, ox_InvalidForm := OX_InvalidForm, xi_InvalidForm := xi_InvalidForm, xt_InvalidForm := xt_InvalidForm, b_InvalidForm := bindsE fun us hl => match us, hl with | [_, _, _], _ => rfl, ox_UnknownField := OX_UnknownField, xi_UnknownField := xi_UnknownField, xt_UnknownField := xt_UnknownField, b_UnknownField := bindsE fun us hl => match us, hl with | [_, _], _ => rfl, g_InvalidForm := PySem.W.mg_of X G a_InvalidForm, g_UnknownField := PySem.W.mg_of X G a_UnknownField, xf := xfall_of ⟨⟨_, PySem.W.mg_of X G a_InvalidForm, ⟨xga_InvalidForm, xgt_InvalidForm, xbe_InvalidForm, xhd_InvalidForm⟩, ⟨xga_InvalidForm, xgt_InvalidForm, xbe_InvalidForm, xhd_InvalidForm, xcl_InvalidForm, spc, tki, xob_InvalidForm⟩, fun f hf => by unfold FL at hf; cases hf⟩, ⟨_, PySem.W.mg_of X G a_UnknownField, ⟨xga_UnknownField, xgt_UnknownField, xbe_UnknownField, xhd_UnknownField⟩, ⟨xga_UnknownField, xgt_UnknownField, xbe_UnknownField, xhd_UnknownField, xcl_UnknownField, spc, tki, xob_UnknownField⟩, fun f hf => by unfold FL at hf; cases hf⟩, trivial⟩ }
  have ex : ∀ base : Heap, Exs P w K mg base A := fun base => ⟨FX_InvalidForm base, FX_UnknownField base⟩
  have hbl : ∀ (s : Shared) (v : Value), BindsTo s fd_law ⟨[v], []⟩ [("_law_script", v)] := by
    obtain ⟨_, _, _, _, _, _, _, _, _, e, _, _⟩ := U_law.ex
    subst e
    exact fun s v => .of_eq rfl
  exact ⟨_, hbl, fun base _ _ => fnL (oks_run (P := P) (w := w) (base := base) tx (ex base) n).law⟩
end LW
open PySem PySem.W PySem.Calls PyProof.Rows in
set_option maxRecDepth 100000 in
set_option maxHeartbeats 0 in
theorem PySem.Challenge.cw_wrongshown_k01_form_parts_holds : PySem.Challenge.rw_wrongshown_k01_form_parts.Holds := by
  w_on; o_law
  refine HandSHeadRun.head_any (r := OpenLaw.row PySem.Challenge.rw_wrongshown_k01_form_parts) (q := view (OpenLaw.row PySem.Challenge.rw_wrongshown_k01_form_parts).prog [29]) (H := LW.hkZ) (ob := LW.obZ) (M := 20000) (loose := LW.namesZ) (d := HandSHeadRun.topDef (OpenLaw.row PySem.Challenge.rw_wrongshown_k01_form_parts).prog 29) (kwd := []) LW.obZ_eq
    (by kernel_rfl) (fun s => by kernel_rfl) LW.runZ (by kernel_rfl) (by kernel_rfl) (by kernel_rfl) (by rfl) (by first | assumption | decide +kernel) (by decide +kernel) ⟨rfl, rfl, rfl, rfl, rfl, by decide +kernel⟩ ?hw ?hc
  case hw => w_witness2
  case hc =>
    refine W3.walk3E (l := PySem.Challenge.rw_wrongshown_k01_form_parts) (k := 3 * LW.fuel) (x := "_law_script") (f := (LW.runF LW.fuel).law) rfl (by kernel_rfl) ⟨rfl, by decide, by decide⟩ LW.law_true ?F
    intro w mg fa h Y G hmg0
    obtain ⟨K, KX, c⟩ := Y
    have hmg : mg ("law" : PySem.Str) = some (.ref fa) := by
      have e : (HandSHeadRun.topDef (OpenLaw.row PySem.Challenge.rw_wrongshown_k01_form_parts).prog 29).name = ("law" : PySem.Str) := by kernel_rfl
      rw [← e]
      exact hmg0
    obtain ⟨fd_is_integer, V_is_integer⟩ := c.t.d.def_ 0 (d := LW.dz_is_integer) rfl
    have U_is_integer : L2.Fun K "is_integer" "is_integer" LW.st_is_integer (He.fAd K ("is_integer", none)) fd_is_integer := W3.funOfD V_is_integer
    obtain ⟨fd_is_name, V_is_name⟩ := c.t.d.def_ 1 (d := LW.dz_is_name) rfl
    have U_is_name : L2.Fun K "is_name" "is_name" LW.st_is_name (He.fAd K ("is_name", none)) fd_is_name := W3.funOfD V_is_name
    obtain ⟨fd_is_one_of, V_is_one_of⟩ := c.t.d.def_ 2 (d := LW.dz_is_one_of) rfl
    have U_is_one_of : L2.Fun K "is_one_of" "is_one_of" LW.st_is_one_of (He.fAd K ("is_one_of", none)) fd_is_one_of := W3.funOfD V_is_one_of
    obtain ⟨fd_are_names, V_are_names⟩ := c.t.d.def_ 3 (d := LW.dz_are_names) rfl
    have U_are_names : L2.Fun K "are_names" "are_names" LW.st_are_names (He.fAd K ("are_names", none)) fd_are_names := W3.funOfD V_are_names
    obtain ⟨fd_is_pair, V_is_pair⟩ := c.t.d.def_ 4 (d := LW.dz_is_pair) rfl
    have U_is_pair : L2.Fun K "is_pair" "is_pair" LW.st_is_pair (He.fAd K ("is_pair", none)) fd_is_pair := W3.funOfD V_is_pair
    obtain ⟨fd_are_fields, V_are_fields⟩ := c.t.d.def_ 5 (d := LW.dz_are_fields) rfl
    have U_are_fields : L2.Fun K "are_fields" "are_fields" LW.st_are_fields (He.fAd K ("are_fields", none)) fd_are_fields := W3.funOfD V_are_fields
    obtain ⟨fd_is_row, V_is_row⟩ := c.t.d.def_ 6 (d := LW.dz_is_row) rfl
    have U_is_row : L2.Fun K "is_row" "is_row" LW.st_is_row (He.fAd K ("is_row", none)) fd_is_row := W3.funOfD V_is_row
    obtain ⟨fd_is_near, V_is_near⟩ := c.t.d.def_ 7 (d := LW.dz_is_near) rfl
    have U_is_near : L2.Fun K "is_near" "is_near" LW.st_is_near (He.fAd K ("is_near", none)) fd_is_near := W3.funOfD V_is_near
    obtain ⟨fd_check_field, V_check_field⟩ := c.t.d.def_ 8 (d := LW.dz_check_field) rfl
    have U_check_field : L2.Fun K "check_field" "check_field" LW.st_check_field (He.fAd K ("check_field", none)) fd_check_field := W3.funOfD V_check_field
    obtain ⟨fd_Form_init, V_Form_init⟩ := c.t.d.def_ 9 (d := LW.dz_Form_init) rfl
    have U_Form_init : L2.FunD K "__init__" "Form.__init__" (L2.defArgs LW.st_Form_init) (L2.defBody LW.st_Form_init) (L2.defScope LW.st_Form_init) [] [("room", .int 3)] (He.fAd K ("Form", some "__init__")) fd_Form_init := V_Form_init
    obtain ⟨fd_Form___eq__, V_Form___eq__⟩ := c.t.d.def_ 10 (d := LW.dz_Form___eq__) rfl
    have U_Form___eq__ : L2.Fun K "__eq__" "Form.__eq__" LW.st_Form___eq__ (He.fAd K ("Form", some "__eq__")) fd_Form___eq__ := W3.funOfD V_Form___eq__
    obtain ⟨fd_Form_field_names, V_Form_field_names⟩ := c.t.d.def_ 11 (d := LW.dz_Form_field_names) rfl
    have U_Form_field_names : L2.Fun K "field_names" "Form.field_names" LW.st_Form_field_names (He.fAd K ("Form", some "field_names")) fd_Form_field_names := W3.funOfD V_Form_field_names
    obtain ⟨fd_Form_parts_of, V_Form_parts_of⟩ := c.t.d.def_ 12 (d := LW.dz_Form_parts_of) rfl
    have U_Form_parts_of : L2.Fun K "parts_of" "Form.parts_of" LW.st_Form_parts_of (He.fAd K ("Form", some "parts_of")) fd_Form_parts_of := W3.funOfD V_Form_parts_of
    obtain ⟨fd_Form_readers, V_Form_readers⟩ := c.t.d.def_ 13 (d := LW.dz_Form_readers) rfl
    have U_Form_readers : L2.Fun K "readers" "Form.readers" LW.st_Form_readers (He.fAd K ("Form", some "readers")) fd_Form_readers := W3.funOfD V_Form_readers
    obtain ⟨fd__law_mix, V__law_mix⟩ := c.t.d.def_ 14 (d := LW.dz__law_mix) rfl
    have U__law_mix : L2.Fun K "_law_mix" "_law_mix" LW.st__law_mix (He.fAd K ("_law_mix", none)) fd__law_mix := W3.funOfD V__law_mix
    obtain ⟨fd__law_box, V__law_box⟩ := c.t.d.def_ 15 (d := LW.dz__law_box) rfl
    have U__law_box : L2.Fun K "_law_box" "_law_box" LW.st__law_box (He.fAd K ("_law_box", none)) fd__law_box := W3.funOfD V__law_box
    obtain ⟨fd__law_draw, V__law_draw⟩ := c.t.d.def_ 16 (d := LW.dz__law_draw) rfl
    have U__law_draw : L2.Fun K "_law_draw" "_law_draw" LW.st__law_draw (He.fAd K ("_law_draw", none)) fd__law_draw := W3.funOfD V__law_draw
    obtain ⟨fd__law_same, V__law_same⟩ := c.t.d.def_ 17 (d := LW.dz__law_same) rfl
    have U__law_same : L2.Fun K "_law_same" "_law_same" LW.st__law_same (He.fAd K ("_law_same", none)) fd__law_same := W3.funOfD V__law_same
    obtain ⟨fd__law_names, V__law_names⟩ := c.t.d.def_ 18 (d := LW.dz__law_names) rfl
    have U__law_names : L2.Fun K "_law_names" "_law_names" LW.st__law_names (He.fAd K ("_law_names", none)) fd__law_names := W3.funOfD V__law_names
    obtain ⟨fd__law_entries, V__law_entries⟩ := c.t.d.def_ 19 (d := LW.dz__law_entries) rfl
    have U__law_entries : L2.Fun K "_law_entries" "_law_entries" LW.st__law_entries (He.fAd K ("_law_entries", none)) fd__law_entries := W3.funOfD V__law_entries
    obtain ⟨fd__law_field, V__law_field⟩ := c.t.d.def_ 20 (d := LW.dz__law_field) rfl
    have U__law_field : L2.Fun K "_law_field" "_law_field" LW.st__law_field (He.fAd K ("_law_field", none)) fd__law_field := W3.funOfD V__law_field
    obtain ⟨fd__law_parts, V__law_parts⟩ := c.t.d.def_ 21 (d := LW.dz__law_parts) rfl
    have U__law_parts : L2.Fun K "_law_parts" "_law_parts" LW.st__law_parts (He.fAd K ("_law_parts", none)) fd__law_parts := W3.funOfD V__law_parts
    obtain ⟨fd__law_tells, V__law_tells⟩ := c.t.d.def_ 22 (d := LW.dz__law_tells) rfl
    have U__law_tells : L2.Fun K "_law_tells" "_law_tells" LW.st__law_tells (He.fAd K ("_law_tells", none)) fd__law_tells := W3.funOfD V__law_tells
    obtain ⟨fd__law_turned, V__law_turned⟩ := c.t.d.def_ 23 (d := LW.dz__law_turned) rfl
    have U__law_turned : L2.Fun K "_law_turned" "_law_turned" LW.st__law_turned (He.fAd K ("_law_turned", none)) fd__law_turned := W3.funOfD V__law_turned
    obtain ⟨fd__law_others, V__law_others⟩ := c.t.d.def_ 24 (d := LW.dz__law_others) rfl
    have U__law_others : L2.Fun K "_law_others" "_law_others" LW.st__law_others (He.fAd K ("_law_others", none)) fd__law_others := W3.funOfD V__law_others
    obtain ⟨fd_law, V_law⟩ := c.t.d.def_ 25 (d := LW.dz_law) rfl
    have U_law : L2.Fun K "law" "law" LW.st_law (He.fAd K ("law", none)) fd_law := W3.funOfD V_law
    obtain ⟨fd, hb, hF⟩ := LW.all_mk (P := (PySem.Challenge.rw_wrongshown_k01_form_parts).prog) (w := w) KX G hmg (C_Form := (He.ga K "Form")) (f_is_integer := (He.fAd K ("is_integer", none))) (f_is_name := (He.fAd K ("is_name", none))) (f_is_one_of := (He.fAd K ("is_one_of", none))) (f_are_names := (He.fAd K ("are_names", none))) (f_is_pair := (He.fAd K ("is_pair", none))) (f_are_fields := (He.fAd K ("are_fields", none))) (f_is_row := (He.fAd K ("is_row", none))) (f_is_near := (He.fAd K ("is_near", none))) (f_check_field := (He.fAd K ("check_field", none))) (f_Form_init := (He.fAd K ("Form", some "__init__"))) (f_Form___eq__ := (He.fAd K ("Form", some "__eq__"))) (f_Form_field_names := (He.fAd K ("Form", some "field_names"))) (f_Form_parts_of := (He.fAd K ("Form", some "parts_of"))) (f_Form_readers := (He.fAd K ("Form", some "readers"))) (f__law_mix := (He.fAd K ("_law_mix", none))) (f__law_box := (He.fAd K ("_law_box", none))) (f__law_draw := (He.fAd K ("_law_draw", none))) (f__law_same := (He.fAd K ("_law_same", none))) (f__law_names := (He.fAd K ("_law_names", none))) (f__law_entries := (He.fAd K ("_law_entries", none))) (f__law_field := (He.fAd K ("_law_field", none))) (f__law_parts := (He.fAd K ("_law_parts", none))) (f__law_tells := (He.fAd K ("_law_tells", none))) (f__law_turned := (He.fAd K ("_law_turned", none))) (f__law_others := (He.fAd K ("_law_others", none))) (f_law := (He.fAd K ("law", none))) (C_InvalidForm := (He.ga K "InvalidForm")) (C_UnknownField := (He.ga K "UnknownField")) (xf_InvalidForm := (He.ma K (He.ga K "InvalidForm") "__init__")) (xf_UnknownField := (He.ma K (He.ga K "UnknownField") "__init__"))
      (of_decide_eq_true (c.b 3 (b := LW.bz_3) rfl))
      (of_decide_eq_true (c.b 4 (b := LW.bz_4) rfl))
      (of_decide_eq_true (c.b 5 (b := LW.bz_5) rfl))
      (of_decide_eq_true (c.b 6 (b := LW.bz_6) rfl))
      (of_decide_eq_true (c.b 7 (b := LW.bz_7) rfl))
      (of_decide_eq_true (c.b 8 (b := LW.bz_8) rfl))
      (of_decide_eq_true (c.b 9 (b := LW.bz_9) rfl))
      (of_decide_eq_true (c.b 10 (b := LW.bz_10) rfl))
      (of_decide_eq_true (c.b 11 (b := LW.bz_11) rfl))
      (of_decide_eq_true (c.b 12 (b := LW.bz_12) rfl))
      (of_decide_eq_true (c.b 13 (b := LW.bz_13) rfl))
      U_is_integer
      (of_decide_eq_true (c.b 14 (b := LW.bz_14) rfl))
      U_is_name
      (of_decide_eq_true (c.b 15 (b := LW.bz_15) rfl))
      U_is_one_of
      (of_decide_eq_true (c.b 16 (b := LW.bz_16) rfl))
      U_are_names
      (of_decide_eq_true (c.b 17 (b := LW.bz_17) rfl))
      U_is_pair
      (of_decide_eq_true (c.b 18 (b := LW.bz_18) rfl))
      U_are_fields
      (of_decide_eq_true (c.b 19 (b := LW.bz_19) rfl))
      U_is_row
      (of_decide_eq_true (c.b 20 (b := LW.bz_20) rfl))
      U_is_near
      (of_decide_eq_true (c.b 21 (b := LW.bz_21) rfl))
      U_check_field
      (of_decide_eq_true (c.b 22 (b := LW.bz_22) rfl))
      (of_decide_eq_true (c.b 23 (b := LW.bz_23) rfl))
      U_Form_init
      (of_decide_eq_true (c.b 24 (b := LW.bz_24) rfl))
      (of_decide_eq_true (c.b 25 (b := LW.bz_25) rfl))
      U_Form___eq__
      (of_decide_eq_true (c.b 26 (b := LW.bz_26) rfl))
      (of_decide_eq_true (c.b 27 (b := LW.bz_27) rfl))
      U_Form_field_names
      (of_decide_eq_true (c.b 28 (b := LW.bz_28) rfl))
      (of_decide_eq_true (c.b 29 (b := LW.bz_29) rfl))
      U_Form_parts_of
      (of_decide_eq_true (c.b 30 (b := LW.bz_30) rfl))
      (of_decide_eq_true (c.b 31 (b := LW.bz_31) rfl))
      U_Form_readers
      (of_decide_eq_true (c.b 32 (b := LW.bz_32) rfl))
      U__law_mix
      (of_decide_eq_true (c.b 33 (b := LW.bz_33) rfl))
      U__law_box
      (of_decide_eq_true (c.b 34 (b := LW.bz_34) rfl))
      U__law_draw
      (of_decide_eq_true (c.b 35 (b := LW.bz_35) rfl))
      U__law_same
      (of_decide_eq_true (c.b 36 (b := LW.bz_36) rfl))
      U__law_names
      (of_decide_eq_true (c.b 37 (b := LW.bz_37) rfl))
      U__law_entries
      (of_decide_eq_true (c.b 38 (b := LW.bz_38) rfl))
      U__law_field
      (of_decide_eq_true (c.b 39 (b := LW.bz_39) rfl))
      U__law_parts
      (of_decide_eq_true (c.b 40 (b := LW.bz_40) rfl))
      U__law_tells
      (of_decide_eq_true (c.b 41 (b := LW.bz_41) rfl))
      U__law_turned
      (of_decide_eq_true (c.b 42 (b := LW.bz_42) rfl))
      U__law_others
      (of_decide_eq_true (c.b 43 (b := LW.bz_43) rfl))
      U_law
      (of_decide_eq_true (c.b 44 (b := LW.bz_44) rfl))
      (of_decide_eq_true (c.b 45 (b := LW.bz_45) rfl))
      (of_decide_eq_true (c.b 46 (b := LW.bz_46) rfl))
      (of_decide_eq_true (c.b 47 (b := LW.bz_47) rfl))
      (of_decide_eq_true (c.b 48 (b := LW.bz_48) rfl))
      (of_decide_eq_true (c.b 49 (b := LW.bz_49) rfl))
      (of_decide_eq_true (c.b 50 (b := LW.bz_50) rfl))
      (by decide +kernel)
      (of_decide_eq_true (c.b 51 (b := LW.bz_51) rfl))
      (of_decide_eq_true (c.b 52 (b := LW.bz_52) rfl))
      (of_decide_eq_true (c.b 53 (b := LW.bz_53) rfl))
      (of_decide_eq_true (c.b 54 (b := LW.bz_54) rfl))
      (of_decide_eq_true (c.b 55 (b := LW.bz_55) rfl))
      (of_decide_eq_true (c.b 56 (b := LW.bz_56) rfl))
      (of_decide_eq_true (c.b 57 (b := LW.bz_57) rfl))
      (of_decide_eq_true (c.b 58 (b := LW.bz_58) rfl))
      (of_decide_eq_true (c.b 59 (b := LW.bz_59) rfl))
      (W3.xinit_of (c.x 0 (f := LW.xz_InvalidForm) (e := W3.xeV "InvalidForm.__init__" LW.st_x_InvalidForm) rfl rfl) (c.b 1 (b := LW.bz_1) rfl))
      (of_decide_eq_true (c.b 60 (b := LW.bz_60) rfl))
      (of_decide_eq_true (c.b 61 (b := LW.bz_61) rfl))
      (of_decide_eq_true (c.b 62 (b := LW.bz_62) rfl))
      (of_decide_eq_true (c.b 63 (b := LW.bz_63) rfl))
      (of_decide_eq_true (c.b 64 (b := LW.bz_64) rfl))
      (of_decide_eq_true (c.b 65 (b := LW.bz_65) rfl))
      (of_decide_eq_true (c.b 66 (b := LW.bz_66) rfl))
      (of_decide_eq_true (c.b 67 (b := LW.bz_67) rfl))
      (of_decide_eq_true (c.b 68 (b := LW.bz_68) rfl))
      (of_decide_eq_true (c.b 69 (b := LW.bz_69) rfl))
      (of_decide_eq_true (c.b 70 (b := LW.bz_70) rfl))
      (of_decide_eq_true (c.b 71 (b := LW.bz_71) rfl))
      (of_decide_eq_true (c.b 72 (b := LW.bz_72) rfl))
      (of_decide_eq_true (c.b 73 (b := LW.bz_73) rfl))
      (of_decide_eq_true (c.b 74 (b := LW.bz_74) rfl))
      (of_decide_eq_true (c.b 75 (b := LW.bz_75) rfl))
      (of_decide_eq_true (c.b 76 (b := LW.bz_76) rfl))
      (W3.xinit_of (c.x 1 (f := LW.xz_UnknownField) (e := W3.xeV "UnknownField.__init__" LW.st_x_UnknownField) rfl rfl) (c.b 2 (b := LW.bz_2) rfl))
      (of_decide_eq_true (c.b 77 (b := LW.bz_77) rfl))
      (of_decide_eq_true (c.b 78 (b := LW.bz_78) rfl))
      (of_decide_eq_true (c.b 79 (b := LW.bz_79) rfl))
      (of_decide_eq_true (c.b 80 (b := LW.bz_80) rfl))
      (of_decide_eq_true (c.b 81 (b := LW.bz_81) rfl))
      (of_decide_eq_true (c.b 82 (b := LW.bz_82) rfl))
      (of_decide_eq_true (c.b 83 (b := LW.bz_83) rfl))
      (of_decide_eq_true (c.b 84 (b := LW.bz_84) rfl))
      (of_decide_eq_true (c.b 85 (b := LW.bz_85) rfl))
      (He.str_ok KX G (c.b 0 (b := LW.bz_0) rfl))
      (of_decide_eq_true (c.b 86 (b := LW.bz_86) rfl))
      (of_decide_eq_true (c.b 87 (b := LW.bz_87) rfl))
      (of_decide_eq_true (c.b 88 (b := LW.bz_88) rfl))
      (of_decide_eq_true (c.b 89 (b := LW.bz_89) rfl))
      (of_decide_eq_true (c.b 90 (b := LW.bz_90) rfl))
      (of_decide_eq_true (c.b 91 (b := LW.bz_91) rfl))
      (of_decide_eq_true (c.b 92 (b := LW.bz_92) rfl))
      (of_decide_eq_true (c.b 93 (b := LW.bz_93) rfl))
      (of_decide_eq_true (c.b 94 (b := LW.bz_94) rfl))
      (of_decide_eq_true (c.b 95 (b := LW.bz_95) rfl))
      (of_decide_eq_true (c.b 96 (b := LW.bz_96) rfl))
      LW.fuel
    exact ⟨K, fd, KX, hb, hF⟩
end
