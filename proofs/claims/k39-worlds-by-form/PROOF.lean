import PyProof.Rows.All
import Wide.All
import OpenK.AllK
import Wide.FinOn
import HandS.ForMost
import HandS.Wide
import HandS.IsInst
import HandS.Flow
import HandS.Defaults
import HandS.Walk
import HandS.TupAny
import HandS.StrMore
import HandS.Head0
import HandS.Head1
import HandS.Head2
import HandS.HeadEnd
import HandS.HeadHook1
import HandS.HeadHook2
import HandS.HeadHook3
import HandS.HeadHook4
import HandS.ExcOwn
import HandS.Property
import HandS.Star
import KE.KCallOwn
import KE.KOpsOwn
import HandS.HeadNt
import PyProof.ReprRoads
import HandS.ExcInit
import HandS.ExcField
import HandS.ExcIs
import KE.KExcIs
import HandS.DictComp
import HandS.Iter
import HandS.Exc
import HandS.TryMany
import HandS.ClsMeth
import PyProof.StrLawsRepr
import HandS.GenList
import PyProof.DictWalks
import HandS.Style
import HandS.Zip
import HandS.RaiseMore
import PyProof.AutoSeq1
import KE.KDictOf
import HandS.MakeKwOnly
import HandS.More
import HandS.Nested
import HandS.NestedK
import KE.KSuper
import KE.GoesMore
import HandS.IterVal
import HandS.Text
import PyProof.EqKinds
import HandS.SetFor
import KE.KStrOpen
import HandS.NoneIn
import KE.KWithOwn
import HandS.Deep
import PyProof.FactsAll.list_1
import HandS.SortRule
import KE.KParD
import HandS.ListItems
import HandS.Conv
import KE.KDictList
import HandS.Sort
import HandS.Strs
import PyProof.P3Eq
import HandS.HeadWalk
import PySem.Challenge.RW_unseenwrites_k39_worlds_by_form
namespace Ub
end Ub
namespace Ux
end Ux
namespace Uo
end Uo
namespace Vk
end Vk
namespace Ug
end Ug
namespace Ur
end Ur
namespace Tr
end Tr
namespace Ue
end Ue
namespace Up
end Up
namespace Sg
end Sg
namespace Wb
end Wb
namespace Ve
end Ve
namespace Va
end Va
namespace Pt
end Pt
namespace Gr
end Gr
namespace Rw
end Rw
namespace Sb
end Sb
namespace Sup
end Sup
namespace Wt
end Wt
namespace Lx
end Lx
namespace Gk
end Gk
namespace Bt
end Bt
namespace Kw
end Kw
namespace Pk
end Pk
namespace Ni
end Ni
set_option Elab.async false
set_option linter.all false
set_option maxRecDepth 100000
set_option maxHeartbeats 4000000
namespace Ux
open PySem PySem.W PySem.Calls PyProof.Rows
noncomputable abbrev EndAt (R : OpenRow) (M : Nat) (w : World) (os : OsState) : Option SharedT := HandSHeadRun.endF (HandSHeadRun.stepQ (HandSHeadRun.denQ HandSHeadRun.tabQ) R.prog w) M R.prog w os
noncomputable abbrev lookAt (R : OpenRow) (w : World) (s : SharedT) : Bool := HandSHeadRun.looksF R.prog (boot_heap w.params) s.abs
noncomputable abbrev seenAt (R : OpenRow) (q : Program) (loose : List Str) (s : SharedT) := HandSHeadRun.seenQ q loose (importedModules R.prog.main.body) (fun s => xlAt q [] s && recOk R.toRowW.records s) s.abs
noncomputable abbrev goodAt (q : Program) (loose : List Str) := openGood q loose
end Ux
namespace Uo
open PySem PySem.Spec PyProof.Rows L2 Ub
section
variable {X : Cx} {CX : CXT} {k : Nat} {f C : Addr} {fd : FuncData} {ps : List Str} {sp : Sp} {E : XK}
def kinds0 : List Value := [.type "NoneType", .type "bool", .type "int", .type "str", .type "list", .type "tuple"]
def nfB (K : PySem.W.Frag) (C : Addr) : Bool := kinds0.all fun t => PySem.W.notFirst K C t
def noNeB (K : PySem.W.Frag) (C : Addr) : Bool := decide (PySem.W.findIn K (.ref C) "__ne__" = some (some (.builtin "object.__ne__"))) && decide (PySem.W.mroIn K C (.type "object") = some true)
end
end Uo
namespace Vk
open PySem PySem.Spec PyProof.Rows L2 Ub
def gAd (K : PySem.W.Frag) (x f : Str) : Addr := He5.wf K (He.ga K x) "property" f
def exP (ex : PySem.W.Frag → Bool) (pn : List He5.DefA) (K : PySem.W.Frag) : Bool := ex K && pn.all fun d => d.ok K
def fnP (pn : List He5.DefA) (K : PySem.W.Frag) : List He.FnW := pn.map fun d => He5.fnA K (d.at_ K)
def propB (K : PySem.W.Frag) (x f : Str) : Bool := decide (PySem.W.findIn K (.ref (He.ga K x)) f = some (some (.ref (He.ma K (He.ga K x) f)))) && (decide (PySem.W.specialIn K (.ref (He.ma K (He.ga K x) f)) "__get__" = some (some (.builtin "property.__get__"))) && (decide (PySem.W.takesIn K (.ref (He.ma K (He.ga K x) f)) = some true) &&
  (match PySem.W.recIn K (He.ma K (He.ga K x) f) "property" with | some (.ref _ :: _) => true | _ => false)))
end Vk
namespace Ue
open PySem PySem.Spec PyProof.Rows L2 Ub
def clB (K : PySem.W.Frag) (C : Addr) : Bool := match K.lookup C with
  | some ⟨.type T, _, .cls cd, sl⟩ => (match cd.mro, sl.toList with
    | .ref C' :: bm, [_, _, _, _, some (.builtin n), _] => decide (T = "type") && (decide (C' = C) && (decide (n = "ValueError.__new__") && (!cd.hasDel && (cd.hasDict && PySem.HandSPX.refsVE bm))))
    | _, _ => false)
  | _ => false
def exB (K : PySem.W.Frag) (C fI : Addr) (f : Str) : Bool :=
  clB K C && (He.eqO (PySem.W.findIn K (.ref C) "__setattr__") (some (some (.builtin "object.__setattr__"))) && (decide (PySem.W.typeIn K (.ref C) = some (.type "type")) && (PySem.W.keepIn K (.ref C) && (xfB K C &&
  (He.eqO (PySem.W.findIn K (.ref C) "__class__") (some (some (.builtin "object.__class__"))) && (He.eqO (PySem.W.specialIn K (.builtin "object.__class__") "__get__") (some (some (.builtin "getset_descriptor.__get__"))) &&
  (decide (PySem.W.takesIn K (.builtin "object.__class__") = some true) && (decide (PySem.W.mroIn K C (.type "object") = some true) && (He.eqO (PySem.W.findIn K (.ref C) f) (some none) &&
  (He.eqO (PySem.W.findIn K (.ref C) "__init__") (some (some (.ref fI))) && decide (PySem.W.typeIn K (.ref fI) = some (.type "function"))))))))))))
end Ue
namespace Ve
open PySem PySem.Spec PyProof.Rows L2 Ub Ur Ug Ue Up Uo
def tyCB (K : PySem.W.Frag) (C : Addr) : Bool := decide (PySem.W.findIn K (.ref C) "__class__" = some (some (.builtin "object.__class__"))) && (decide (PySem.W.specialIn K (.builtin "object.__class__") "__get__" = some (some (.builtin "getset_descriptor.__get__"))) &&
  (decide (PySem.W.takesIn K (.builtin "object.__class__") = some true) && (decide (PySem.W.mroIn K C (.type "object") = some true) && decide (PySem.W.kitOne K (.ref C) (.ref C) = some true))))
end Ve
namespace Sup
open PySem PySem.Spec L2 NdefX
open PyProof.Rows hiding wpAt wpAt_mono wpAt_bind
def fileB (K : PySem.W.Frag) (f : Addr) (file : Str) : Bool := match K.lookup f with
  | some ⟨_, _, .func fd, _⟩ => (match fd.code with
    | .ref c => (match K.lookup c with
      | some ⟨_, _, .fields vs, _⟩ => (match vs[2]? with
        | some (Value.str z _) => decide (z = file)
        | _ => false)
      | _ => false)
    | _ => false)
  | _ => false
def supB (K : PySem.W.Frag) (C D : Addr) (m : Str) (f f2 : Addr) (file : Str) : Bool := decide (PySem.W.ks_superIn K C D m = some (some (.ref f2))) && (decide (PySem.W.typeIn K (.ref f2) = some (.type "function")) && (decide (PySem.W.mroIn K C (.ref D) = some true) && ((PySem.W.clsIn K D).isSome && ((PySem.W.clsIn K C).isSome &&
  (decide (PySem.W.nsIn K cStatics "thirdparty.any" = some none) && (PySem.W.fnIn K f2 && fileB K f file))))))
end Sup
namespace Sup
open PySem PySem.Spec PyProof.Rows L2 NdefX
structure DefS where
  at_ : PySem.W.Frag → Addr
  name : Str
  qual : Str
  st : Stmt
  cls : PySem.W.Frag → Addr
def fnS (K : PySem.W.Frag) (a : Addr) : He.FnW := match K.lookup a with
  | some ⟨_, _, .func fd, _⟩ => some (fd.name, fd.qualname, fd.params, fd.body, fd.scope, fd.globals, fd.closure.map (fun c => (c.1, 0)), fd.builtins)
  | _ => none
def DefS.val (d : DefS) : He.FnW := some (d.name, d.qual, C8.fnArgs d.st, .stmts (C8.fnBody d.st), C8.fnScope d.st, mainGlobals, [("__class__", 0)], builtinsNs)
def DefS.ok (K : PySem.W.Frag) (d : DefS) : Bool := PySem.W.keepIn K (.ref (d.at_ K)) && (match K.lookup (d.at_ K) with
  | some ⟨_, _, .func fd, _⟩ => (match fd.code with | .ref c => PySem.W.codeIn K (.ref c) d.qual | _ => false) && (decide (fd.defaults = Value.none) && (decide (fd.kwdefaults = Value.none) && (fd.annotations.isNone && (match fd.closure with
    | [(_, cc)] => (match K.lookup cc with
      | some ⟨_, _, .cell (some (.ref D)), _⟩ => decide (D = d.cls K)
      | _ => false)
    | _ => false))))
  | _ => false)
def fnSs (sn : List DefS) (K : PySem.W.Frag) : List He.FnW := sn.map fun d => fnS K (d.at_ K)
end Sup
namespace Lx
open PySem PySem.Spec PyProof.Rows L2 Ub
def topS (i : Nat) : Stmt := PySem.Challenge.pw_unseenwrites_k39_worlds_by_form.main.body.getD i (.Pass ⟨0, 0, 0, 0⟩)
abbrev s_BadShape___init__ : Stmt := inClass (topS 3) 0
abbrev s_BadPath___init__ : Stmt := inClass (topS 4) 0
abbrev s_BadLine___init__ : Stmt := inClass (topS 9) 0
abbrev s_is_word : Stmt := topS 26
abbrev s_records_of : Stmt := topS 27
abbrev s_plains_of : Stmt := topS 28
abbrev s_text_of : Stmt := topS 29
abbrev s_scan_word : Stmt := topS 30
abbrev s_scan_shape : Stmt := topS 31
abbrev s_is_bounded : Stmt := topS 32
abbrev s_tree_of : Stmt := topS 33
abbrev s_Shape___init__ : Stmt := inClass (topS 35) 0
abbrev s_Shape_is_plain : Stmt := inClass (topS 35) 1
abbrev s_Shape_records : Stmt := inClass (topS 35) 3
abbrev s_Shape_plains : Stmt := inClass (topS 35) 4
abbrev s_Shape___getitem__ : Stmt := inClass (topS 35) 8
abbrev s_Shape___contains__ : Stmt := inClass (topS 35) 9
abbrev s_is_whole : Stmt := topS 37
abbrev s_are_wholes : Stmt := topS 38
abbrev s_spans_of : Stmt := topS 48
abbrev s_are_numbered : Stmt := topS 49
abbrev s_are_consistent : Stmt := topS 50
abbrev s_is_form : Stmt := topS 51
abbrev s_is_held_form : Stmt := topS 52
abbrev s_check_record_path : Stmt := topS 65
abbrev s_Worlds___init__ : Stmt := inClass (topS 69) 1
abbrev s_Worlds___contains__ : Stmt := inClass (topS 69) 3
abbrev s_HeldWorlds___init__ : Stmt := inClass (topS 70) 1
abbrev s_HeldWorlds___contains__ : Stmt := inClass (topS 70) 4
abbrev s_Update___init__ : Stmt := inClass (topS 94) 0
abbrev s_add_line : Stmt := topS 98
abbrev s_Book___init__ : Stmt := inClass (topS 101) 0
abbrev s_law_start : Stmt := topS 103
abbrev s_law_draw : Stmt := topS 104
abbrev s_law_of : Stmt := topS 105
abbrev s_law_word : Stmt := topS 106
abbrev s_law_size : Stmt := topS 108
abbrev s_law_tree : Stmt := topS 109
abbrev s_law_fields : Stmt := topS 110
abbrev s_law_text : Stmt := topS 111
abbrev s_law_paths : Stmt := topS 112
abbrev s_law_path : Stmt := topS 113
abbrev s_law_shape : Stmt := topS 114
abbrev s_law_made : Stmt := topS 115
abbrev s_law_at : Stmt := topS 116
abbrev s_law_below : Stmt := topS 117
abbrev s_law_get : Stmt := topS 118
abbrev s_law_set : Stmt := topS 119
abbrev s_law_content : Stmt := topS 120
abbrev s_law_nodes : Stmt := topS 122
abbrev s_law_numbers : Stmt := topS 123
abbrev s_law_form : Stmt := topS 124
abbrev s_law_held_form : Stmt := topS 125
abbrev s_law_spoiled : Stmt := topS 126
abbrev s_law_is_row : Stmt := topS 127
abbrev s_law_is_counted : Stmt := topS 128
abbrev s_law_places : Stmt := topS 129
abbrev s_law_do_agree : Stmt := topS 130
abbrev s_law_is_world : Stmt := topS 131
abbrev s_law_shared : Stmt := topS 132
abbrev s_law : Stmt := topS 133
def dd (at_ : Str × Option Str) (x q : Str) (st : Stmt) (dfl : List He.Dv) : He.DefD := ⟨at_, x, q, defArgs st, defBody st, defScope st, dfl, []⟩
def fileT : Str := PySem.Challenge.pw_unseenwrites_k39_worlds_by_form.main.file
def sn : List Sup.DefS := [⟨fun K => He.fAd K ("HeldWorlds", some "__init__"), "__init__", "HeldWorlds.__init__", s_HeldWorlds___init__, fun K => He.ga K "HeldWorlds"⟩]
def fn0 : List He.DefD := [dd ("BadShape", some "__init__") "__init__" "BadShape.__init__" s_BadShape___init__ [],
  dd ("BadPath", some "__init__") "__init__" "BadPath.__init__" s_BadPath___init__ [],
  dd ("BadLine", some "__init__") "__init__" "BadLine.__init__" s_BadLine___init__ [],
  dd ("is_word", none) "is_word" "is_word" s_is_word [],
  dd ("records_of", none) "records_of" "records_of" s_records_of [],
  dd ("plains_of", none) "plains_of" "plains_of" s_plains_of [],
  dd ("text_of", none) "text_of" "text_of" s_text_of [],
  dd ("scan_word", none) "scan_word" "scan_word" s_scan_word [],
  dd ("scan_shape", none) "scan_shape" "scan_shape" s_scan_shape [.int 3],
  dd ("is_bounded", none) "is_bounded" "is_bounded" s_is_bounded []]
def fa0 : List He.Fa := [.glo "UnseenwritesError", .glo "BadShape", .glo "BadPath", .glo "BadLine", .glo "KEPT_WORDS", .glo "is_word", .glo "records_of", .glo "plains_of", .glo "text_of", .glo "scan_word", .glo "scan_shape", .glo "is_bounded", .glo "tree_of", .glo "Shape", .glo "is_whole", .glo "are_wholes", .glo "spans_of", .glo "are_numbered", .glo "are_consistent", .glo "is_form"]
def ex0 (K : PySem.W.Frag) : Bool := true
def fn1 : List He.DefD := [dd ("tree_of", none) "tree_of" "tree_of" s_tree_of [],
  dd ("Shape", some "__init__") "__init__" "Shape.__init__" s_Shape___init__ [],
  dd ("Shape", some "__getitem__") "__getitem__" "Shape.__getitem__" s_Shape___getitem__ [],
  dd ("Shape", some "__contains__") "__contains__" "Shape.__contains__" s_Shape___contains__ [],
  dd ("is_whole", none) "is_whole" "is_whole" s_is_whole [],
  dd ("are_wholes", none) "are_wholes" "are_wholes" s_are_wholes [],
  dd ("spans_of", none) "spans_of" "spans_of" s_spans_of [],
  dd ("are_numbered", none) "are_numbered" "are_numbered" s_are_numbered [],
  dd ("are_consistent", none) "are_consistent" "are_consistent" s_are_consistent [],
  dd ("is_form", none) "is_form" "is_form" s_is_form []]
def fa1 : List He.Fa := [.glo "is_held_form", .glo "KINDS", .glo "check_record_path", .glo "Worlds", .glo "HeldWorlds", .glo "MARKS", .glo "JOINED_WORDS", .glo "Update", .glo "add_line", .glo "Book", .glo "_law_start", .glo "_law_draw", .glo "_law_of", .glo "_law_word", .glo "_law_size", .glo "_law_tree", .glo "_law_fields", .glo "_law_text", .glo "_law_paths", .glo "_law_path"]
def ex1 (K : PySem.W.Frag) : Bool := true
def fn2 : List He.DefD := [dd ("is_held_form", none) "is_held_form" "is_held_form" s_is_held_form [],
  dd ("check_record_path", none) "check_record_path" "check_record_path" s_check_record_path [],
  dd ("Worlds", some "__init__") "__init__" "Worlds.__init__" s_Worlds___init__ [],
  dd ("Worlds", some "__contains__") "__contains__" "Worlds.__contains__" s_Worlds___contains__ [],
  dd ("HeldWorlds", some "__contains__") "__contains__" "HeldWorlds.__contains__" s_HeldWorlds___contains__ [],
  dd ("Update", some "__init__") "__init__" "Update.__init__" s_Update___init__ [],
  dd ("add_line", none) "add_line" "add_line" s_add_line [],
  dd ("Book", some "__init__") "__init__" "Book.__init__" s_Book___init__ [],
  dd ("_law_start", none) "_law_start" "_law_start" s_law_start [],
  dd ("_law_draw", none) "_law_draw" "_law_draw" s_law_draw []]
def fa2 : List He.Fa := [.glo "_law_shape", .glo "_law_made", .glo "_law_at", .glo "_law_below", .glo "_law_get", .glo "_law_set", .glo "_law_content", .glo "_law_nodes", .glo "_law_numbers", .glo "_law_form", .glo "_law_held_form", .glo "_law_spoiled", .glo "_law_is_row", .glo "_law_is_counted", .glo "_law_places", .glo "_law_do_agree", .glo "_law_is_world", .glo "_law_shared", .glo "law", .int "MOST_DEPTH" 3]
def ex2 (K : PySem.W.Frag) : Bool := true
def fn3 : List He.DefD := [dd ("_law_of", none) "_law_of" "_law_of" s_law_of [],
  dd ("_law_word", none) "_law_word" "_law_word" s_law_word [],
  dd ("_law_size", none) "_law_size" "_law_size" s_law_size [],
  dd ("_law_tree", none) "_law_tree" "_law_tree" s_law_tree [],
  dd ("_law_fields", none) "_law_fields" "_law_fields" s_law_fields [],
  dd ("_law_text", none) "_law_text" "_law_text" s_law_text [],
  dd ("_law_paths", none) "_law_paths" "_law_paths" s_law_paths [],
  dd ("_law_path", none) "_law_path" "_law_path" s_law_path [],
  dd ("_law_shape", none) "_law_shape" "_law_shape" s_law_shape [],
  dd ("_law_made", none) "_law_made" "_law_made" s_law_made []]
def fa3 : List He.Fa := [.int "MOST_RECORDS" 5, .int "MOST_PLAINS" 5, .int "MOST_FIELDS" 3, .int "MOST_PARAMETERS" 3, .int "MOST_SLOTS" 3, .int "MOST_ROWS" 8, .int "MOST_THENS" 3, .int "MOST_UPDATES" 4, .str "LETTERS" "abcdefghijklmnopqrstuvwxyz", .free "ValueError", .free "abs", .free "all", .free "any", .free "bool", .free "classmethod", .free "dict", .free "enumerate", .free "int", .free "isinstance", .free "iter"]
def ex3 (K : PySem.W.Frag) : Bool := true
def fn4 : List He.DefD := [dd ("_law_at", none) "_law_at" "_law_at" s_law_at [],
  dd ("_law_below", none) "_law_below" "_law_below" s_law_below [],
  dd ("_law_get", none) "_law_get" "_law_get" s_law_get [],
  dd ("_law_set", none) "_law_set" "_law_set" s_law_set [],
  dd ("_law_content", none) "_law_content" "_law_content" s_law_content [],
  dd ("_law_nodes", none) "_law_nodes" "_law_nodes" s_law_nodes [],
  dd ("_law_numbers", none) "_law_numbers" "_law_numbers" s_law_numbers [],
  dd ("_law_form", none) "_law_form" "_law_form" s_law_form [],
  dd ("_law_held_form", none) "_law_held_form" "_law_held_form" s_law_held_form [],
  dd ("_law_spoiled", none) "_law_spoiled" "_law_spoiled" s_law_spoiled []]
def fa4 : List He.Fa := [.free "len", .free "list", .free "max", .free "range", .free "set", .free "sorted", .free "str", .free "sum", .free "super", .free "tuple", .free "zip", .cls "Shape", .mkr "Shape", .noat "Shape" "text", .noat "Shape" "tree", .noat "Shape" "names", .noat "Shape" "fields", .noat "Shape" "spots", .meth "Shape" "__getitem__", .meth "Shape" "__contains__"]
def ex4 (K : PySem.W.Frag) : Bool := true
def fn5 : List He.DefD := [dd ("_law_is_row", none) "_law_is_row" "_law_is_row" s_law_is_row [],
  dd ("_law_is_counted", none) "_law_is_counted" "_law_is_counted" s_law_is_counted [],
  dd ("_law_places", none) "_law_places" "_law_places" s_law_places [],
  dd ("_law_do_agree", none) "_law_do_agree" "_law_do_agree" s_law_do_agree [],
  dd ("_law_is_world", none) "_law_is_world" "_law_is_world" s_law_is_world [],
  dd ("_law_shared", none) "_law_shared" "_law_shared" s_law_shared [],
  dd ("law", none) "law" "law" s_law []]
def fa5 : List He.Fa := [.cls "Book", .mkr "Book", .noat "Book" "text", .noat "Book" "shape", .noat "Book" "names", .noat "Book" "updates", .cls "Update", .mkr "Update", .cls "Worlds", .mkr "Worlds", .noat "Worlds" "book", .meth "Worlds" "__contains__", .cls "HeldWorlds", .mkr "HeldWorlds", .noat "HeldWorlds" "book", .noat "HeldWorlds" "path", .meth "HeldWorlds" "__contains__"]
def ex5 (K : PySem.W.Frag) : Bool := (He.tupB K "KEPT_WORDS" [.str "document", .str "update", .str "set", .str "new", .str "edit", .str "merge", .str "then", .str "old", .str "copy"]) && (He.tupB K "KINDS" [.str "same", .str "level", .str "equal"]) && (He.tupB K "MARKS" [.str "set", .str "new", .str "edit", .str "merge"]) && (He.tupB K "JOINED_WORDS" [.str "a", .str "b", .str "c"]) && (decide (PySem.W.fnIn K (He.fAd K ("Shape", some "__getitem__")) = true)) && (decide (PySem.W.fnIn K (He.fAd K ("Shape", some "__contains__")) = true)) && (Uo.nfB K (He.ga K "Shape")) && (Uo.noNeB K (He.ga K "Shape")) && (Ve.tyCB K (He.ga K "Shape")) && (decide (PySem.W.fnIn K (He.fAd K ("Worlds", some "__contains__")) = true)) && (decide (PySem.W.fnIn K (He.fAd K ("HeldWorlds", some "__contains__")) = true)) && (Sup.supB K (He.ga K "HeldWorlds") (He.ga K "HeldWorlds") "__init__" (He.fAd K ("HeldWorlds", some "__init__")) (He.fAd K ("Worlds", some "__init__")) fileT) && (sn.all fun d => d.ok K) && (Ue.exB K (He.ga K "BadShape") (He.fAd K ("BadShape", some "__init__")) "text") && (Ue.exB K (He.ga K "BadPath") (He.fAd K ("BadPath", some "__init__")) "path") && (Ue.exB K (He.ga K "BadLine") (He.fAd K ("BadLine", some "__init__")) "at") && (Vk.propB K "Shape" "is_plain") && (Vk.propB K "Shape" "records") && (Vk.propB K "Shape" "plains")
def ex5P0 (K : PySem.W.Frag) : Bool := (He.tupB K "KEPT_WORDS" [.str "document", .str "update", .str "set", .str "new", .str "edit", .str "merge", .str "then", .str "old", .str "copy"]) && (He.tupB K "KINDS" [.str "same", .str "level", .str "equal"]) && (He.tupB K "MARKS" [.str "set", .str "new", .str "edit", .str "merge"]) && (He.tupB K "JOINED_WORDS" [.str "a", .str "b", .str "c"]) && (decide (PySem.W.fnIn K (He.fAd K ("Shape", some "__getitem__")) = true)) && (decide (PySem.W.fnIn K (He.fAd K ("Shape", some "__contains__")) = true)) && (Uo.nfB K (He.ga K "Shape")) && (Uo.noNeB K (He.ga K "Shape")) && (Ve.tyCB K (He.ga K "Shape")) && (decide (PySem.W.fnIn K (He.fAd K ("Worlds", some "__contains__")) = true))
def ex5P1 (K : PySem.W.Frag) : Bool := (decide (PySem.W.fnIn K (He.fAd K ("HeldWorlds", some "__contains__")) = true)) && (Sup.supB K (He.ga K "HeldWorlds") (He.ga K "HeldWorlds") "__init__" (He.fAd K ("HeldWorlds", some "__init__")) (He.fAd K ("Worlds", some "__init__")) fileT) && (sn.all fun d => d.ok K) && (Ue.exB K (He.ga K "BadShape") (He.fAd K ("BadShape", some "__init__")) "text") && (Ue.exB K (He.ga K "BadPath") (He.fAd K ("BadPath", some "__init__")) "path") && (Ue.exB K (He.ga K "BadLine") (He.fAd K ("BadLine", some "__init__")) "at") && (Vk.propB K "Shape" "is_plain") && (Vk.propB K "Shape" "records") && (Vk.propB K "Shape" "plains")
theorem ex5_eq (K : PySem.W.Frag) : ex5 K = (ex5P0 K && ex5P1 K) := by
  unfold ex5 ex5P0 ex5P1
  simp only [Bool.and_assoc]
abbrev fn : List He.DefD := (fn0 ++ (fn1 ++ (fn2 ++ (fn3 ++ (fn4 ++ fn5)))))
abbrev fa : List He.Fa := (fa0 ++ (fa1 ++ (fa2 ++ (fa3 ++ (fa4 ++ fa5)))))
abbrev ex : PySem.W.Frag → Bool := (fun K => ex0 K && (fun K => ex1 K && (fun K => ex2 K && (fun K => ex3 K && (fun K => ex4 K && ex5 K) K) K) K) K)
def pd (x f q : Str) (st : Stmt) : He5.DefA := ⟨fun K => Vk.gAd K x f, f, q, defArgs st, defBody st, defScope st, [], []⟩
def pn : List He5.DefA := [pd "Shape" "is_plain" "Shape.is_plain" s_Shape_is_plain, pd "Shape" "records" "Shape.records" s_Shape_records, pd "Shape" "plains" "Shape.plains" s_Shape_plains]
abbrev pl : List He5.DefA := pn
def asL : List Addr := [3, 6, 4, 21, 31, 51, 70, 89, 108, 127, 146, 165, 184, 203, 222, 241, 260, 279, 298, 317, 336, 339, 344, 349, 354, 359, 366, 372, 379, 386, 393, 494, 505, 510, 517, 524, 531, 541, 625, 634, 639, 646, 653, 660, 667, 674, 681, 688, 695, 702, 703, 708, 715, 722, 753, 774, 795, 804, 811, 818, 825, 924, 1032, 1035, 1066, 1087, 1108, 1129, 1138, 1145, 1152, 1157, 1164, 1171, 1178, 1179, 1186, 1191, 1196, 1201, 1286, 1295, 1300, 1305, 1310, 1392, 1401, 1408, 1415, 1420, 1427, 1432, 1437, 1442, 1449, 1456, 1463, 1468, 1475, 1480, 1487, 1494, 1501, 1508, 1515, 1522, 1529, 1536, 1543, 1548, 1555, 1562, 1569, 1576, 1583, 1588, 1593, 0, 20, 30, 50, 69, 88, 107, 126, 145, 164, 183, 202, 221, 240, 259, 278, 297, 316, 335, 343, 348, 353, 358, 365, 371, 367, 378, 385, 392, 493, 504, 509, 516, 523, 530, 540, 624, 633, 638, 645, 652, 659, 666, 673, 680, 687, 694, 701, 707, 714, 721, 752, 773, 794, 803, 810, 817, 824, 923, 1031, 1065, 1086, 1107, 1128, 1137, 1144, 1151, 1156, 1163, 1170, 1177, 1185, 1190, 1195, 1200, 1285, 1294, 1299, 1304, 1309, 1391, 1400, 1407, 1414, 1419, 1426, 1431, 1436, 1441, 1448, 1455, 1462, 1467, 1474, 1479, 1486, 1493, 1500, 1507, 1514, 1521, 1528, 1535, 1542, 1547, 1554, 1561, 1568, 1575, 1582, 1587, 1592, 15, 16, 17, 18, 19, 29, 32, 48, 49, 67, 68, 86, 87, 105, 106, 124, 125, 143, 144, 162, 163, 181, 182, 200, 201, 219, 220, 238, 239, 257, 258, 276, 277, 295, 296, 314, 315, 333, 334, 340, 341, 342, 345, 346, 347, 350, 351, 352, 355, 356, 357, 360, 361, 362, 363, 364, 368, 369, 370, 373, 374, 375, 376, 377, 380, 381, 382, 383, 384, 387, 388, 389, 390, 391, 405, 413, 421, 429, 437, 444, 449, 456, 463, 470, 477, 484, 491, 492, 495, 496, 499, 500, 501, 502, 503, 506, 507, 508, 511, 512, 513, 514, 515, 518, 519, 520, 521, 522, 525, 526, 527, 528, 529, 539, 542, 543, 560, 568, 575, 582, 589, 596, 603, 610, 617, 622, 623, 626, 627, 630, 631, 632, 635, 636, 637, 640, 641, 642, 643, 644, 647, 648, 649, 650, 651, 654, 655, 656, 657, 658, 661, 662, 663, 664, 665, 668, 669, 670, 671, 672, 675, 676, 677, 678, 679, 682, 683, 684, 685, 686, 689, 690, 691, 692, 693, 696, 697, 698, 699, 700, 704, 705, 706, 709, 710, 711, 712, 713, 716, 717, 718, 719, 720, 736, 743, 750, 751, 754, 755, 771, 772, 792, 793, 798, 799, 800, 801, 802, 805, 806, 807, 808, 809, 812, 813, 814, 815, 816, 819, 820, 821, 822, 823, 839, 846, 853, 860, 867, 874, 881, 888, 893, 900, 907, 914, 921, 922, 925, 926, 944, 951, 958, 965, 972, 979, 986, 993, 1000, 1007, 1015, 1022, 1029, 1030, 1049, 1056, 1063, 1064, 1067, 1068, 1084, 1085, 1105, 1106, 1126, 1127, 1132, 1133, 1134, 1135, 1136, 1139, 1140, 1141, 1142, 1143, 1146, 1147, 1148, 1149, 1150, 1153, 1154, 1155, 1158, 1159, 1160, 1161, 1162, 1165, 1166, 1167, 1168, 1169, 1172, 1173, 1174, 1175, 1176, 1180, 1181, 1182, 1183, 1184, 1187, 1188, 1189, 1192, 1193, 1194, 1197, 1198, 1199, 1213, 1222, 1229, 1235, 1243, 1250, 1257, 1262, 1269, 1276, 1283, 1284, 1287, 1288, 1291, 1292, 1293, 1296, 1297, 1298, 1301, 1302, 1303, 1306, 1307, 1308, 1322, 1331, 1340, 1347, 1354, 1361, 1368, 1375, 1382, 1389, 1390, 1393, 1394, 1397, 1398, 1399, 1402, 1403, 1404, 1405, 1406, 1409, 1410, 1411, 1412, 1413, 1416, 1417, 1418, 1421, 1422, 1423, 1424, 1425, 1428, 1429, 1430, 1433, 1434, 1435, 1438, 1439, 1440, 1443, 1444, 1445, 1446, 1447, 1450, 1451, 1452, 1453, 1454, 1457, 1458, 1459, 1460, 1461, 1464, 1465, 1466, 1469, 1470, 1471, 1472, 1473, 1476, 1477, 1478, 1481, 1482, 1483, 1484, 1485, 1488, 1489, 1490, 1491, 1492, 1495, 1496, 1497, 1498, 1499, 1502, 1503, 1504, 1505, 1506, 1509, 1510, 1511, 1512, 1513, 1516, 1517, 1518, 1519, 1520, 1523, 1524, 1525, 1526, 1527, 1530, 1531, 1532, 1533, 1534, 1537, 1538, 1539, 1540, 1541, 1544, 1545, 1546, 1549, 1550, 1551, 1552, 1553, 1556, 1557, 1558, 1559, 1560, 1563, 1564, 1565, 1566, 1567, 1570, 1571, 1572, 1573, 1574, 1577, 1578, 1579, 1580, 1581, 1584, 1585, 1586, 1589, 1590, 1591, 47, 66, 85, 104, 123, 142, 161, 180, 199, 218, 237, 256, 275, 294, 313, 332, 404, 412, 420, 428, 436, 443, 448, 455, 462, 469, 476, 483, 490, 559, 553, 567, 574, 581, 588, 595, 602, 609, 616, 621, 735, 742, 749, 770, 761, 791, 780, 838, 845, 852, 859, 866, 873, 880, 887, 892, 899, 906, 913, 920, 943, 932, 950, 957, 964, 971, 978, 985, 992, 999, 1006, 1014, 1021, 1028, 1048, 1055, 1062, 1083, 1104, 1093, 1125, 1114, 1212, 1220, 1221, 1228, 1234, 1242, 1249, 1256, 1261, 1268, 1275, 1282, 1321, 1329, 1330, 1339, 1346, 1353, 1360, 1367, 1374, 1381, 1388, 42, 43, 44, 45, 46, 61, 62, 63, 64, 65, 80, 81, 82, 83, 84, 99, 100, 101, 102, 103, 118, 119, 120, 121, 122, 137, 138, 139, 140, 141, 156, 157, 158, 159, 160, 175, 176, 177, 178, 179, 194, 195, 196, 197, 198, 213, 214, 215, 216, 217, 232, 233, 234, 235, 236, 251, 252, 253, 254, 255, 270, 271, 272, 273, 274, 289, 290, 291, 292, 293, 308, 309, 310, 311, 312, 327, 328, 329, 330, 331, 401, 402, 403, 411, 419, 427, 435, 438, 439, 440, 441, 442, 445, 446, 447, 450, 451, 452, 453, 454, 457, 458, 459, 460, 461, 464, 465, 466, 467, 468, 471, 472, 473, 474, 475, 478, 479, 480, 481, 482, 485, 486, 487, 488, 489, 554, 555, 556, 557, 558, 566, 569, 570, 571, 572, 573, 576, 577, 578, 579, 580, 583, 584, 585, 586, 587, 590, 591, 592, 593, 594, 597, 598, 599, 600, 601, 604, 605, 606, 607, 608, 611, 612, 613, 614, 615, 618, 619, 620, 730, 731, 732, 733, 734, 737, 738, 739, 740, 741, 744, 745, 746, 747, 748, 767, 768, 769, 786, 787, 788, 789, 790, 833, 834, 835, 836, 837, 840, 841, 842, 843, 844, 847, 848, 849, 850, 851, 854, 855, 856, 857, 858, 861, 862, 863, 864, 865, 868, 869, 870, 871, 872, 875, 876, 877, 878, 879, 882, 883, 884, 885, 886, 889, 890, 891, 894, 895, 896, 897, 898, 901, 902, 903, 904, 905, 908, 909, 910, 911, 912, 915, 916, 917, 918, 919, 938, 939, 940, 941, 942, 945, 946, 947, 948, 949, 952, 953, 954, 955, 956, 959, 960, 961, 962, 963, 966, 967, 968, 969, 970, 973, 974, 975, 976, 977, 980, 981, 982, 983, 984, 987, 988, 989, 990, 991, 994, 995, 996, 997, 998, 1001, 1002, 1003, 1004, 1005, 1009, 1010, 1011, 1012, 1013, 1016, 1017, 1018, 1019, 1020, 1023, 1024, 1025, 1026, 1027, 1043, 1044, 1045, 1046, 1047, 1050, 1051, 1052, 1053, 1054, 1057, 1058, 1059, 1060, 1061, 1078, 1079, 1080, 1081, 1082, 1099, 1100, 1101, 1102, 1103, 1120, 1121, 1122, 1123, 1124, 1209, 1210, 1211, 1219, 1223, 1227, 1233, 1241, 1244, 1245, 1246, 1247, 1248, 1251, 1252, 1253, 1254, 1255, 1258, 1259, 1260, 1263, 1264, 1265, 1266, 1267, 1270, 1271, 1272, 1273, 1274, 1277, 1278, 1279, 1280, 1281, 1318, 1319, 1320, 1328, 1332, 1338, 1341, 1342, 1343, 1344, 1345, 1348, 1349, 1350, 1351, 1352, 1355, 1356, 1357, 1358, 1359, 1362, 1363, 1364, 1365, 1366, 1369, 1370, 1371, 1372, 1373, 1376, 1377, 1378, 1379, 1380, 1383, 1384, 1385, 1386, 1387, 406, 407, 408, 409, 410, 414, 415, 416, 417, 418, 422, 423, 424, 425, 426, 430, 431, 432, 433, 434, 561, 562, 563, 564, 565, 1214, 1215, 1216, 1217, 1218, 1224, 1225, 1226, 1230, 1231, 1232, 1236, 1237, 1238, 1239, 1240, 1323, 1324, 1325, 1326, 1327, 1333, 1334, 1335, 1336, 1337, 2]
abbrev R : PySem.W.OpenRow := PySem.W.OpenLaw.row PySem.Challenge.rw_unseenwrites_k39_worlds_by_form
abbrev loose0 : List Str := ["_wall", "__name__", "UnseenwritesError", "BadShape", "BadPath", "BadValues", "BadValue", "BadParameters", "BadRow", "BadLine", "BadName", "NoUpdate", "BadUpdate", "TooMany", "BadDocument", "BadKind", "BadWorld", "BadLabel", "UnlikeFaces", "MOST_DEPTH", "MOST_RECORDS", "MOST_PLAINS", "MOST_FIELDS", "LETTERS", "KEPT_WORDS", "is_word", "records_of", "plains_of", "text_of", "scan_word"]
abbrev loose1 : List Str := ["scan_shape", "is_bounded", "tree_of", "words_of", "Shape", "is_whole", "are_wholes", "are_same", "renewed", "merger", "Token", "Part", "numbered", "tokens_of", "held_form", "spans_of", "are_numbered", "are_consistent", "is_form", "is_held_form", "built", "are_choices", "values_of", "KINDS", "is_path", "are_like_parts", "watcher_of", "SameWatcher", "LevelWatcher", "EqualWatcher"]
abbrev loose2 : List Str := ["check_record_path", "goals_met", "is_call_label", "called", "Worlds", "HeldWorlds", "MARKS", "MOST_PARAMETERS", "MOST_SLOTS", "MOST_ROWS", "MOST_THENS", "SetRow", "NewRow", "EditRow", "MergeRow", "made_row", "term_of", "read_row", "fits_behind", "are_parameters", "read_parameters", "read_head", "JOINED_WORDS", "renamed", "joined_parameters", "joined_rows", "split_rows", "Update", "MOST_UPDATES", "writing_rows"]
abbrev loose3 : List Str := ["add_line", "text_of_book", "check_bounds", "Book", "_law_start", "_law_draw", "_law_of", "_law_word", "_law_number", "_law_size", "_law_tree", "_law_fields", "_law_text", "_law_paths", "_law_path", "_law_shape", "_law_made", "_law_at", "_law_below", "_law_get", "_law_set", "_law_content", "_law_twin", "_law_nodes", "_law_numbers", "_law_form", "_law_held_form", "_law_spoiled", "_law_is_row", "_law_is_counted"]
abbrev loose4 : List Str := ["_law_places", "_law_do_agree", "_law_is_world", "_law_shared"]
abbrev loose : List Str := loose0 ++ loose1 ++ loose2 ++ loose3 ++ loose4
theorem run_look (w : World) : ∀ os, (Ux.EndAt R 20000 w os).map (Ux.lookAt R w) = some true := by
  intro os
  kernel_rfl
theorem run_seen (w : World) : ∀ os, (Ux.EndAt R 20000 w os).map (Ux.seenAt R (PySem.W.view R.prog [133]) loose) = some (Ux.goodAt (PySem.W.view R.prog [133]) loose) := by
  intro os
  kernel_rfl
theorem optB {α β : Type} {E : Option α} {h : α → Bool} {k : α → β} {v : β} {F : α → Bool} (c : E.map (fun s => (h s, k s)) = some (true, v)) (e : ∀ s, E = some s → h s = true → F s = true) : E.map (fun s => (F s, k s)) = some (true, v) := by
  cases E with
  | none => cases c
  | some s =>
    have c : some (h s, k s) = some (true, v) := c
    injection c with c
    injection c with c1 c2
    show some (F s, k s) = _
    rw [e s rfl c1, c2]
theorem optA {α : Type} {E : Option α} {f : α → Bool} (a : E.map f = some true) {s : α} (h : E = some s) : f s = true := by
  rw [h] at a
  exact Option.some.inj a
theorem run_exP0 (w : World) : ∀ os, (Ux.EndAt R 20000 w os).map (fun s => ex5P0 (He.frT (HandSHeadRun.getT s) asL)) = some true := by
  intro os
  kernel_rfl
theorem run_exP1 (w : World) : ∀ os, (Ux.EndAt R 20000 w os).map (fun s => ex5P1 (He.frT (HandSHeadRun.getT s) asL)) = some true := by
  intro os
  kernel_rfl
theorem run_exC (w : World) : ∀ os, (Ux.EndAt R 20000 w os).map (fun s => (pl.all (fun d => d.ok (He.frT (HandSHeadRun.getT s) asL)), Vk.fnP pl (He.frT (HandSHeadRun.getT s) asL))) = some (true, pl.map He5.DefA.val) := by
  intro os
  kernel_rfl
theorem run_ex (w : World) : ∀ os, (Ux.EndAt R 20000 w os).map (fun s => (Vk.exP ex pl (He.frT (HandSHeadRun.getT s) asL), Vk.fnP pl (He.frT (HandSHeadRun.getT s) asL))) = some (true, pl.map He5.DefA.val) := fun os => optB (F := fun s => Vk.exP ex pl (He.frT (HandSHeadRun.getT s) asL)) (run_exC w os) fun s h c => by
  show ((true && (true && (true && (true && (true && (ex5 (He.frT (HandSHeadRun.getT s) asL))))))) && pl.all fun d => d.ok (He.frT (HandSHeadRun.getT s) asL)) = true
  rw [ex5_eq, optA (run_exP0 w os) h, optA (run_exP1 w os) h, c]
  rfl
theorem run_obs0 (w : World) : ∀ os, (Ux.EndAt R 20000 w os).map (fun s => He.obsD fa0 fn0 (He.frT (HandSHeadRun.getT s) asL)) = some (He.valD fn0) := by
  intro os
  kernel_rfl
theorem run_obs1 (w : World) : ∀ os, (Ux.EndAt R 20000 w os).map (fun s => He.obsD fa1 fn1 (He.frT (HandSHeadRun.getT s) asL)) = some (He.valD fn1) := by
  intro os
  kernel_rfl
theorem run_obs2 (w : World) : ∀ os, (Ux.EndAt R 20000 w os).map (fun s => He.obsD fa2 fn2 (He.frT (HandSHeadRun.getT s) asL)) = some (He.valD fn2) := by
  intro os
  kernel_rfl
theorem run_obs3 (w : World) : ∀ os, (Ux.EndAt R 20000 w os).map (fun s => He.obsD fa3 fn3 (He.frT (HandSHeadRun.getT s) asL)) = some (He.valD fn3) := by
  intro os
  kernel_rfl
theorem run_obs4 (w : World) : ∀ os, (Ux.EndAt R 20000 w os).map (fun s => He.obsD fa4 fn4 (He.frT (HandSHeadRun.getT s) asL)) = some (He.valD fn4) := by
  intro os
  kernel_rfl
theorem run_obs5 (w : World) : ∀ os, (Ux.EndAt R 20000 w os).map (fun s => He.obsD fa5 fn5 (He.frT (HandSHeadRun.getT s) asL)) = some (He.valD fn5) := by
  intro os
  kernel_rfl
theorem run_sup (w : World) : ∀ os, (Ux.EndAt R 20000 w os).map (fun s => Sup.fnSs sn (He.frT (HandSHeadRun.getT s) asL)) = some (sn.map Sup.DefS.val) := by
  intro os
  kernel_rfl
end Lx
set_option autoImplicit true
set_option Elab.async false
set_option linter.all false
set_option maxRecDepth 100000
set_option maxHeartbeats 4000000
namespace Ub
open PySem PySem.Spec PyProof.Rows L2
section
variable {X : Cx}
/-- a text times a number -/
theorem op_mul_si : OpR X (binaryOp .Mult) (fun x y H Q => ∃ (z : Str) (n : Int) (L N : Nat), x = .str z ∧ y = .int n ∧ z.length ≤ L ∧ 0 ≤ n ∧ n ≤ (N : Int) ∧ N ≤ 16777216 ∧ L * N ≤ 16777216 ∧ Q (.str (Txt.mul z n)) H) := by
  intro pins s σ H x y v u Q I rx ry h
  obtain ⟨z, n, L, N, rfl, rfl, h1, h0, h2, h3, h4, q⟩ := h
  obtain ⟨t, rfl⟩ := rx
  obtain ⟨t', rfl⟩ := ry
  exact SB.mul (mulOk_of L N h1 h2 (by omega) h3 h4) fun t' k => ⟨.str (Txt.mul z n), H, I.tok _, ⟨_, rfl⟩, q⟩
end
structure Cal (P : Program) (w : World) (K : PySem.W.Frag) (mg : Str → Option Value) (base : Heap) (k : Nat) (x : Str) (ps : List Str) (sp : Sp) : Prop where
  ex : ∃ f fd, FnOk P w K mg base CX0 k f fd ps sp ∧ mg x = some (.ref f) ∧ PySem.W.keepIn K (.ref f) = true ∧ Binds K fd ps []
section
variable {X : Cx} {k : Nat} {x : Str} {ps : List Str} {sp : Sp} {e : Expr} {es : List Expr} {p pos : Pos} {t : TA}
theorem pe_cal (C : Cal X.prog X.w X.K X.mg X.base k x ps sp) (hr : Room k X.A) (hg : Gl X x)
    (ha : PA X (e :: es) t) (hdb : (x == ("__debug__" : Str)) = false := by decide) (he : starEach (e :: es) X.env = (false, eval e X.env) :: starEach es X.env := by rfl) (hpl : (backTo pos (starEach es X.env)).any (·.1) = false := by rfl) :
    PE X (.Call (.Name x p) (e :: es) [] pos) (tCall sp [] E0 t) := by
  obtain ⟨f, fd, F, hm, hk, hb⟩ := C.ex
  exact pe_call F hr hg hm hk hb .nil pass0 ha hdb he hpl
end
/-- a def with defaults, called with fewer arguments -/
structure CalD (P : Program) (w : World) (K : PySem.W.Frag) (mg : Str → Option Value) (base : Heap) (k : Nat) (x : Str) (ps : List Str) (dvs : List V) (sp : Sp) : Prop where
  ex : ∃ f fd ds, FnOk P w K mg base CX0 k f fd ps sp ∧ mg x = some (.ref f) ∧ PySem.W.keepIn K (.ref f) = true ∧ Binds K fd ps ds ∧ Vals dvs ds
theorem pe_calD {X : Cx} {k : Nat} {x : Str} {ps : List Str} {dvs : List V} {sp : Sp} {e : Expr} {es : List Expr} {p pos : Pos} {t : TA} (C : CalD X.prog X.w X.K X.mg X.base k x ps dvs sp) (hr : Room k X.A) (hg : Gl X x)
    (ha : PA X (e :: es) t) (hdb : (x == ("__debug__" : Str)) = false := by decide) (he : starEach (e :: es) X.env = (false, eval e X.env) :: starEach es X.env := by rfl) (hpl : (backTo pos (starEach es X.env)).any (·.1) = false := by rfl) :
    PE X (.Call (.Name x p) (e :: es) [] pos) (tCall sp dvs E0 t) := by
  obtain ⟨f, fd, ds, F, hm, hk, hb, hd⟩ := C.ex
  exact pe_call F hr hg hm hk hb hd pass0 ha hdb he hpl
theorem same_upd {H : Hp} {p : Addr} {o : HO} (h : H p = none) : Same H (upd H p o) := fun b x e => by
  rw [upd_ne (ne_of_none e h)]
  exact e
theorem Same.tup {K : PySem.W.Frag} {H H' : Hp} {a : Addr} {xs : List V} (e : Same H H') (h : SqT K H a xs) : SqT K H' a xs := by
  rcases h with (h | ⟨o, h⟩) | h
  · exact .inl (.inl (e _ _ h))
  · exact .inl (.inr ⟨o, e _ _ h⟩)
  · exact .inr h
section
variable {X : Cx} {x : Str} {pos : Pos}
theorem pe_globI {i : Int} (hg : Gl X x) (hm : ∃ t, X.mg x = some (.int i t)) (hd : (x == ("__debug__" : Str)) = false := by decide) : PE X (.Name x pos) (tC (.int i)) := by
  obtain ⟨t, hm⟩ := hm
  exact pe_glob hg hm ⟨t, rfl⟩ hd
theorem pe_globS {z : Str} (hg : Gl X x) (hm : ∃ t, X.mg x = some (.str z t)) (hd : (x == ("__debug__" : Str)) = false := by decide) : PE X (.Name x pos) (tC (.str z)) := by
  obtain ⟨t, hm⟩ := hm
  exact pe_glob hg hm ⟨t, rfl⟩ hd
theorem pe_globR {a : Addr} (hg : Gl X x) (hm : X.mg x = some (.ref a)) (hd : (x == ("__debug__" : Str)) = false := by decide) : PE X (.Name x pos) (tC (.ref a)) := pe_glob hg hm rfl hd
end
section
variable {X : Cx} {K : PySem.W.Frag}
theorem op_in_seqK (K : PySem.W.Frag) (e : X.K = K := by rfl) : OpR X (compareOp .In) (rIn K false) := e ▸ op_in_seq
theorem op_notIn_seqK (K : PySem.W.Frag) (e : X.K = K := by rfl) : OpR X (compareOp .NotIn) (rIn K true) := e ▸ op_notIn_seq
theorem op_eqDK (K : PySem.W.Frag) (hu : X.A.units + 64 < cLine) (e : X.K = K := by rfl) : OpR X (compareOp .Eq) (rEqD K) := e ▸ op_eqD hu
theorem op_neDK (K : PySem.W.Frag) (hu : X.A.units + 64 < cLine) (e : X.K = K := by rfl) : OpR X (compareOp .NotEq) (rNeD K) := e ▸ op_neD hu
theorem op_catAK (K : PySem.W.Frag) (e : X.K = K := by rfl) : OpR X (binaryOp .Add) (rCatA K) := e ▸ op_catA
theorem ix_listK (K : PySem.W.Frag) (e : X.K = K := by rfl) : IxR X (rIxL K) := e ▸ ix_list
theorem ix_tupK (K : PySem.W.Frag) (e : X.K = K := by rfl) : IxR X (rIxT K) := e ▸ ix_tup
theorem sl_listK (K : PySem.W.Frag) (e : X.K = K := by rfl) : SlR X (rSlL K) := e ▸ sl_list
theorem sl_tupAK (K : PySem.W.Frag) (e : X.K = K := by rfl) : SlR X (rSlA K) := e ▸ sl_tupA
def rLenQ (K : PySem.W.Frag) : List V → Hp → VK → Prop := fun xs H Q => ∃ p ys, xs = [.ref p] ∧ (SqL K H p ys ∨ SqT K H p ys) ∧ Q (.int ys.length) H
theorem call_len_seqK (K : PySem.W.Frag) (e : X.K = K := by rfl) : CallR X (.builtin "len") (rLenQ K) := e ▸ call_len_seq
def rListQ (K : PySem.W.Frag) : List V → Hp → VK → Prop := fun xs H Q => ∃ p ys, xs = [.ref p] ∧ (SqL K H p ys ∨ SqT K H p ys) ∧ ∀ l, H l = none → Q (.ref l) (upd H l (.lst ys))
theorem call_list_ofK (K : PySem.W.Frag) (e : X.K = K := by rfl) : CallR X (.type "list") (rListQ K) := e ▸ call_list_of
def rTupQ (K : PySem.W.Frag) : List V → Hp → VK → Prop := fun xs H Q => ∃ p ys, xs = [.ref p] ∧ ((SqL K H p ys ∧ ∀ l, H l = none → Q (.ref l) (upd H l (.tup ys))) ∨ (SqT K H p ys ∧ Q (.ref p) H))
theorem call_tuple_ofK (K : PySem.W.Frag) (e : X.K = K := by rfl) : CallR X (.type "tuple") (rTupQ K) := e ▸ call_tuple_of
theorem call_isiK' (K : PySem.W.Frag) (e : X.K = K := by rfl) : CallR X (.builtin "isinstance") (rIsi K) := e ▸ call_isi
theorem cr_allK (K : PySem.W.Frag) (hc : X.calm = true) (e : X.K = K := by rfl) : CallR X (.builtin "all") (rAll K) := e ▸ cr_all hc
theorem cr_sumK (K : PySem.W.Frag) (hc : X.calm = true) (e : X.K = K := by rfl) : CallR X (.builtin "sum") (rSum K) := e ▸ cr_sum hc
theorem cr_maxK (K : PySem.W.Frag) (hc : X.calm = true) (e : X.K = K := by rfl) : CallR X (.builtin "max") (rMax K) := e ▸ cr_max hc
theorem pi_listK (K : PySem.W.Frag) {tg l : Expr} {tl : TE} (hl : PE X l tl) (e : X.K = K := by rfl) : PI X tg l (iList K tl) := e ▸ pi_list hl
theorem pi_tupK (K : PySem.W.Frag) {tg l : Expr} {tl : TE} (hl : PE X l tl) (e : X.K = K := by rfl) : PI X tg l (iTup K tl) := e ▸ pi_tup hl
theorem pt_truthK (K : PySem.W.Frag) {a : Expr} {ta : TE} (ha : PE X a ta) (he : ∀ whole, isTrue a X.env whole = (do let v ← whole; standAt a.pos; holding [v] (truthy v))) (e : X.K = K := by rfl) : PT X a (fun σ H Q => ta σ H fun x H' => ∃ k, TruV K x H' k ∧ Q k H') := e ▸ pt_truth ha he
theorem pe_fldK (K : PySem.W.Frag) {e0 : Expr} {ta : TE} {f : Str} {pos : Pos} (he : PE X e0 ta) (hb : attributeBase e0 f X.env (eval e0 X.env) = eval e0 X.env) (e : X.K = K := by rfl) : PE X (.Attribute e0 f pos) (tFld K ta f) := e ▸ pe_fld he hb
theorem pe_bmK (K : PySem.W.Frag) {o e0 : Expr} {es : List Expr} {to : TE} {t : TA} {name : Str} {apos cpos : Pos} {T id : String} {r : V → List V → Hp → VK → Prop} (pa : PlainAttrs T) (slot : Slot T name id) (hty : typeOf (.builtin id) = pure (.type "method_descriptor")) (hm : MtR X id r) (ho : PE X o to) (ha : PA X (e0 :: es) t)
    (hbase : attributeBase o name X.env (eval o X.env) = eval o X.env := by rfl)
    (hfew : ((backTo cpos (starEach (e0 :: es) X.env)).all (fun x => !x.1) && (backToKw cpos (keywordEach [] X.env)).all (fun x => x.1.isSome)
      && decide ((e0 :: es).length + ([] : List Keyword).length + (if ([] : List Keyword).isEmpty then 0 else 1) < 30)) = true := by rfl)
    (hline : (apos.endLine == cpos.line) = true := by rfl) (hs : starEach (e0 :: es) X.env = (false, eval e0 X.env) :: starEach es X.env := by rfl) (hplain : (backTo cpos (starEach es X.env)).any (·.1) = false := by rfl) (e : X.K = K := by rfl) :
    PE X (.Call (.Attribute o name apos) (e0 :: es) [] cpos) (tBM K T r to t) := e ▸ pe_bm pa slot hty hm ho ha hbase hfew hline hs hplain
end
theorem units1 {k : Nat} {A : Around} (r : Room k A) : A.units + 1 < cLine := by have := r.un; omega
/-- the heap by a name -/
theorem absH {G : Hp → Prop} {H' : Hp} (h : ∀ H'', H'' = H' → G H'') : G H' := h _ rfl
theorem seqJ {t u : TS} {D : Ends} {σ : L2.St} {H : Hp} (R : L2.St → Hp → Prop) (hR : ∀ D' : Ends, (∀ σ' H', R σ' H' → D'.nx σ' H') → D'.rt = D.rt → D'.bk = D.bk → D'.ct = D.ct → t D' σ H) (hQ : ∀ σ' H', R σ' H' → u D σ' H') : tSeq t u D σ H := hR _ hQ rfl rfl rfl
theorem at0 {α : Type} {x : α} {xs : List α} : atI (x :: xs) 0 = some x := atI_nat (j := 0) rfl
theorem ix0 {n : Nat} : ixN (n + 1) 0 = some 0 := by
  unfold ixN
  rw [if_pos (by decide), if_pos (by omega)]
  rfl
theorem fm_take {xs : List V} {f : V → Option V} {i : Nat} {x : V} (h : xs[i]? = some x) : (xs.take (i + 1)).filterMap f = (xs.take i).filterMap f ++ (f x).toList := by
  rw [List.take_add_one, h, List.filterMap_append]
  cases e : f x <;> simp [e]
theorem fm_len (xs : List V) (f : V → Option V) : (xs.filterMap f).length ≤ xs.length := List.length_filterMap_le f xs
section
variable {K : PySem.W.Frag} {a : Addr} {g : TG} {tt : TT} {te : TE} {vs : List Nat} {σ : L2.St} {H1 : Hp} {D : Addr} {Qd : Hp → Prop}
def LcTurn (g : TG) (tt : TT) (te : TE) (vs : List Nat) (σ : L2.St) (f : V → Option V) (x : V) (H : Hp) : Prop := ∀ (Q1 : VK) (Q0 : Hp → Prop), (∀ y H', f x = some y → Same H H' → Q1 y H') → (∀ H', f x = none → Same H H' → Q0 H') →
  g x (wipe σ vs) H fun σ2 H2 => wipe σ2 vs = wipe σ vs ∧ tt σ2 H2 fun b H3 => if b = true then te σ2 H3 Q1 else Q0 H3
theorem lc_step {xs : List V} {f : V → Option V} {i : Nat} {x : V} {H : Hp} (hx : xs[i]? = some x) (hz : xs.length ≤ sizeLine) (hD : H1 D = none) (s : Same H1 H) (d : H D = some (.lst ((xs.take i).filterMap f))) (t : LcTurn g tt te vs σ f x H) :
    g x (wipe σ vs) H fun σ2 H2 => wipe σ2 vs = wipe σ vs ∧ tt σ2 H2 fun b H3 => if b = true then te σ2 H3 fun y H4 => ∃ acc, H4 D = some (.lst acc) ∧ acc.length < sizeLine ∧ (Same H1 (upd H4 D (.lst (acc ++ [y]))) ∧ (upd H4 D (.lst (acc ++ [y]))) D = some (.lst ((xs.take (i + 1)).filterMap f))) else (Same H1 H3 ∧ H3 D = some (.lst ((xs.take (i + 1)).filterMap f))) := by
  have hi : i < xs.length := (List.getElem?_eq_some_iff.mp hx).1
  refine t (fun y H4 => ∃ acc, H4 D = some (.lst acc) ∧ acc.length < sizeLine ∧ (Same H1 (upd H4 D (.lst (acc ++ [y]))) ∧ (upd H4 D (.lst (acc ++ [y]))) D = some (.lst ((xs.take (i + 1)).filterMap f)))) (fun H3 => Same H1 H3 ∧ H3 D = some (.lst ((xs.take (i + 1)).filterMap f))) (fun y H' e s' => ?_) (fun H' e s' => ?_)
  · refine ⟨_, s' _ _ d, ?_, fun b o q => ?_, ?_⟩
    · have h1 := fm_len (xs.take i) f
      rw [List.length_take] at h1
      omega
    · rw [upd_ne (ne_of_none q hD)]
      exact s' _ _ (s _ _ q)
    · rw [upd_same, fm_take hx, e]
      rfl
  · refine ⟨s.trans s', ?_⟩
    rw [fm_take hx, e, s' _ _ d]
    simp
theorem lcW {J : It} {G : Hp → Prop} {xs : List V} (w : Walk J xs.length G (YAt xs)) (f : V → Option V) (hG : ∀ H, Same H1 H → G H) (hz : xs.length ≤ sizeLine) (hD : H1 D = none) (turn : ∀ (i : Nat) x H, xs[i]? = some x → Same H1 H → LcTurn g tt te vs σ f x H)
    (done : ∀ H', Same H1 H' → H' D = some (.lst (xs.filterMap f)) → Qd H') :
    ∃ W : Nat → Nat → Hp → Prop, (∃ m, W 0 m (upd H1 D (.lst []))) ∧ ∀ i m H, W i m H →
      (J.stop i H ∧ Qd H) ∨ (J.go i H ∧ ∃ Nx : Hp → Prop, (∀ H', Nx H' → ∃ m', m' < m ∧ W (i + 1) m' H') ∧ ∀ x H', J.yld i H x H' → g x (wipe σ vs) H' fun σ2 H2 => wipe σ2 vs = wipe σ vs ∧ tt σ2 H2 fun b H3 =>
        if b = true then te σ2 H3 fun y H4 => ∃ acc, H4 D = some (.lst acc) ∧ acc.length < sizeLine ∧ Nx (upd H4 D (.lst (acc ++ [y]))) else Nx H3) :=
  lc_it w (fun i H => Same H1 H ∧ H D = some (.lst ((xs.take i).filterMap f))) ⟨same_upd hD, upd_same⟩ (fun i H _ p => hG H p.1) (fun i x H H' _ p y => by
    obtain ⟨rfl, hx⟩ := y
    exact lc_step hx hz hD p.1 p.2 (turn i x _ hx p.1)) (fun H p => done H p.1 (by have := p.2; rwa [List.take_length] at this))
end
/-- a comprehension by a list of what its items stand for -/
theorem lcM {g : TG} {tt : TT} {te : TE} {vs : List Nat} {σ : L2.St} {H1 : Hp} {D : Addr} {Qd : Hp → Prop} {J : It} {G : Hp → Prop} {xs : List V} {α : Type} (w : Walk J xs.length G (YAt xs)) (ms : List α) (hl : ms.length = xs.length) (h : α → Option V) (hG : ∀ H, Same H1 H → G H) (hz : xs.length ≤ sizeLine) (hD : H1 D = none)
    (turn : ∀ (i : Nat) x m H, xs[i]? = some x → ms[i]? = some m → Same H1 H → LcTurn g tt te vs σ (fun _ => h m) x H)
    (done : ∀ H', Same H1 H' → H' D = some (.lst (ms.filterMap h)) → Qd H') :
    ∃ W : Nat → Nat → Hp → Prop, (∃ m, W 0 m (upd H1 D (.lst []))) ∧ ∀ i m H, W i m H →
      (J.stop i H ∧ Qd H) ∨ (J.go i H ∧ ∃ Nx : Hp → Prop, (∀ H', Nx H' → ∃ m', m' < m ∧ W (i + 1) m' H') ∧ ∀ x H', J.yld i H x H' → g x (wipe σ vs) H' fun σ2 H2 => wipe σ2 vs = wipe σ vs ∧ tt σ2 H2 fun b H3 =>
        if b = true then te σ2 H3 fun y H4 => ∃ acc, H4 D = some (.lst acc) ∧ acc.length < sizeLine ∧ Nx (upd H4 D (.lst (acc ++ [y]))) else Nx H3) :=
  lc_it w (fun i H => Same H1 H ∧ H D = some (.lst ((ms.take i).filterMap h))) ⟨same_upd hD, upd_same⟩ (fun i H _ p => hG H p.1) (fun i x H H' hi p y => by
    obtain ⟨rfl, hx⟩ := y
    have him : i < ms.length := by omega
    have hm : ms[i]? = some ms[i] := List.getElem?_eq_getElem him
    have et : (ms.take (i + 1)).filterMap h = (ms.take i).filterMap h ++ (h ms[i]).toList := by
      rw [List.take_add_one, hm, List.filterMap_append]
      cases e : h ms[i] <;> simp [e]
    have ln : ((ms.take i).filterMap h).length ≤ i := by
      have := List.length_filterMap_le h (ms.take i)
      rw [List.length_take] at this
      omega
    refine turn i x _ _ hx hm p.1 (fun y H4 => ∃ acc, H4 D = some (.lst acc) ∧ acc.length < sizeLine ∧ (Same H1 (upd H4 D (.lst (acc ++ [y]))) ∧ (upd H4 D (.lst (acc ++ [y]))) D = some (.lst ((ms.take (i + 1)).filterMap h)))) (fun H3 => Same H1 H3 ∧ H3 D = some (.lst ((ms.take (i + 1)).filterMap h))) (fun y H' e s' => ?_) (fun H' e s' => ?_)
    · have e : h ms[i] = some y := e
      refine ⟨_, s' _ _ p.2, by omega, fun b o q => ?_, ?_⟩
      · rw [upd_ne (ne_of_none q hD)]
        exact s' _ _ (p.1 _ _ q)
      · rw [upd_same, et, e]
        rfl
    · have e : h ms[i] = none := e
      refine ⟨p.1.trans s', ?_⟩
      rw [et, e, s' _ _ p.2]
      simp) (fun H p => done H p.1 (by have := p.2; rwa [← hl, List.take_length] at this))
def sgn (c : Nat) : V := .str ⟨#[c]⟩
theorem walk_strV {z : Str} : Walk (Its z) (z.cps.toList.map sgn).length (fun _ => True) (YAt (z.cps.toList.map sgn)) := by
  have e : (z.cps.toList.map sgn).length = z.cps.size := by simp
  refine ⟨fun i _ hi _ => ?_, fun _ _ => ?_, fun i H x H' hi _ y => ?_⟩
  · rw [e] at hi; exact hi
  · rw [e]; exact Nat.le_refl _
  · obtain ⟨h1, c, h2, h3⟩ := y
    refine ⟨h1, ?_⟩
    rw [List.getElem?_map, Array.getElem?_toList, h2, h3]
    rfl
/-- a function of ints as one of values -/
def liftI (h : Int → Option Int) : V → Option V
  | .int i => (h i).map V.int
  | _ => none
theorem fm_lift (h : Int → Option Int) : ∀ ns : List Int, (ns.map V.int).filterMap (liftI h) = (ns.filterMap h).map V.int
  | [] => rfl
  | n :: r => by
    rw [List.map_cons, List.filterMap_cons, List.filterMap_cons, fm_lift h r]
    have e : liftI h (V.int n) = (h n).map V.int := rfl
    rw [e]
    cases h n <;> rfl
theorem cut_map {α β : Type} (f : α → β) (xs : List α) (lo hi : Option Int) : ∃ ys : List α, ys.length ≤ xs.length ∧ (∀ y ∈ ys, y ∈ xs) ∧ ((xs.map f).drop (HT.sIx (xs.map f).length 0 lo)).take (HT.sIx (xs.map f).length (xs.map f).length hi - HT.sIx (xs.map f).length 0 lo) = ys.map f := by
  refine ⟨(xs.drop (HT.sIx (xs.map f).length 0 lo)).take (HT.sIx (xs.map f).length (xs.map f).length hi - HT.sIx (xs.map f).length 0 lo), ?_, fun y hy => List.mem_of_mem_drop (List.mem_of_mem_take hy), ?_⟩
  · rw [List.length_take, List.length_drop]
    omega
  · rw [List.map_take, List.map_drop]
theorem cutV_ints (ns : List Int) (lo hi : Option Int) : ∃ ms : List Int, ms.length ≤ ns.length ∧ (∀ y ∈ ms, y ∈ ns) ∧ cutV (ns.map V.int) lo hi = ms.map V.int := cut_map V.int ns lo hi
/-- a function of signs as one of values -/
def liftS (h : Nat → Option V) : V → Option V
  | .str s => (match s.cps.toList with
    | [c] => h c
    | _ => none)
  | _ => none
theorem liftS_sgn (h : Nat → Option V) (c : Nat) : liftS h (sgn c) = h c := rfl
theorem fm_liftS (h : Nat → Option V) : ∀ cs : List Nat, (cs.map sgn).filterMap (liftS h) = cs.filterMap h
  | [] => rfl
  | c :: r => by
    rw [List.map_cons, List.filterMap_cons, List.filterMap_cons, fm_liftS h r, liftS_sgn]
theorem iteY {p : Prop} [Decidable p] {A B : Prop} (hp : p) (h : A) : if decide p = true then A else B := by
  rw [decide_eq_true hp]
  exact iteT h
theorem iteN {p : Prop} [Decidable p] {A B : Prop} (hp : ¬ p) (h : B) : if decide p = true then A else B := by
  rw [decide_eq_false hp]
  exact iteF h
theorem iteNY {p : Prop} [Decidable p] {A B : Prop} (hp : ¬ p) (h : A) : if (!decide p) = true then A else B := by
  rw [decide_eq_false hp]
  exact iteT h
theorem iteNN {p : Prop} [Decidable p] {A B : Prop} (hp : p) (h : B) : if (!decide p) = true then A else B := by
  rw [decide_eq_true hp]
  exact iteF h
theorem iteE {b c : Bool} {A B : Prop} (e : b = c) (h1 : c = true → A) (h2 : c = false → B) : if b = true then A else B := by
  subst e
  cases b with
  | true => exact iteT (h1 rfl)
  | false => exact iteF (h2 rfl)
theorem dI (a b : Int) : decide (V.int a = V.int b) = decide (a = b) := by
  by_cases h : a = b
  · rw [h]; simp
  · rw [decide_eq_false h, decide_eq_false fun e => h (V.int.inj e)]
section
variable {K : PySem.W.Frag} {H : Hp} {Q : VK} {p : Addr} {xs : List V} {i : Int} {v : V}
theorem ixl (h : H p = some (.lst xs)) (ha : atI xs i = some v) (q : Q v H) : rIxL K (.ref p) (.int i) H Q := ⟨p, xs, i, v, rfl, rfl, .inl (.inl h), ha, q⟩
end
end Ub
namespace Ux
open PySem PySem.W PySem.Calls PyProof.Rows
theorem run_of {R : OpenRow} {q : Program} {H : Hook} {ob : SharedT → H.α} {M : Nat} {loose : List Str} {w : World}
    (h1 : ∀ os, (EndAt R M w os).map (lookAt R w) = some true) (h2 : ∀ os, (EndAt R M w os).map (seenAt R q loose) = some (goodAt q loose)) (h3 : ∀ os, (EndAt R M w os).map ob = some (H.val w)) : HandSHeadRun.RunEq R q H ob M loose w := by
  intro os
  have e1 := h1 os
  have e2 := h2 os
  have e3 := h3 os
  revert e1 e2 e3
  show (EndAt R M w os).map _ = _ → (EndAt R M w os).map _ = _ → (EndAt R M w os).map _ = _ → (EndAt R M w os).map _ = _
  cases EndAt R M w os with
  | none => intro e1 _ _; exact nomatch e1
  | some s =>
    intro e1 e2 e3
    exact congrArg some (Prod.ext (Option.some.inj e1) (Prod.ext (Option.some.inj e2) (Option.some.inj e3)))
end Ux
namespace Uo
open PySem PySem.Spec PyProof.Rows L2 Ub
/-- an own class's method -/
structure CalK (P : Program) (w : World) (K : PySem.W.Frag) (mg : Str → Option Value) (base : Heap) (CX : CXT) (k : Nat) (C : Addr) (m : Str) (ps : List Str) (sp : Sp) : Prop where
  ex : ∃ f fd, Meth K C m f ∧ PySem.W.fnIn K f = true ∧ FnOk P w K mg base CX k f fd ps sp ∧ Binds K fd ps []
theorem ps_no {X : Cx} {st : Stmt} : PS X st (fun _ _ _ => False) := ⟨fun _ _ _ _ _ _ h => h.elim⟩
theorem pas0 {X : Cx} {σ : L2.St} {E : XK} : PassesAt CX0 X σ E := fun _ _ _ _ _ _ h => h.elim
section
variable {X : Cx} {CX : CXT} {k : Nat} {f C : Addr} {fd : FuncData} {ps : List Str} {sp : Sp} {E : XK}
theorem run_fnA {pins : List (Addr × Obj)} {σ : L2.St} {H : Hp} {s : Shared} {Q : VK} {us : List Value} {vs : List V} (F : FnOk X.prog X.w X.K X.mg X.base CX k f fd ps sp) (hr : Room k X.A) (hb : Binds X.K fd ps []) (hx : PassesAt CX X σ E)
    (I : Inv X pins σ H s) (r : Vals vs us) (h : sp vs H Q E) : wpAny (model X.prog X.w) X.A (call (.ref f) us) (EP X pins σ Q) X.xe s := by
  have hl : us.length = ps.length := by rw [← r.length]; exact F.len _ _ _ _ h
  have bi := hb s us I.kIn (by rw [List.append_nil]; exact hl)
  rw [List.append_nil] at bi
  refine wpAny_call (codeAny_mono (F.run X.A X.stack s H ⟨us, []⟩ us vs Q E hr I.env0 bi r h) fun r s' hq => ?_)
  match r, hq with
  | .error e, hq => exact hx pins H s e s' I hq
  | .ok (.ret u), hq => exact I.after hq
theorem run_fn1 {pins : List (Addr × Obj)} {σ : L2.St} {H : Hp} {s : Shared} {Q : VK} {us : List Value} {vs : List V} (F : FnOk X.prog X.w X.K X.mg X.base CX k f fd ps sp) (hr : Room (k + 1) X.A) (hb : Binds X.K fd ps []) (hx : PassesAt CX X σ E)
    (I : Inv X pins σ H s) (r : Vals vs us) (h : sp vs H Q E) : wpAny (model X.prog X.w) X.A.in1 (call (.ref f) us) (EP X pins σ Q) X.xe s := by
  have hl : us.length = ps.length := by rw [← r.length]; exact F.len _ _ _ _ h
  have bi := hb s us I.kIn (by rw [List.append_nil]; exact hl)
  rw [List.append_nil] at bi
  refine wpAny_call (codeAny_mono (F.run X.A.in1 X.stack s H ⟨us, []⟩ us vs Q E hr.in1 I.env0.in1 bi r h) fun r s' hq => ?_)
  match r, hq with
  | .error e, hq => exact hx pins H s e s' I hq
  | .ok (.ret u), hq => exact I.after hq
theorem inst_of {pins : List (Addr × Obj)} {σ : L2.St} {H : Hp} {s : Shared} {a dx : Addr} {fs : List (Str × V)} (I : Inv X pins σ H s) (ea : H a = some (.ins C dx fs)) : ∃ ox od, PySem.W.InstAt s.heap a ox C od := by
  obtain ⟨mA, O, _⟩ := ins_get I.hok ea
  obtain ⟨od, J, _⟩ := O.look
  exact ⟨_, _, J⟩
theorem contains_own {prog : Program} {w : World} {A : Around} {Ee : Value → Shared → Prop} {s : Shared} {K : PySem.W.Frag} {x C f : Addr} {ox : Obj} {od : Option Obj} {v : Value} {Q : Bool → Shared → Prop} (X : K.In s.heap) (I : PySem.W.InstAt s.heap x ox C od) (M : Meth K C "__contains__" f)
    (h : wpAny (model prog w) A (call (.ref f) [.ref x, v]) (fun r s' => wpAny (model prog w) A (truthy r) Q Ee s') Ee s) : wpAny (model prog w) A (contains (.ref x) v) Q Ee s := by
  unfold contains
  refine wpAny_holding (wpAny_bind (wpAny_bind (I.type.here ((PySem.W.looks_findIn X M.at_).here ?_))))
  rw [if_neg (by simp)]
  exact wpAny_bind (PySem.W.unlessNone_K X I M.at_ M.fn h)
def rInO (C : Addr) (sp : Sp) (E : XK) (g : Bool → Bool) : R2 := fun x y H Q => ∃ a dx fs, y = .ref a ∧ H a = some (.ins C dx fs) ∧ sp [.ref a, x] H (fun v H' => ∃ b, v = .bl b ∧ Q (.bl (g b)) H') E
theorem op_inO (c : CalK X.prog X.w X.K X.mg X.base CX k C "__contains__" ps sp) (hx : ∀ σ, PassesAt CX X σ E) (hr : Room k X.A) : OpR X (compareOp .In) (rInO C sp E fun b => b) := by
  obtain ⟨f, fd, M, _, F, hb⟩ := c.ex
  intro pins s σ H x y v u Q I rx ry h
  obtain ⟨a, dx, fs, rfl, ea, q⟩ := h
  cases ry
  obtain ⟨ox, od, J⟩ := inst_of I ea
  refine wpAny_bind (contains_own I.kIn J M (wpAny_mono (run_fnA (vs := [.ref a, x]) F hr hb (hx σ) I (.cons rfl (.cons rx .nil)) q) (fun r s' z => ?_) fun _ _ z => z))
  obtain ⟨z, H', I', rz, b, rfl, q'⟩ := z
  cases rz
  exact wpAny_truthy_bool (wpAny_pure ⟨.bl b, H', I', rfl, q'⟩)
theorem op_notInO (c : CalK X.prog X.w X.K X.mg X.base CX k C "__contains__" ps sp) (hx : ∀ σ, PassesAt CX X σ E) (hr : Room k X.A) : OpR X (compareOp .NotIn) (rInO C sp E fun b => !b) := by
  obtain ⟨f, fd, M, _, F, hb⟩ := c.ex
  intro pins s σ H x y v u Q I rx ry h
  obtain ⟨a, dx, fs, rfl, ea, q⟩ := h
  cases ry
  obtain ⟨ox, od, J⟩ := inst_of I ea
  refine wpAny_bind (contains_own I.kIn J M (wpAny_mono (run_fnA (vs := [.ref a, x]) F hr hb (hx σ) I (.cons rfl (.cons rx .nil)) q) (fun r s' z => ?_) fun _ _ z => z))
  obtain ⟨z, H', I', rz, b, rfl, q'⟩ := z
  cases rz
  exact wpAny_truthy_bool (wpAny_pure ⟨.bl (!b), H', I', rfl, q'⟩)
theorem sub_own {prog : Program} {w : World} {A : Around} {Ee : Value → Shared → Prop} {s : Shared} {K : PySem.W.Frag} {x C f : Addr} {ox : Obj} {od : Option Obj} {value slice : Expr} {i : Value} {Q : Value → Shared → Prop} (X : K.In s.heap) (I : PySem.W.InstAt s.heap x ox C od) (M : Meth K C "__getitem__" f) (hf : PySem.W.fnIn K f = true)
    (h : wpAny (model prog w) A.in1 (call (.ref f) [.ref x, i]) Q Ee s)
    (hsl : subscripted slice true (.ref x) i = runValue (.builtin "lifetime.subscript" ⟨[.ref x, i], []⟩)) :
    wpAny (model prog w) A (subscriptTail value slice (.ref x) i) Q Ee s := by
  unfold PySem.W.fnIn at hf
  split at hf
  · rename_i e
    unfold subscriptTail getitemInPython
    refine wpAny_bind (wpAny_bind (wpAny_bind (I.type.here ((PySem.W.looks_findIn X M.at_).here ?_))))
    dsimp only
    refine wpAny_bind (wpAny_load (X _ _ e) (wpAny_pure ?_))
    dsimp only
    rw [hsl]
    refine wpAny_bind (wpAny_runValue (codeAny_builtin PySem.W.entry_sub ?_))
    unfold Builtin.«lifetime.subscript»
    refine wpAny_bind (PySem.W.special_fn X I M.at_ (beq_iff_eq.mp M.fn) (wpAny_mono h (fun v s' z => ?_) fun _ _ z => z))
    refine wpAny_pure ?_
    show wpAny (model prog w) A (letTemporaryGo value (.ref x) v >>= fun _ => pure v) Q Ee s'
    exact wpAny_bind (wpAny_letTemporaryGo (wpAny_pure z))
  · cases hf
def OwnIx (b : Expr) : Prop := ∀ (o : Addr) i, subscripted b true (.ref o) i = runValue (.builtin "lifetime.subscript" ⟨[.ref o, i], []⟩)
def tIxO (C : Addr) (sp : Sp) (E : L2.St → XK) (ta tb : TE) : TE := fun σ H Q => ta σ H fun x H1 => tb σ H1 fun y H2 => ∃ a dx fs, x = .ref a ∧ H2 a = some (.ins C dx fs) ∧ sp [.ref a, y] H2 Q (E σ)
theorem pe_ixO {E : L2.St → XK} {a b : Expr} {ta tb : TE} {pos : Pos} (c : CalK X.prog X.w X.K X.mg X.base CX k C "__getitem__" ps sp) (hx : ∀ σ, PassesAt CX X σ (E σ)) (hr : Room (k + 1) X.A) (ha : PE X a ta) (hb : PE X b tb) (hs : OwnIx b) : PE X (.Subscript a b pos) (tIxO C sp E ta tb) := by
  obtain ⟨f, fd, M, hf, F, hbi⟩ := c.ex
  refine ⟨fun pins s σ H Q I h => ?_⟩
  refine Subscript_ (thn (ha.run pins s σ H _ I h) fun v s1 ⟨x, H1, I1, r1, q1⟩ => thn (hb.run pins s1 σ H1 _ I1 q1) fun u s2 ⟨y, H2, I2, r2, q2⟩ => ?_)
  obtain ⟨p, dx, fs, rfl, ea, q⟩ := q2
  cases r1
  obtain ⟨ox, od, J⟩ := inst_of I2 ea
  exact sub_own I2.kIn J M hf (run_fn1 (vs := [.ref p, y]) F hr hbi (hx σ) I2 (.cons rfl (.cons r2 .nil)) q) (hs p u)
/-- beside such values the own class's method is asked first -/
def NF (K : PySem.W.Frag) (C : Addr) : Prop := ∀ t ∈ kinds0, PySem.W.notFirst K C t = true
theorem nfB_ok {K : PySem.W.Frag} {C : Addr} (h : nfB K C = true) : NF K C := List.all_eq_true.mp h
/-- the class has no __ne__ of its own -/
structure NoNe (K : PySem.W.Frag) (C : Addr) : Prop where
  at_ : PySem.W.findIn K (.ref C) "__ne__" = some (some (.builtin "object.__ne__"))
  ob : PySem.W.mroIn K C (.type "object") = some true
theorem noNeB_ok {K : PySem.W.Frag} {C : Addr} (h : noNeB K C = true) : NoNe K C := ⟨of_decide_eq_true (Bool.and_eq_true_iff.mp h).1, of_decide_eq_true (Bool.and_eq_true_iff.mp h).2⟩
end
structure CalR (P : Program) (w : World) (K : PySem.W.Frag) (mg : Str → Option Value) (base : Heap) (k : Nat) (x : Str) (C : Addr) (sp : Sp) : Prop where
  ex : ∃ f, Mk K C f ∧ FnR P w K mg base (L2.CX P w) k f sp ∧ mg x = some (.ref C)
def tMakeT (C : Addr) (sp : Sp) (E : L2.St → XK) (t : TA) : TE := fun σ H Q => t σ H fun vs H1 => ∀ x dx, H1 x = none → H1 dx = none → dx ≠ x → sp (.ref x :: vs) (upd (upd H1 dx (.own x)) x (.ins C dx [])) (fun v H2 => v = .non ∧ Q (.ref x) H2) (E σ)
end Uo
namespace Vk
open PySem PySem.Spec PyProof.Rows L2 Ub
abbrev AlP : Type := He.AlX × List He.FnW
def valP (fn : List He.DefD) (pn : List He5.DefA) (w : World) : AlP := (He.valX fn [] w, pn.map He5.DefA.val)
structure SaysP (fa : List He.Fa) (fn : List He.DefD) (pn : List He5.DefA) (ex : PySem.W.Frag → Bool) (w : World) (h : Heap) (K : PySem.W.Frag) : Prop where
  x : He.SaysX fa fn [] [] (exP ex pn) w h K
  p : fnP pn K = pn.map He5.DefA.val
section
variable {fa : List He.Fa} {fn : List He.DefD} {pn : List He5.DefA} {ex : PySem.W.Frag → Bool} {w : World} {h : Heap} {K : PySem.W.Frag}
theorem SaysP.more (c : SaysP fa fn pn ex w h K) : ex K = true := (He.ba c.x.more).1
theorem SaysP.get (c : SaysP fa fn pn ex w h K) (i : Nat) {d : He5.DefA} (hd : pn[i]? = some d := by rfl) : ∃ fd, FunD K d.name d.qual d.params d.body d.scope (d.dvs K) (d.kws K) (d.at_ K) fd := by
  have c2 := (He.ba c.x.more).2
  have e2 : (pn.map fun d => He5.fnA K (d.at_ K))[i]? = (pn.map He5.DefA.val)[i]? := by rw [← c.p]; rfl
  rw [List.getElem?_map, List.getElem?_map, hd] at e2
  exact He5.DefA.funD (Option.some.inj e2) (List.all_eq_true.mp c2 d (List.mem_of_getElem? hd))
end
structure PropB (K : PySem.W.Frag) (x f : Str) : Prop where
  ex : PropOf K (He.ga K x) f (He.ma K (He.ga K x) f) (gAd K x f)
theorem propB_ok {K : PySem.W.Frag} {x f : Str} (h : propB K x f = true) : PropB K x f := by
  unfold propB at h
  obtain ⟨h1, h⟩ := Bool.and_eq_true_iff.mp h
  obtain ⟨h2, h⟩ := Bool.and_eq_true_iff.mp h
  obtain ⟨h3, h⟩ := Bool.and_eq_true_iff.mp h
  refine ⟨of_decide_eq_true h1, of_decide_eq_true h2, of_decide_eq_true h3, ?_⟩
  unfold gAd He5.wf
  split at h
  · rename_i g' r hr
    exact ⟨r, by rw [hr]⟩
  · cases h
structure CalP (P : Program) (w : World) (K : PySem.W.Frag) (mg : Str → Option Value) (base : Heap) (k : Nat) (C : Addr) (f : Str) (sp : Sp) : Prop where
  ex : ∃ p g fd, PropOf K C f p g ∧ Cls K C ∧ FnOk P w K mg base CX0 k g fd ["self"] sp ∧ Binds K fd ["self"] []
theorem pe_propP {X : Cx} {k : Nat} {C : Addr} {f : Str} {sp : Sp} {e : Expr} {pos : Pos} {ta : TE} (c : CalP X.prog X.w X.K X.mg X.base k C f sp) (hr : Room (k + 1) X.A) (he : PE X e ta) (hab : attributeBase e f X.env (eval e X.env) = eval e X.env := by rfl) :
    PE X (.Attribute e f pos) (tProp C sp [] E0 ta) := by
  obtain ⟨p, g, fd, hp, cl, F, hb⟩ := c.ex
  exact pe_prop he cl hp F hr hb .nil (fun _ _ _ _ _ _ _ z => z.elim) hab
end Vk
namespace Ug
open PySem PySem.Spec PyProof.Rows L2 Ub
structure FnG (P : Program) (w : World) (K : PySem.W.Frag) (mg : Str → Option Value) (base : Heap) (CX : CXT) (k : Nat) (f : Addr) (fd : FuncData) (ps : List Str) (sp : Sp) : Prop where
  len : ∀ vs H Q E, sp vs H Q E → vs.length = ps.length
  run : ∀ (A : Around) (outer : List Env) (s : Shared) (H : Hp) (args : Args) (us : List Value) (vs : List V) (Q : VK) (E : XK), A.guards = some [] → Room k A → Env0 P w K mg base A outer s H →
    BindsTo s fd args (ps.zip us) → Vals vs us → sp vs H Q E → codeAny (model P w) A (.call (.ref f) args) (CR CX outer P w H s Q E) s
section
variable {CX : CXT} {P : Program} {w : World} {K : PySem.W.Frag} {mg : Str → Option Value} {base : Heap} {x qual : Str} {params : Arguments} {body : List Stmt} {scope : Scope} {dvs : List V} {kws : List (Str × V)} {f : Addr} {fd : FuncData} {N ps : List Str} {k : Nat} {sp : Sp}
theorem okG (F : FunD K x qual params body scope dvs kws f fd) (S : FnScope N ps scope) (len : ∀ vs H Q E, sp vs H Q E → vs.length = ps.length)
    (hb : ∀ (cdv : Value) (A : Around) (outer : List Env) (s : Shared) (H : Hp) (vs : List V) (Q : VK) (E : XK), A.guards = some [] → Room k (A.deeper (envOfC qual scope s.heap.objs.size f cdv)) → sp vs H Q E →
      ∃ t, PSs (cxOf CX P w K mg base N qual scope f cdv A outer s H E) body t ∧ t { nx := fun _ H' => Q .non H', rt := Q } (start N vs) H) : FnG P w K mg base CX (k + 1) f fd ps sp := by
  obtain ⟨oc, od, dV, kV, doc, pm, an, cdv, ct, osl, rfl, lk, hcd, _, _⟩ := F.ex
  refine ⟨len, fun A outer s H args us vs Q E hG hr e0 hbi rv hsp => ?_⟩
  have keep := fun b o e => (e0.bs b o e).1
  have inK := e0.mod.kin.keeps keep
  refine codeAny_call_function hr.depth (inK _ _ lk) rfl S.co S.gen rfl (PySem.W.codeRec_of inK hcd) (hbi _ _ _ _ ?_)
  refine wpAny_newFunctionEnv_cells S.kind (fun ⟨y, _⟩ hy => ?_) fun env he s1 cl => ?_
  · exact (S.par y (List.of_mem_zip hy).1).imp (fun q => q) fun q => ⟨q, PySem.W.cellsFrom_some _ _ _ (.inl q)⟩
  subst he
  obtain ⟨t, ht, hq⟩ := hb cdv A outer s H vs Q E hG (hr.deeper _) hsp
  have J : Inv (cxOf CX P w K mg base N qual scope f cdv A outer s H E) [] (start N vs) H s1 := inv_start S hr.hd e0 (len _ _ _ _ hsp) rv cl
  refine ⟨(e0.mod.nolimit.keeps keep).keeps cl.toInCall.keep, codeAny_func (wpAny_mono (ht.run [] s1 (start N vs) H _ J hq) (fun fl s2 h2 => ?_) fun _ _ z => z)⟩
  match fl, h2 with
  | .ret _, ⟨v, _, H2, J2, r2, q2⟩ => exact ⟨v, H2, J2.os, J2.bare, J2.base, J2.hok, r2, q2⟩
  | .next, ⟨_, H2, J2, q2⟩ => exact ⟨.non, H2, J2.os, J2.bare, J2.base, J2.hok, rfl, q2⟩
  | .brk, ⟨_, _, _, q2⟩ => exact q2.elim
  | .cont, ⟨_, _, _, q2⟩ => exact q2.elim
end
section
variable {P : Program} {w : World} {K : PySem.W.Frag} {mg mb : Str → Option Value} {k : Nat} {fa a : Addr} {fd : FuncData} {x : Str} {sp : Sp} {s₁ : Shared} {vs : List Value} {ns : List Int}
theorem core_end (KX : K.In s₁.heap) (hns : s₁.heap.Ns mainGlobals mg) (hb : s₁.heap.Ns builtinsNs mb) (hbb : ∀ x : Str, x ≠ "__name__" → mb x = bootBuiltins x) (hlim : s₁.heap.NoLimit) (hg : s₁.gens = #[])
    (ha : s₁.heap.get? a = some { cls := .type "list", data := .seq vs.toArray }) (hr : Room k callerA) (F : ∀ base : Heap, K.In base → base.Ns mainGlobals mg → FnG P w K mg base CX0 k fa fd [x] sp) (hbind : ∀ (s : Shared) (u : Value), BindsTo s fd ⟨[u], []⟩ [(x, u)])
    (H : Hp) (hO : Only H) (hs : sp [.ref a] H (fun v _ => v = .bl true) fun _ _ _ => False) (hok : HOk P w H s₁.heap) (hA : ∀ b, H b ≠ none → b = a) (hK : H a ≠ none → K.lookup a = none) :
    codeAny (model P w) callerA (.call (.ref fa) ⟨[.ref a], []⟩) (fun r s' => r = .ok (.ret (.bool true)) ∧ OldK s₁.heap s'.heap ∧ s'.os = s₁.os ∧ AllBare s'.gens) s₁ := by
  have far : ∀ {b : Addr}, b ≠ a → H b = none := fun {b} n => Classical.byContradiction fun z => n (hA b z)
  have dictN : ∀ {b : Addr} {m : Str → Option Value}, s₁.heap.Ns b m → (hidT s₁.heap H).Ns b m := by
    intro b m ⟨o, es, ep, e, d, r⟩
    refine ⟨o, es, ep, hidT_get e (far fun z => ?_), d, r⟩
    rw [z, ha] at e
    rw [← Option.some.inj e] at d
    exact nomatch d
  have inB : K.In (hidT s₁.heap H) := fun b o e => hidT_get (KX b o e) (Classical.byContradiction fun z => by
    have eb := hA b z
    rw [eb] at e z
    rw [hK z] at e
    exact nomatch e)
  obtain ⟨mc, l1, l2⟩ := hlim
  have e0 : Env0 P w K mg (hidT s₁.heap H) callerA [] s₁ H := {
    frames := rfl
    mod := ⟨inB, dictN hns, ⟨mb, dictN hb, hbb⟩, ⟨mc, dictN l1, l2⟩⟩
    bs := fun _ _ e => of_hidT e
    bsz := Nat.le_of_eq (hidT_size _ _)
    funs := trivial
    frf := fun b z => absurd (show b ∈ ([] : List Addr) from z) (by simp)
    hok := hok
    bare := .of_eq hg }
  refine codeAny_mono ((F _ inB (dictN hns)).run callerA [] s₁ H ⟨[.ref a], []⟩ [.ref a] [.ref a] _ _ rfl hr e0 (hbind s₁ (.ref a)) (.cons rfl .nil) hs) fun r s2 h => ?_
  match r, h with
  | .error e, h => exact h.elim
  | .ok (.ret u), ⟨v, H2, os2, bare2, un2, hok2, r2, q2⟩ =>
    have ev : v = .bl true := q2
    subst ev
    have eu : u = Value.bool true := r2
    subst eu
    refine ⟨rfl, OldK.of_keep fun b o e => ?_, os2, bare2⟩
    rcases hO b with z | ⟨ob, xs, z⟩
    · exact un2.keep b o e z (fun y => absurd (show b ∈ ([] : List Addr) from y) (by simp)) (by simp)
    · obtain ⟨e1, _⟩ := hok b _ z
      obtain ⟨e2, _⟩ := hok2 b _ (un2.frzs b ob _ z)
      rw [e1] at e
      rw [← Option.some.inj e]
      exact e2
theorem law_callG (KX : K.In s₁.heap) (hns : s₁.heap.Ns mainGlobals mg) (hb : s₁.heap.Ns builtinsNs mb) (hbb : ∀ x : Str, x ≠ "__name__" → mb x = bootBuiltins x) (hlim : s₁.heap.NoLimit) (hg : s₁.gens = #[])
    (ha : s₁.heap.get? a = some { cls := .type "list", data := .seq vs.toArray }) (hi : IntsAre vs ns) (hl : ns.length ≤ sizeLine) (hr : Room k callerA) (F : ∀ base : Heap, K.In base → base.Ns mainGlobals mg → FnG P w K mg base CX0 k fa fd [x] sp)
    (hbind : ∀ (s : Shared) (u : Value), BindsTo s fd ⟨[u], []⟩ [(x, u)]) (hsp : ∀ H : Hp, Only H → SqL K H a (ns.map V.int) → sp [.ref a] H (fun v _ => v = .bl true) fun _ _ _ => False) :
    codeAny (model P w) callerA (.call (.ref fa) ⟨[.ref a], []⟩) (fun r s' => r = .ok (.ret (.bool true)) ∧ OldK s₁.heap s'.heap ∧ s'.os = s₁.os ∧ AllBare s'.gens) s₁ := by
  have rv := vals_ints hi
  have lv := hi.length
  by_cases hk : K.lookup a = none
  · let o0 : Obj := { cls := .type "list", data := .seq vs.toArray }
    let Hs : Hp := upd (fun _ => none) a (.frz o0 (.lst (ns.map V.int)))
    have at_ : Hs a = some (.frz o0 (.lst (ns.map V.int))) := upd_same
    have off : ∀ {b : Addr}, b ≠ a → Hs b = none := fun {b} n => upd_ne n
    have hO : Only Hs := fun b => by
      by_cases e : b = a
      · exact .inr ⟨o0, _, by rw [e]; exact at_⟩
      · exact .inl (off e)
    refine core_end KX hns hb hbb hlim hg ha hr F hbind Hs hO (hsp Hs hO (.inl (.inr ⟨o0, at_⟩))) (fun b u z => ?_) (fun b z => Classical.byContradiction fun n => z (off n)) fun _ => hk
    by_cases e : b = a
    · rw [e, at_] at z
      cases z
      rw [e]
      exact ⟨ha, by rw [List.length_map]; exact hl, vs, _, rv, ha⟩
    · rw [off e] at z
      exact nomatch z
  · obtain ⟨o, ho⟩ := Option.ne_none_iff_exists'.mp hk
    have e := KX a o ho
    rw [ha] at e
    cases e
    exact core_end KX hns hb hbb hlim hg ha hr F hbind (fun _ => none) (fun _ => .inl rfl) (hsp _ (fun _ => .inl rfl) (.inr ⟨_, vs.toArray, _, ho, rfl, rfl, rfl, by rw [List.size_toArray, lv]; exact hl, by simpa using rv⟩))
      (fun b u z => nomatch (show (none : Option HO) = some u from z)) (fun b z => absurd rfl z) fun z => absurd rfl z
end
theorem walk_ofG {l : PySem.W.OpenLaw} {n k : Nat} {q : Program} {loose : List Str} {XP : (Str → Option Value) → Heap → Prop} {YP : World → Heap → Prop} {d : DefRec} {x : Str}
    (hn : l.most = some n) (hn2 : n ≤ sizeLine) (hdf : d.params.defaults = []) (hr : Room k callerA)
    (F : ∀ (w : World) (mg : Str → Option Value) (fa : Addr) (h : Heap), YP w h → h.Ns mainGlobals mg → mg d.name = some (.ref fa) →
      ∃ (K : PySem.W.Frag) (fd : FuncData) (sp : Sp), K.In h ∧ (∀ (s : Shared) (u : Value), BindsTo s fd ⟨[u], []⟩ [(x, u)]) ∧
        (∀ (H : Hp) (a : Addr) (ns : List Int), ns.length ≤ n → Only H → SqL K H a (ns.map V.int) → sp [.ref a] H (fun v _ => v = .bl true) fun _ _ _ => False) ∧
        ∀ base : Heap, K.In base → base.Ns mainGlobals mg → FnG l.prog w K mg base CX0 k fa fd [x] sp) :
    PySem.W.WalkO q loose XP YP l.row.toRowW d [] (fun f vs => PySem.call f vs) := by
  refine Att.attach_call hn hdf fun w s₀ s₁ mg mb fa o pm cd doc a vs ns G Y ho hd hcd hmg hobj hints hlen hg => ?_
  obtain ⟨K, fd, sp, KX, hb, hsp, hF⟩ := F w mg fa _ Y G.T.g hmg
  exact law_callG KX G.T.g G.T.b G.T.builtins G.T.nolimit hg hobj hints (Nat.le_trans hlen hn2) hr hF hb fun H hO hS => hsp H a ns hlen hO hS
end Ug
namespace Ur
open PySem PySem.Spec PyProof.Rows L2 Ub
mutual
inductive DtV (N : List Addr) (H : Hp) : V → PyData → Prop
  | non : DtV N H .non .none
  | bl (b : Bool) : DtV N H (.bl b) (.bool b)
  | int (i : Int) : DtV N H (.int i) (.int i)
  | str (z : Str) : DtV N H (.str z) (.str z)
  | lst {p : Addr} {xs : List V} {ds : List PyData} : H p = some (.lst xs) → p ∉ N → DtVs N H xs ds → DtV N H (.ref p) (.list ds)
  | tup {p : Addr} {xs : List V} {ds : List PyData} : H p = some (.tup xs) → p ∉ N → DtVs N H xs ds → DtV N H (.ref p) (.tuple ds)
inductive DtVs (N : List Addr) (H : Hp) : List V → List PyData → Prop
  | nil : DtVs N H [] []
  | cons {x : V} {d : PyData} {xs : List V} {ds : List PyData} : DtV N H x d → DtVs N H xs ds → DtVs N H (x :: xs) (d :: ds)
end
mutual
theorem DtV.keep {N : List Addr} {H H' : Hp} (k : ∀ b o, H b = some o → b ∉ N → H' b = some o) : ∀ {v : V} {d : PyData}, DtV N H v d → DtV N H' v d
  | _, _, .non => .non
  | _, _, .bl b => .bl b
  | _, _, .int i => .int i
  | _, _, .str z => .str z
  | _, _, .lst h n r => .lst (k _ _ h n) n (DtVs.keep k r)
  | _, _, .tup h n r => .tup (k _ _ h n) n (DtVs.keep k r)
theorem DtVs.keep {N : List Addr} {H H' : Hp} (k : ∀ b o, H b = some o → b ∉ N → H' b = some o) : ∀ {xs : List V} {ds : List PyData}, DtVs N H xs ds → DtVs N H' xs ds
  | _, _, .nil => .nil
  | _, _, .cons h r => .cons (DtV.keep k h) (DtVs.keep k r)
end
theorem DtV.same {N : List Addr} {H H' : Hp} {v : V} {d : PyData} (h : DtV N H v d) (s : Same H H') : DtV N H' v d := h.keep fun b o e _ => s b o e
mutual
theorem DtV.free {N : List Addr} {H : Hp} : ∀ {v : V} {d : PyData}, DtV N H v d → DtV [] H v d
  | _, _, .non => .non
  | _, _, .bl b => .bl b
  | _, _, .int i => .int i
  | _, _, .str z => .str z
  | _, _, .lst h _ r => .lst h (by simp) (DtVs.free r)
  | _, _, .tup h _ r => .tup h (by simp) (DtVs.free r)
theorem DtVs.free {N : List Addr} {H : Hp} : ∀ {xs : List V} {ds : List PyData}, DtVs N H xs ds → DtVs [] H xs ds
  | _, _, .nil => .nil
  | _, _, .cons h r => .cons (DtV.free h) (DtVs.free r)
end
theorem DtVs.mem {N : List Addr} {H : Hp} : ∀ {xs : List V} {ds : List PyData}, DtVs N H xs ds → ∀ {x : V}, x ∈ xs → ∃ d ∈ ds, DtV N H x d
  | _, _, .nil, _, h => nomatch h
  | _, _, .cons h r, x, hx => by
    rcases List.mem_cons.mp hx with e | hx
    · exact ⟨_, List.mem_cons_self .., by rw [e]; exact h⟩
    · obtain ⟨d, h1, h2⟩ := DtVs.mem r hx
      exact ⟨d, List.mem_cons_of_mem _ h1, h2⟩
theorem DtVs.len {N : List Addr} {H : Hp} : ∀ {xs : List V} {ds : List PyData}, DtVs N H xs ds → xs.length = ds.length
  | _, _, .nil => rfl
  | _, _, .cons _ r => congrArg Nat.succ (DtVs.len r)
mutual
theorem DtV.reads {N : List Addr} {P : Program} {w : World} {H : Hp} {h : Heap} (hok : HOk P w H h) : ∀ {v : V} {d : PyData} {u : Value}, DtV N H v d → RelV v u → ∃ as, Reads h u d as
  | _, _, u, .non, r => by
    obtain rfl : u = Value.none := r
    exact ⟨_, .none⟩
  | _, _, u, .bl b, r => by
    obtain rfl : u = Value.bool b := r
    exact ⟨_, .bool b⟩
  | _, _, _, .int i, r => by
    obtain ⟨t, rfl⟩ := r
    exact ⟨_, .int i t⟩
  | _, _, _, .str z, r => by
    obtain ⟨t, rfl⟩ := r
    exact ⟨_, .str z t⟩
  | _, _, u, .lst (p := p) (xs := xs) e _ q, r => by
    obtain rfl : u = Value.ref p := r
    obtain ⟨_, its, n, rv, hg⟩ : ObjOk P w H h p (.lst xs) := hok p _ e
    obtain ⟨as, ra⟩ := DtVs.reads hok q rv
    exact ⟨_, .list hg rfl rfl (by simpa using ra)⟩
  | _, _, u, .tup (p := p) (xs := xs) e _ q, r => by
    obtain rfl : u = Value.ref p := r
    obtain ⟨_, its, rv, o, hg, hc, n, hd⟩ : ObjOk P w H h p (.tup xs) := hok p _ e
    obtain ⟨as, ra⟩ := DtVs.reads hok q rv
    exact ⟨_, .tuple hg hc hd (by simpa using ra)⟩
theorem DtVs.reads {N : List Addr} {P : Program} {w : World} {H : Hp} {h : Heap} (hok : HOk P w H h) : ∀ {xs : List V} {ds : List PyData} {us : List Value}, DtVs N H xs ds → Vals xs us → ∃ as, ReadsAll h us ds as
  | _, _, _, .nil, r => by
    cases r
    exact ⟨_, .nil⟩
  | _, _, _, .cons a b, r => by
    cases r with
    | cons r1 r2 =>
      obtain ⟨as, h1⟩ := DtV.reads hok a r1
      obtain ⟨bs, h2⟩ := DtVs.reads hok b r2
      exact ⟨_, .cons h1 h2⟩
end
def rpOk (d : PyData) : Bool := d.showable && !d.hasDict && decide (d.depth ≤ 40) && (match d with
  | .int _ => true
  | _ => decide (d.shown.length ≤ 100000))
end Ur
namespace Ub
open PySem PySem.Spec PyProof.Rows L2 Ur
structure StAt (H : Hp) (st g l : Addr) : Prop where
  ex : ∃ (gs ls : List Int) (c a : Int), H st = some (.lst [.ref g, .ref l, .int c, .int a]) ∧ H g = some (.lst (gs.map V.int)) ∧ H l = some (.lst (ls.map V.int)) ∧ gs.length ≤ 63 ∧ ls.length ≤ 64 ∧ 0 ≤ a ∧ a < 4611686018427387904 ∧ ls ≠ []
  n1 : st ≠ g
  n2 : st ≠ l
  n3 : g ≠ l
def Kp (st g l : Addr) (H H' : Hp) : Prop := ∀ b o, H b = some o → b ≠ st → b ≠ g → b ≠ l → H' b = some o
theorem Kp.refl {st g l : Addr} (H : Hp) : Kp st g l H H := fun _ _ h _ _ _ => h
theorem Kp.trans {st g l : Addr} {H H1 H2 : Hp} (a : Kp st g l H H1) (b : Kp st g l H1 H2) : Kp st g l H H2 := fun c o h h1 h2 h3 => b c o (a c o h h1 h2 h3) h1 h2 h3
theorem Kp.of {st g l : Addr} {H H1 : Hp} (a : Same H H1) : Kp st g l H H1 := fun c o h _ _ _ => a c o h
theorem StAt.same {st g l : Addr} {H H1 : Hp} (s : StAt H st g l) (a : Same H H1) : StAt H1 st g l := by
  obtain ⟨⟨gs, ls, c, x, h1, h2, h3, r⟩, n1, n2, n3⟩ := s
  exact ⟨⟨gs, ls, c, x, a _ _ h1, a _ _ h2, a _ _ h3, r⟩, n1, n2, n3⟩
theorem StAt.back {st g l : Addr} {H H1 : Hp} (s : StAt H1 st g l) (k : Kp st g l H H1) {p : Addr} (h : H1 p = none) : H p = none := by
  obtain ⟨⟨gs, ls, c, x, h1, h2, h3, r⟩, n1, n2, n3⟩ := s
  cases e : H p with
  | none => rfl
  | some o => rw [k p o e (fun z => by rw [z, h1] at h; cases h) (fun z => by rw [z, h2] at h; cases h) (fun z => by rw [z, h3] at h; cases h)] at h; cases h
theorem small63 {n : Nat} (h : n ≤ 63) : n ≤ sizeLine := Nat.le_trans h (by decide)
theorem m100 {x m : Int} (h : 0 < m) (h2 : m ≤ 1000000000000000000000000000000) : CDivW x m := by
  have e : (2 : Nat) ^ 100 = 1267650600228229401496703205376 := by decide
  exact wide_div (b := 100) h (by omega) (by decide) (by decide)
structure DrI (H0 H : Hp) (st g l : Addr) (gs ls : List Int) (c a : Int) : Prop where
  h1 : H st = some (.lst [.ref g, .ref l, .int c, .int a])
  h2 : H g = some (.lst (gs.map V.int))
  h3 : H l = some (.lst (ls.map V.int))
  lg : gs.length ≤ 63
  kp : Kp st g l H0 H
theorem mulR {i j : Int} (h : -18446744073709551616 < j ∧ j < 18446744073709551616) : CMul i j := .inr h
def spDraw (st g l : Addr) (m : Int) (H : Hp) (Q : VK) : Prop := ∀ d H', 0 ≤ d → d < m → StAt H' st g l → Kp st g l H H' → Q (.int d) H'
def sp_draw : Sp := fun vs H Q _ => ∃ st g l m, vs = [.ref st, .int m] ∧ 0 < m ∧ m ≤ 1000000000000000000000000000000 ∧ StAt H st g l ∧ spDraw st g l m H Q
def sp_start (K : PySem.W.Frag) : Sp := fun vs H Q _ => ∃ (a : Addr) (ns : List Int), vs = [.ref a] ∧ SqL K H a (ns.map V.int) ∧ ns.length ≤ 63 ∧ ∀ st g l H', H st = none → H g = none → H l = none → StAt H' st g l → Same H H' → Q (.ref st) H'
def absI (i : Int) : Int := if i < 0 then -i else i
def kept : List Str := ["document", "update", "set", "new", "edit", "merge", "then", "old", "copy"]
def letters : Str := "abcdefghijklmnopqrstuvwxyz"
def keptV : List V := kept.map V.str
def isLet (c : Nat) : Bool := decide (c ∈ letters.cps.toList)
def isWord (z : Str) : Bool := decide (1 ≤ z.length) && (decide (z.length ≤ 8) && (z.cps.toList.all isLet && !inV (.str z) keptV))
theorem kept_flat : keptV.all flatV = true := by decide +kernel
theorem isWord_len {z : Str} (h : isWord z = true) : 1 ≤ z.length ∧ z.length ≤ 8 := by
  unfold isWord at h
  simp only [Bool.and_eq_true, decide_eq_true_eq] at h
  exact ⟨h.1, h.2.1⟩
def sp_of : Sp := fun vs H Q _ => ∃ st g l p xs, vs = [.ref st, .ref p] ∧ H p = some (.lst xs) ∧ p ≠ st ∧ p ≠ g ∧ p ≠ l ∧ xs ≠ [] ∧ xs.length ≤ 1000 ∧ StAt H st g l ∧ ∀ v H', v ∈ xs → StAt H' st g l → Kp st g l H H' → Q v H'
def NotStr (K : PySem.W.Frag) (H : Hp) (x : V) : Prop := ∃ T : String, TyX K H x (.type T) ∧ kitB T "str" = some false
def sp_is_word (K : PySem.W.Frag) : Sp := fun vs H Q _ => ∃ x, vs = [x] ∧ ((∃ z : Str, x = .str z ∧ z.length ≤ 10000 ∧ ∀ H', Same H H' → Q (.bl (isWord z)) H') ∨ (NotStr K H x ∧ ∀ H', Same H H' → Q (.bl false) H'))
theorem sz4 {n : Nat} (h : n ≤ 10000) : n ≤ sizeLine := Nat.le_trans h (by decide)
theorem sub_len {α : Type} [BEq α] [LawfulBEq α] : ∀ (l m : List α), l.Nodup → (∀ x ∈ l, x ∈ m) → l.length ≤ m.length
  | [], _, _, _ => Nat.zero_le _
  | x :: r, m, hn, hs => by
    have hx : x ∈ m := hs x List.mem_cons_self
    have hr : r.Nodup := (List.nodup_cons.mp hn).2
    have hxr : x ∉ r := (List.nodup_cons.mp hn).1
    have ih := sub_len r (m.erase x) hr fun y hy => (List.mem_erase_of_ne (show y ≠ x from fun e => hxr (e ▸ hy))).mpr (hs y (List.mem_cons_of_mem _ hy))
    rw [List.length_erase_of_mem hx] at ih
    have : 0 < m.length := List.length_pos_of_mem hx
    rw [List.length_cons]
    omega
theorem app_cps (x y : Str) : (x ++ y).cps.toList = x.cps.toList ++ y.cps.toList := by
  show (Str.append x y).cps.toList = _
  simp [Str.append]
theorem len_app (x y : Str) : (x ++ y).length = x.length + y.length := by
  have := congrArg List.length (app_cps x y)
  simpa [Str.length] using this
theorem join_cps : ∀ ws : List Str, (Str.join "" ws).cps.toList = ws.flatMap fun w => w.cps.toList
  | [] => rfl
  | [x] => by simp [Str.join]
  | x :: y :: r => by
    have ih := join_cps (y :: r)
    show (x ++ "" ++ Str.join "" (y :: r)).cps.toList = _
    rw [app_cps, app_cps, ih]
    have e : (("" : Str)).cps.toList = [] := by decide +kernel
    rw [e]
    simp
theorem len_toList (z : Str) : z.cps.toList.length = z.length := by simp [Str.length]
/-- a text of letters -/
def Low (z : Str) : Prop := ∀ c ∈ z.cps.toList, isLet c = true
theorem cut_low {z : Str} {lo hi : Option Int} (h : Low z) : Low (cutS z lo hi) := fun c hc => by
  unfold cutS at hc
  exact h c (List.mem_of_mem_drop (List.mem_of_mem_take (by simpa using hc)))
theorem cut_7 (z : Str) : (cutS z none (some 7)).length ≤ 7 := by
  have e : HT.sIx z.length z.length (some 7) ≤ 7 := by
    rw [show (some (7 : Int)) = some (((7 : Nat) : Int)) from rfl, HT.sIx_nat]
    omega
  unfold cutS
  show ((z.cps.toList.drop _).take _).toArray.size ≤ 7
  rw [List.size_toArray, List.length_take]
  omega
def way (z : Str) (c : Nat) : Str := cutS z none (some 7) ++ ⟨#[c]⟩
theorem way_low {z : Str} {c : Nat} (h : Low z) (hc : isLet c = true) : Low (way z c) := fun d hd => by
  unfold way at hd
  rw [app_cps] at hd
  rcases List.mem_append.mp hd with hd | hd
  · exact cut_low h d hd
  · have : d = c := by simpa using hd
    rw [this]; exact hc
theorem way_len (z : Str) (c : Nat) : 1 ≤ (way z c).length ∧ (way z c).length ≤ 8 := by
  have h7 := cut_7 z
  have e : ((⟨#[c]⟩ : Str)).length = 1 := rfl
  unfold way
  rw [len_app, e]
  omega
theorem way_inj {z : Str} {c d : Nat} (h : way z c = way z d) : c = d := by
  have h1 := congrArg (fun s : Str => s.cps.toList) h
  unfold way at h1
  simp only [app_cps] at h1
  have h2 := List.append_cancel_left h1
  simpa using h2
theorem inV_str (z : Str) : ∀ ws : List Str, inV (.str z) (ws.map V.str) = decide (z ∈ ws)
  | [] => rfl
  | w :: r => by
    have ih := inV_str z r
    unfold inV at ih ⊢
    rw [List.map_cons, List.any_cons, ih]
    show ((w == z) || decide (z ∈ r)) = decide (z ∈ w :: r)
    by_cases e : w = z
    · subst e; simp
    · have e2 : (w == z) = false := beq_eq_false_iff_ne.mpr e
      rw [e2]
      have : ¬ z = w := fun q => e q.symm
      simp [this]
theorem isWord_iff {z : Str} : isWord z = true ↔ 1 ≤ z.length ∧ z.length ≤ 8 ∧ Low z ∧ z ∉ kept := by
  unfold isWord keptV
  rw [inV_str]
  simp only [Bool.and_eq_true, decide_eq_true_eq, Bool.not_eq_true', decide_eq_false_iff_not, List.all_eq_true]
  exact Iff.rfl
def sp_word : Sp := fun vs H Q _ => ∃ (st g l t : Addr) (taken : List Str), vs = [.ref st, .ref t] ∧ H t = some (.lst (taken.map V.str)) ∧ t ≠ st ∧ t ≠ g ∧ t ≠ l ∧ taken.length ≤ 16 ∧ StAt H st g l ∧ ∀ (z : Str) H', isWord z = true → z ∉ taken → StAt H' st g l → Kp st g l H H' → Q (.str z) H'
theorem StAt.ne {H : Hp} {st g l p : Addr} (S : StAt H st g l) (h : H p = none) : p ≠ st ∧ p ≠ g ∧ p ≠ l := by
  obtain ⟨⟨_, _, _, _, h1, h2, h3, _⟩, _⟩ := S
  exact ⟨(ne_of_none h1 h).symm, (ne_of_none h2 h).symm, (ne_of_none h3 h).symm⟩
theorem flat_strs (ws : List Str) : (ws.map V.str).all flatV = true := by
  rw [List.all_eq_true]
  intro x hx
  obtain ⟨w, _, rfl⟩ := List.mem_map.mp hx
  rfl
theorem StAt.upd {H : Hp} {st g l p : Addr} {o : HO} (S : StAt H st g l) (h1 : p ≠ st) (h2 : p ≠ g) (h3 : p ≠ l) : StAt (upd H p o) st g l := by
  obtain ⟨⟨gs, ls, c, a, e1, e2, e3, r⟩, n1, n2, n3⟩ := S
  exact ⟨⟨gs, ls, c, a, by rw [upd_ne h1.symm]; exact e1, by rw [upd_ne h2.symm]; exact e2, by rw [upd_ne h3.symm]; exact e3, r⟩, n1, n2, n3⟩
end Ub
namespace Ub
open PySem PySem.Spec PyProof.Rows L2
theorem sz5 {n : Nat} (h : n ≤ 100000) : n ≤ sizeLine := Nat.le_trans h (by decide)
theorem natSum (l : List Nat) : ((l.sum : Nat) : Int) = (l.map fun (n : Nat) => ((n : Nat) : Int)).sum := by
  induction l with
  | nil => rfl
  | cons a r ih => rw [List.sum_cons, List.map_cons, List.sum_cons, ← ih]; omega
inductive Tr where
  | nil
  | cons (w : Str) (t r : Tr)
namespace Tr
def isNil : Tr → Bool
  | nil => true
  | cons _ _ _ => false
def fields : Tr → List (Str × Tr)
  | nil => []
  | cons w t r => (w, t) :: fields r
def ofFields : List (Str × Tr) → Tr
  | [] => nil
  | (w, t) :: r => cons w t (ofFields r)
theorem of_fields : ∀ t : Tr, ofFields t.fields = t
  | nil => rfl
  | cons w t r => by
    show cons w t (ofFields r.fields) = _
    rw [of_fields r]
theorem fields_of : ∀ l : List (Str × Tr), (ofFields l).fields = l
  | [] => rfl
  | (w, t) :: r => by
    show (w, t) :: (ofFields r).fields = _
    rw [fields_of r]
/-- records, plain values, depth of the fields; of the tree -/
def srec : Tr → Nat
  | nil => 0
  | cons _ t r => (if t.isNil then 0 else 1 + srec t) + srec r
def recs (t : Tr) : Nat := if t.isNil then 0 else 1 + srec t
def spla : Tr → Nat
  | nil => 0
  | cons _ t r => (if t.isNil then 1 else spla t) + spla r
def plains (t : Tr) : Nat := if t.isNil then 1 else spla t
def sdep : Tr → Nat
  | nil => 0
  | cons _ t r => max (if t.isNil then 0 else 1 + sdep t) (sdep r)
def depth (t : Tr) : Nat := if t.isNil then 0 else 1 + sdep t
def pieces : Tr → List Str
  | nil => []
  | cons w t r => (w ++ ": " ++ (if t.isNil then (".": Str) else "{" ++ Str.join ", " (pieces t) ++ "}")) :: pieces r
def text (t : Tr) : Str := if t.isNil then "." else "{" ++ Str.join ", " (pieces t) ++ "}"
theorem srec_eq : ∀ t : Tr, srec t = (t.fields.map fun p => recs p.2).sum
  | nil => rfl
  | cons w t r => by
    show (if t.isNil then 0 else 1 + srec t) + srec r = ((recs t) :: (r.fields.map fun p => recs p.2)).sum
    rw [List.sum_cons, srec_eq r]
    rfl
theorem spla_eq : ∀ t : Tr, spla t = (t.fields.map fun p => plains p.2).sum
  | nil => rfl
  | cons w t r => by
    show (if t.isNil then 1 else spla t) + spla r = ((plains t) :: (r.fields.map fun p => plains p.2)).sum
    rw [List.sum_cons, spla_eq r]
    rfl
theorem pieces_eq : ∀ t : Tr, pieces t = t.fields.map fun p => p.1 ++ ": " ++ text p.2
  | nil => rfl
  | cons w t r => by
    show (w ++ ": " ++ text t) :: pieces r = _
    rw [pieces_eq r]
    rfl
theorem sdep_mem : ∀ {t : Tr} {p : Str × Tr}, p ∈ t.fields → depth p.2 ≤ sdep t
  | nil, p, h => by cases h
  | cons w t r, p, h => by
    rcases List.mem_cons.mp h with rfl | h
    · exact Nat.le_max_left _ _
    · exact Nat.le_trans (sdep_mem h) (Nat.le_max_right _ _)
theorem depth_lt {t : Tr} {p : Str × Tr} (h : p ∈ t.fields) : depth p.2 < depth t := by
  have h1 := sdep_mem h
  have h2 : t.isNil = false := by
    cases t with
    | nil => cases h
    | cons _ _ _ => rfl
  unfold depth
  rw [h2]
  show depth p.2 < 1 + sdep t
  omega
/-- how many fields in all; words of at most eight signs -/
def size : Tr → Nat
  | nil => 0
  | cons _ t r => 1 + size t + size r
def short : Tr → Prop
  | nil => True
  | cons w t r => w.length ≤ 8 ∧ short t ∧ short r
theorem fields_len : ∀ t : Tr, t.fields.length ≤ t.size
  | nil => Nat.le_refl _
  | cons w t r => by
    have := fields_len r
    show r.fields.length + 1 ≤ 1 + t.size + r.size
    omega
theorem size_mem : ∀ {t : Tr} {p : Str × Tr}, p ∈ t.fields → p.2.size < t.size
  | nil, p, h => by cases h
  | cons w t r, p, h => by
    show p.2.size < 1 + t.size + r.size
    rcases List.mem_cons.mp h with rfl | h
    · show t.size < _
      omega
    · have := size_mem h
      omega
theorem short_mem : ∀ {t : Tr} {p : Str × Tr}, t.short → p ∈ t.fields → p.1.length ≤ 8 ∧ p.2.short
  | nil, p, _, h => by cases h
  | cons w t r, p, hs, h => by
    rcases List.mem_cons.mp h with rfl | h
    · exact ⟨hs.1, hs.2.1⟩
    · exact short_mem hs.2.2 h
theorem join_len (sep : Str) : ∀ ws : List Str, (Str.join sep ws).length ≤ (ws.map (·.length)).sum + ws.length * sep.length
  | [] => Nat.zero_le _
  | [x] => by
    show x.length ≤ _
    simp only [List.map_cons, List.map_nil, List.sum_cons, List.sum_nil]
    omega
  | x :: y :: r => by
    have ih := join_len sep (y :: r)
    show (x ++ sep ++ Str.join sep (y :: r)).length ≤ _
    rw [len_app, len_app, List.map_cons, List.sum_cons, List.length_cons, Nat.succ_mul]
    omega
theorem join_le : ∀ {t : Tr}, t.short → ((pieces t).map (·.length)).sum + (pieces t).length * 2 ≤ 14 * t.size ∧ (text t).length ≤ 2 + 14 * t.size
  | nil, _ => ⟨Nat.le_refl _, by decide +kernel⟩
  | cons w t r, h => by
    obtain ⟨h1, h2, h3⟩ := h
    obtain ⟨_, a2⟩ := join_le h2
    obtain ⟨b1, _⟩ := join_le h3
    have e2 : ((": " : Str)).length = 2 := by decide +kernel
    have e3 : ((", " : Str)).length = 2 := by decide +kernel
    have e4 : (("{" : Str)).length = 1 := by decide +kernel
    have e5 : (("}" : Str)).length = 1 := by decide +kernel
    have k : ((pieces (cons w t r)).map (·.length)).sum + (pieces (cons w t r)).length * 2 ≤ 14 * (1 + t.size + r.size) := by
      show (((w ++ ": " ++ text t) :: pieces r).map (·.length)).sum + ((w ++ ": " ++ text t) :: pieces r).length * 2 ≤ _
      rw [List.map_cons, List.sum_cons, List.length_cons, len_app, len_app, e2]
      omega
    refine ⟨k, ?_⟩
    show ("{" ++ Str.join ", " (pieces (cons w t r)) ++ "}" : Str).length ≤ _
    have j := join_len ", " (pieces (cons w t r))
    rw [e3] at j
    rw [len_app, len_app, e4, e5]
    show _ ≤ 2 + 14 * (1 + t.size + r.size)
    omega
theorem nil_iff {t : Tr} : t.isNil = t.fields.isEmpty := by cases t <;> rfl
theorem nil_of {t : Tr} (h : t.isNil = true) : t = nil := by
  cases t with
  | nil => rfl
  | cons _ _ _ => cases h
end Tr
theorem recs_int {t : Tr} (h : t.isNil = false) : (1 : Int) + (t.fields.map fun m => ((m.2.recs : Nat) : Int)).sum = ((t.recs : Nat) : Int) := by
  have e : t.recs = 1 + (t.fields.map fun p => p.2.recs).sum := by
    rw [← Tr.srec_eq]
    show (if t.isNil then 0 else 1 + t.srec) = _
    rw [h]
    rfl
  have e2 := natSum (t.fields.map fun p => p.2.recs)
  rw [List.map_map] at e2
  have e3 : (t.fields.map ((fun (n : Nat) => ((n : Nat) : Int)) ∘ fun p => p.2.recs)).sum = (t.fields.map fun m => ((m.2.recs : Nat) : Int)).sum := rfl
  rw [e3] at e2
  rw [e, ← e2]
  omega
theorem plains_int {t : Tr} (h : t.isNil = false) : (t.fields.map fun m => ((m.2.plains : Nat) : Int)).sum = ((t.plains : Nat) : Int) := by
  have e : t.plains = (t.fields.map fun p => p.2.plains).sum := by
    rw [← Tr.spla_eq]
    show (if t.isNil then 1 else t.spla) = _
    rw [h]
    rfl
  have e2 := natSum (t.fields.map fun p => p.2.plains)
  rw [List.map_map] at e2
  rw [e, e2]
  rfl
theorem text_eq {t : Tr} (h : t.isNil = false) : t.text = "{" ++ Str.join ", " t.pieces ++ "}" := by
  show (if t.isNil then (("." : Str)) else "{" ++ Str.join ", " t.pieces ++ "}") = _
  rw [h]
  rfl
def FsAt (H : Hp) : Tr → List V → Prop
  | .nil, ps => ps = []
  | .cons w t r, ps => ∃ p q qs, ps = .ref p :: qs ∧ H p = some (.tup [.str w, q]) ∧ (∃ a ps', q = .ref a ∧ H a = some (.tup ps') ∧ FsAt H t ps') ∧ FsAt H r qs
def TrAt (H : Hp) (t : Tr) (v : V) : Prop := ∃ a ps, v = .ref a ∧ H a = some (.tup ps) ∧ FsAt H t ps
theorem FsAt.same {H H' : Hp} (s : Same H H') : ∀ {t : Tr} {ps : List V}, FsAt H t ps → FsAt H' t ps
  | .nil, _, h => h
  | .cons w t r, _, ⟨p, q, qs, e, h1, ⟨a, ps', e2, h2, h3⟩, h4⟩ => ⟨p, q, qs, e, s _ _ h1, ⟨a, ps', e2, s _ _ h2, FsAt.same s h3⟩, FsAt.same s h4⟩
/-- a tree stands while tuples stand -/
theorem FsAt.tups {H H' : Hp} (s : ∀ c xs, H c = some (.tup xs) → H' c = some (.tup xs)) : ∀ {t : Tr} {ps : List V}, FsAt H t ps → FsAt H' t ps
  | .nil, _, h => h
  | .cons w t r, _, ⟨p, q, qs, e, h1, ⟨a, ps', e2, h2, h3⟩, h4⟩ => ⟨p, q, qs, e, s _ _ h1, ⟨a, ps', e2, s _ _ h2, FsAt.tups s h3⟩, FsAt.tups s h4⟩
theorem TrAt.tups {H H' : Hp} (s : ∀ c xs, H c = some (.tup xs) → H' c = some (.tup xs)) {t : Tr} {v : V} (h : TrAt H t v) : TrAt H' t v := by
  obtain ⟨a, ps, e, h1, h2⟩ := h
  exact ⟨a, ps, e, s _ _ h1, h2.tups s⟩
theorem TrAt.same {H H' : Hp} (s : Same H H') {t : Tr} {v : V} (h : TrAt H t v) : TrAt H' t v := by
  obtain ⟨a, ps, e, h1, h2⟩ := h
  exact ⟨a, ps, e, s _ _ h1, h2.same s⟩
theorem FsAt.len {H : Hp} : ∀ {t : Tr} {ps : List V}, FsAt H t ps → ps.length = t.fields.length
  | .nil, _, h => by rw [show _ = [] from h]; rfl
  | .cons w t r, _, ⟨p, q, qs, e, _, _, h4⟩ => by
    rw [e, List.length_cons, FsAt.len h4]
    rfl
theorem FsAt.get {H : Hp} : ∀ {t : Tr} {ps : List V} {i : Nat} {m : Str × Tr}, FsAt H t ps → t.fields[i]? = some m → ∃ p q, ps[i]? = some (.ref p) ∧ H p = some (.tup [.str m.1, q]) ∧ TrAt H m.2 q
  | .nil, _, _, _, _, e => by cases e
  | .cons w t r, _, 0, m, ⟨p, q, qs, e, h1, h2, _⟩, em => by
    have e2 : (w, t) = m := Option.some.inj em
    subst e2 e
    exact ⟨p, q, rfl, h1, h2⟩
  | .cons w t r, _, i + 1, m, ⟨p, q, qs, e, _, _, h4⟩, em => by
    obtain ⟨p', q', g1, g2, g3⟩ := FsAt.get (i := i) (m := m) h4 em
    subst e
    exact ⟨p', q', g1, g2, g3⟩
theorem FsAt.snoc {H : Hp} : ∀ {l : List (Str × Tr)} {ps : List V} {p : Addr} {q : V} {w : Str} {t : Tr}, FsAt H (.ofFields l) ps → H p = some (.tup [.str w, q]) → TrAt H t q → FsAt H (.ofFields (l ++ [(w, t)])) (ps ++ [.ref p])
  | [], ps, p, q, w, t, h, h1, h2 => by
    rw [show ps = [] from h]
    exact ⟨p, q, [], rfl, h1, h2, rfl⟩
  | (w0, t0) :: l, _, p, q, w, t, ⟨p0, q0, qs, e, g1, g2, g3⟩, h1, h2 => by
    rw [e]
    exact ⟨p0, q0, qs ++ [.ref p], rfl, g1, g2, FsAt.snoc g3 h1 h2⟩
theorem FsAt.nil_iff {H : Hp} {t : Tr} {ps : List V} (h : FsAt H t ps) : ps.isEmpty = t.isNil := by
  cases t with
  | nil => rw [show ps = [] from h]; rfl
  | cons w t r =>
    obtain ⟨p, q, qs, e, _⟩ := h
    rw [e]; rfl
/-- a def of a tree of a depth below d: its value -/
def sp_tree (d : Nat) (val : Tr → V) : Sp := fun vs H Q _ => ∃ t v, vs = [v] ∧ TrAt H t v ∧ t.depth < d ∧ t.size ≤ 1000 ∧ t.short ∧ ∀ H', Same H H' → Q (val t) H'
theorem sp_tree.len1 {d : Nat} {val : Tr → V} {vs : List V} {H : Hp} {Q : VK} {E : XK} (h : sp_tree d val vs H Q E) : vs.length = 1 := by
  obtain ⟨t, v, rfl, _⟩ := h
  rfl
theorem no_tree {P : Program} {w : World} {K : PySem.W.Frag} {mg : Str → Option Value} {base : Heap} {f : Addr} {fd : FuncData} {x : Str} {val : Tr → V} : FnOk P w K mg base CX0 0 f fd [x] (sp_tree 0 val) :=
  ⟨fun vs H Q E h => h.len1, fun A outer s H args us vs Q E _ _ _ _ h => by
    obtain ⟨t, v, _, _, hd, _⟩ := h
    exact absurd hd (Nat.not_lt_zero _)⟩
section
variable {X : Cx}
def rEqNil (K : PySem.W.Frag) (f : Bool → Bool) : R2 := fun x y H Q => ∃ a b xs, x = .ref a ∧ y = .ref b ∧ SqT K H a xs ∧ SqT K H b [] ∧ Q (.bl (f xs.isEmpty)) H
theorem op_eq_nilK (K : PySem.W.Frag) (hu : X.A.units < cLine) (e : X.K = K := by rfl) : OpR X (compareOp .Eq) (rEqNil K fun b => b) := by
  subst e
  intro pins s σ H x y v u Q I rx ry h
  obtain ⟨a, b, xs, rfl, rfl, h1, h2, q⟩ := h
  cases rx
  cases ry
  obtain ⟨its, r, p1, _⟩ := I.tuple h1
  obtain ⟨its2, r2, p2, _⟩ := I.tuple h2
  cases r2
  refine PySem.SeqAt.eq_tupleAt (e := fun _ => true) p1 p2 hu (fun j h1 h2 => absurd h2 (by simp)) ?_
  have e : ((List.range (min its.toArray.size ([] : List Value).toArray.size)).all (fun _ => true) && its.toArray.size == ([] : List Value).toArray.size) = xs.isEmpty := by
    have hl := r.length
    cases xs with
    | nil => cases r; rfl
    | cons x xs => cases r; simp
  rw [e]
  exact ⟨.bl xs.isEmpty, H, I, rfl, q⟩
theorem pg_tupK (K : PySem.W.Frag) {es : List Expr} {k : Nat} {t : TGs} {n : Nat} {pos : Pos} (hc : X.calm = true) (h : PGs X es t) (hn : (assignEach es X.env).length = n := by rfl) (hst : (assignEach es X.env).findIdx? (·.1) = none := by rfl) (e : X.K = K := by rfl) : PG X (.Tuple es k pos) (gTup K n t) := by
  subst e
  exact pg_tup hc h hn hst
end
end Ub
namespace Ub
open PySem PySem.Spec PyProof.Rows L2
open Builtin Builtin.Str PySem.StrLaws
theorem occ_kept (s sub : Str) (hi : Nat) : ∀ (l : List Nat) (st : Array Nat × Nat), 1 ≤ st.fst.size → (forIn l st (occBody s sub hi 1)).run.fst = st.fst
  | [], st, _ => rfl
  | a :: l, st, h => by
    rw [List.forIn_cons]
    unfold occBody
    rw [if_neg (fun z => by have := z.1.1.1; omega)]
    exact occ_kept s sub hi l _ h
theorem occ_find (s sub : Str) (hi : Nat) : ∀ (l : List Nat) (free : Nat), (∀ i ∈ l, free ≤ i) →
    (forIn l ((#[] : Array Nat), free) (occBody s sub hi 1)).run.fst.toList = (l.find? fun i => decide (i + sub.length ≤ hi) && subAt s sub i).toList
  | [], free, _ => rfl
  | a :: l, free, hf => by
    rw [List.forIn_cons, List.find?_cons]
    unfold occBody
    have ha : free ≤ a := hf a List.mem_cons_self
    by_cases hc : a + sub.length ≤ hi ∧ subAt s sub a = true
    · rw [if_pos ⟨⟨⟨by simp, ha⟩, hc.1⟩, hc.2⟩]
      have e : (decide (a + sub.length ≤ hi) && subAt s sub a) = true := by simp [hc.1, hc.2]
      rw [e]
      show ((forIn l ((#[] : Array Nat).push a, a + sub.length) (occBody s sub hi 1)).run.fst).toList = [a]
      rw [occ_kept s sub hi l _ (by simp)]
      simp
    · rw [if_neg fun h => hc ⟨h.1.2, h.2⟩]
      have e : (decide (a + sub.length ≤ hi) && subAt s sub a) = false := by
        cases h : (decide (a + sub.length ≤ hi) && subAt s sub a) with
        | false => rfl
        | true =>
          simp only [Bool.and_eq_true, decide_eq_true_eq] at h
          exact absurd h hc
      rw [e]
      exact occ_find s sub hi l free fun i hi' => hf i (List.mem_cons_of_mem _ hi')
theorem occ1 (s sub : Str) (lo hi : Nat) : occurrences s sub lo hi 1 = ((List.range' lo (hi + 1 - lo)).find? fun i => decide (i + sub.length ≤ hi) && subAt s sub i).toList := by
  rw [occ_eq, occ_find s sub hi _ lo fun i hi' => by have := List.mem_range'.mp hi'; omega]
theorem find_range' (p : Nat → Bool) : ∀ (n lo : Nat), (∃ i, lo ≤ i ∧ i < lo + n ∧ p i = true ∧ (∀ j, lo ≤ j → j < i → p j = false) ∧ (List.range' lo n).find? p = some i) ∨ ((∀ j, lo ≤ j → j < lo + n → p j = false) ∧ (List.range' lo n).find? p = none)
  | 0, lo => .inr ⟨fun j h1 h2 => absurd h2 (by omega), rfl⟩
  | n + 1, lo => by
    rw [List.range'_succ, List.find?_cons]
    cases hp : p lo with
    | true => exact .inl ⟨lo, Nat.le_refl _, by omega, hp, fun j h1 h2 => absurd h2 (by omega), rfl⟩
    | false =>
      rcases find_range' p n (lo + 1) with ⟨i, h1, h2, h3, h4, h5⟩ | ⟨h1, h2⟩
      · refine .inl ⟨i, by omega, by omega, h3, fun j g1 g2 => ?_, h5⟩
        by_cases e : j = lo
        · rw [e]; exact hp
        · exact h4 j (by omega) g2
      · refine .inr ⟨fun j g1 g2 => ?_, h2⟩
        by_cases e : j = lo
        · rw [e]; exact hp
        · exact h1 j (by omega) (by omega)
/-- the codes -/
abbrev cs (z : Str) : List Nat := z.cps.toList
theorem str_of (z : Str) : (⟨(cs z).toArray⟩ : Str) = z := by cases z; simp [cs]
theorem str_inj {a b : Str} (h : cs a = cs b) : a = b := by rw [← str_of a, ← str_of b, h]
theorem cs_of (l : List Nat) : cs (⟨l.toArray⟩ : Str) = l := by simp [cs]
theorem cs_len (z : Str) : (cs z).length = z.length := len_toList z
theorem colon_cs : cs (": " : Str) = [58, 32] := by decide +kernel
theorem colon_len : ((": " : Str)).length = 2 := by decide +kernel
theorem sub_colon (z : Str) (i : Nat) : subAt z ": " i = true ↔ ((cs z).drop i).take 2 = [58, 32] := by
  rw [subAt_eq]
  show (((cs z).drop i).take ((": " : Str)).length == cs (": " : Str)) = true ↔ _
  rw [colon_len, colon_cs]
  exact beq_iff_eq
theorem take2_len {l : List Nat} {i a b : Nat} (h : (l.drop i).take 2 = [a, b]) : i + 2 ≤ l.length := by
  have := congrArg List.length h
  rw [List.length_take, List.length_drop] at this
  have e : ([a, b] : List Nat).length = 2 := rfl
  rw [e] at this
  omega
theorem find_colon (z : Str) (a : Nat) (ha : a ≤ z.length) :
    (∃ e, Txt.findIn z ": " (a : Nat) ((a : Nat) + 10) = ((a + e : Nat) : Int) ∧ e ≤ 8 ∧ (((cs z).drop a).drop e).take 2 = [58, 32] ∧ ∀ i, i < e → (((cs z).drop a).drop i).take 2 ≠ [58, 32]) ∨
    (Txt.findIn z ": " (a : Nat) ((a : Nat) + 10) = -1 ∧ ∀ e, e ≤ 8 → (((cs z).drop a).drop e).take 2 ≠ [58, 32]) := by
  have e1 : fromIndex z.length ((a : Nat) : Int) = a := by
    unfold fromIndex
    rw [if_neg (by omega)]
    omega
  have e2 : toIndexW z.length (((a : Nat) : Int) + 10) = min (a + 10) z.length := by
    unfold toIndexW
    rw [if_neg (by omega)]
    omega
  have key : ∀ j, (decide (j + ((": " : Str)).length ≤ min (a + 10) z.length) && subAt z ": " j) = true ↔ j ≤ a + 8 ∧ ((cs z).drop j).take 2 = [58, 32] := fun j => by
    rw [Bool.and_eq_true, decide_eq_true_eq, sub_colon, colon_len]
    constructor
    · rintro ⟨h1, h2⟩
      exact ⟨by omega, h2⟩
    · rintro ⟨h1, h2⟩
      have := take2_len h2
      rw [cs_len] at this
      exact ⟨by omega, h2⟩
  unfold Txt.findIn
  rw [e1, e2, occ1]
  rcases find_range' (fun i => decide (i + ((": " : Str)).length ≤ min (a + 10) z.length) && subAt z ": " i) (min (a + 10) z.length + 1 - a) a with ⟨i, h1, h2, h3, h4, h5⟩ | ⟨h1, h2⟩
  · rw [h5]
    obtain ⟨g1, g2⟩ := (key i).mp h3
    refine .inl ⟨i - a, ?_, by omega, ?_, fun j hj hq => ?_⟩
    · show ((i : Nat) : Int) = _
      omega
    · rw [List.drop_drop, show a + (i - a) = i by omega]
      exact g2
    · rw [List.drop_drop] at hq
      have := (key (a + j)).mpr ⟨by omega, hq⟩
      have h6 := h4 (a + j) (by omega) (by omega)
      rw [this] at h6
      cases h6
  · rw [h2]
    refine .inr ⟨rfl, fun e he hq => ?_⟩
    rw [List.drop_drop] at hq
    have h3 := take2_len hq
    rw [cs_len] at h3
    have := (key (a + e)).mpr ⟨by omega, hq⟩
    have h6 := h1 (a + e) (by omega) (by omega)
    rw [this] at h6
    cases h6
theorem cut_nat {z : Str} {a b : Nat} (ha : a ≤ z.length) (hb : a ≤ b) : cutS z (some (a : Int)) (some (b : Int)) = ⟨(((cs z).drop a).take (b - a)).toArray⟩ := by
  unfold cutS
  rw [HT.sIx_nat, HT.sIx_nat, show min a z.length = a by omega]
  congr 1
  congr 1
  by_cases h : b ≤ z.length
  · rw [show min b z.length = b by omega]
  · rw [show min b z.length = z.length by omega, List.take_of_length_le (by rw [List.length_drop, cs_len]; omega), List.take_of_length_le (by rw [List.length_drop, cs_len]; omega)]
def scanW (s : List Nat) : Option Str := if isWord ⟨(s.takeWhile isLet).toArray⟩ = true ∧ (s.drop (s.takeWhile isLet).length).take 2 = [58, 32] then some ⟨(s.takeWhile isLet).toArray⟩ else none
theorem let_colon : isLet 58 = false := by decide +kernel
theorem takeWhile_split : ∀ (s : List Nat) (e : Nat), (∀ c ∈ s.take e, isLet c = true) → (∃ r, s.drop e = 58 :: r) → s.takeWhile isLet = s.take e
  | s, 0, _, ⟨r, h⟩ => by
    have h : s = 58 :: r := h
    rw [h, List.takeWhile_cons, let_colon]
    rfl
  | [], e + 1, _, ⟨r, h⟩ => by cases h
  | c :: s, e + 1, hl, ⟨r, h⟩ => by
    have hc : isLet c = true := hl c (by simp)
    rw [List.takeWhile_cons, hc, List.take_succ_cons]
    have := takeWhile_split s e (fun d hd => hl d (by simp [hd])) ⟨r, h⟩
    simp [this]
theorem take2_head {l : List Nat} {a b : Nat} (h : l.take 2 = [a, b]) : ∃ r, l = a :: b :: r := by
  cases l with
  | nil => cases h
  | cons x l =>
    cases l with
    | nil => cases h
    | cons y l =>
      have h1 : [x, y] = [a, b] := h
      injection h1 with h2 h3
      injection h3 with h4
      exact ⟨l, by rw [h2, h4]⟩
theorem isWord_low {z : Str} (h : isWord z = true) : ∀ c ∈ cs z, isLet c = true := (isWord_iff.mp h).2.2.1
/-- the program's reading: found at e -/
theorem scanW_found {s : List Nat} {e : Nat} (h1 : (s.drop e).take 2 = [58, 32]) (h2 : ∀ i, i < e → (s.drop i).take 2 ≠ [58, 32]) (h8 : e ≤ 8) : scanW s = if isWord ⟨(s.take e).toArray⟩ = true then some ⟨(s.take e).toArray⟩ else none := by
  obtain ⟨r, hr⟩ := take2_head h1
  by_cases hw : isWord ⟨(s.take e).toArray⟩ = true
  · have hl := isWord_low hw
    rw [cs_of] at hl
    have et := takeWhile_split s e hl ⟨_, hr⟩
    have le : (s.take e).length = e := by
      rw [List.length_take]
      have := take2_len h1
      omega
    unfold scanW
    rw [et, le, if_pos ⟨hw, h1⟩, if_pos hw]
  · rw [if_neg hw]
    unfold scanW
    refine if_neg fun h => ?_
    obtain ⟨g1, g2⟩ := h
    have hlen := isWord_len g1
    have el : ((⟨(s.takeWhile isLet).toArray⟩ : Str)).length = (s.takeWhile isLet).length := by simp [Str.length]
    rw [el] at hlen
    -- the first place is that one
    have hle : (s.takeWhile isLet).length = e := by
      by_cases hlt : (s.takeWhile isLet).length < e
      · exact absurd g2 (h2 _ hlt)
      · by_cases hgt : e < (s.takeWhile isLet).length
        · have hin : s[e]? = some 58 := by
            have : (s.drop e)[0]? = some 58 := by rw [hr]; rfl
            rw [List.getElem?_drop] at this
            exact this
          have hpre : s.takeWhile isLet <+: s := List.takeWhile_prefix _
          obtain ⟨t, ht⟩ := hpre
          have : (s.takeWhile isLet)[e]? = some 58 := by
            rw [← ht, List.getElem?_append_left hgt] at hin
            exact hin
          have hm := List.mem_of_getElem? this
          have : isLet 58 = true := by
            have := List.all_takeWhile (p := isLet) (l := s)
            exact List.all_eq_true.mp this _ hm
          rw [let_colon] at this
          cases this
        · omega
    have hpre : s.takeWhile isLet = s.take e := by
      have hp : s.takeWhile isLet <+: s := List.takeWhile_prefix _
      have := List.prefix_iff_eq_take.mp hp
      rw [hle] at this
      exact this
    rw [hpre] at g1
    exact hw g1
theorem scanW_none {s : List Nat} (h : ∀ e, e ≤ 8 → (s.drop e).take 2 ≠ [58, 32]) : scanW s = none := by
  unfold scanW
  refine if_neg fun g => ?_
  have hlen := isWord_len g.1
  have el : ((⟨(s.takeWhile isLet).toArray⟩ : Str)).length = (s.takeWhile isLet).length := by simp [Str.length]
  rw [el] at hlen
  exact h _ hlen.2 g.2
theorem scanW_some {s : List Nat} {w : Str} (h : scanW s = some w) : isWord w = true ∧ ∃ r, s = cs w ++ 58 :: 32 :: r := by
  unfold scanW at h
  by_cases hc : isWord ⟨(s.takeWhile isLet).toArray⟩ = true ∧ (s.drop (s.takeWhile isLet).length).take 2 = [58, 32]
  · rw [if_pos hc] at h
    have e := Option.some.inj h
    subst e
    refine ⟨hc.1, ?_⟩
    obtain ⟨r, hr⟩ := take2_head hc.2
    refine ⟨r, ?_⟩
    rw [cs_of, ← hr]
    have hp : s.takeWhile isLet <+: s := List.takeWhile_prefix _
    have := List.prefix_iff_eq_take.mp hp
    conv => lhs; rw [← List.take_append_drop (s.takeWhile isLet).length s]
    rw [← this]
  · rw [if_neg hc] at h
    cases h
/-- n fields more, none of the known words; below them: scan -/
def scanF (scan : List Nat → Option (Tr × List Nat)) : Nat → List Str → List Nat → Option (Tr × List Nat)
  | 0, _, _ => none
  | n + 1, known, s => match scanW s with
    | none => none
    | some w => if w ∈ known then none else match scan (s.drop (w.length + 2)) with
      | none => none
      | some (t, r) => match r with
        | 125 :: r' => some (.cons w t .nil, r')
        | 44 :: 32 :: r' => (scanF scan n (known ++ [w]) r').map fun p => (.cons w t p.1, p.2)
        | _ => none
def scanS : Nat → List Nat → Option (Tr × List Nat)
  | floors, s => match s with
    | 46 :: r => some (.nil, r)
    | 123 :: r => (match floors with
      | 0 => none
      | f + 1 => scanF (scanS f) 3 [] r)
    | _ => none
end Ub
namespace Ub
open PySem PySem.Spec PyProof.Rows L2
def FineF (fine : Tr → Prop) : Nat → List Str → Tr → Prop
  | 0, _, _ => False
  | _ + 1, _, .nil => False
  | n + 1, known, .cons w t r => isWord w = true ∧ w ∉ known ∧ fine t ∧ (r = .nil ∨ FineF fine n (known ++ [w]) r)
def Fine : Nat → Tr → Prop
  | 0, t => t = .nil
  | f + 1, t => t = .nil ∨ FineF (Fine f) 3 [] t
def fcs : Tr → List Nat
  | .nil => []
  | .cons w t r => cs w ++ 58 :: 32 :: ((if t.isNil then [46] else 123 :: (fcs t ++ [125])) ++ (if r.isNil then [] else 44 :: 32 :: fcs r))
def tcs (t : Tr) : List Nat := if t.isNil then [46] else 123 :: (fcs t ++ [125])
theorem cs_app (a b : Str) : cs (a ++ b) = cs a ++ cs b := app_cps a b
theorem cs_dot : cs (("." : Str)) = [46] := by decide +kernel
theorem cs_open : cs (("{" : Str)) = [123] := by decide +kernel
theorem cs_shut : cs (("}" : Str)) = [125] := by decide +kernel
theorem cs_comma : cs ((", " : Str)) = [44, 32] := by decide +kernel
theorem join_fcs : ∀ t : Tr, cs (Str.join ", " t.pieces) = fcs t ∧ cs t.text = tcs t
  | .nil => ⟨rfl, cs_dot⟩
  | .cons w t r => by
    obtain ⟨_, a2⟩ := join_fcs t
    obtain ⟨b1, _⟩ := join_fcs r
    have k : cs (Str.join ", " (Tr.cons w t r).pieces) = fcs (.cons w t r) := by
      cases r with
      | nil =>
        show cs (w ++ ": " ++ t.text) = _
        rw [cs_app, cs_app, a2, colon_cs]
        show _ = cs w ++ 58 :: 32 :: (tcs t ++ [])
        simp
      | cons w2 t2 r2 =>
        show cs ((w ++ ": " ++ t.text) ++ ", " ++ Str.join ", " (Tr.cons w2 t2 r2).pieces) = _
        rw [cs_app, cs_app, cs_app, cs_app, a2, b1, colon_cs, cs_comma]
        show _ = cs w ++ 58 :: 32 :: (tcs t ++ 44 :: 32 :: fcs (.cons w2 t2 r2))
        simp
    refine ⟨k, ?_⟩
    show cs ("{" ++ Str.join ", " (Tr.cons w t r).pieces ++ "}" : Str) = 123 :: (fcs (.cons w t r) ++ [125])
    rw [cs_app, cs_app, k, cs_open, cs_shut]
    rfl
theorem cs_text (t : Tr) : cs t.text = tcs t := (join_fcs t).2
theorem fcs_cons (w : Str) (t r : Tr) : fcs (.cons w t r) = cs w ++ 58 :: 32 :: (tcs t ++ (if r.isNil then [] else 44 :: 32 :: fcs r)) := rfl
theorem scanW_of {w : Str} (h : isWord w = true) (r : List Nat) : scanW (cs w ++ 58 :: 32 :: r) = some w := by
  have hl := isWord_low h
  have e : (cs w ++ 58 :: 32 :: r).takeWhile isLet = cs w := by
    have := takeWhile_split (cs w ++ 58 :: 32 :: r) (cs w).length (by rw [List.take_left]; exact hl) ⟨32 :: r, by rw [List.drop_left]⟩
    rw [this, List.take_left]
  unfold scanW
  rw [e, List.drop_left, str_of, if_pos ⟨h, rfl⟩]
theorem scanF_out {scan : List Nat → Option (Tr × List Nat)} {fine : Tr → Prop} (hs : ∀ s t r, scan s = some (t, r) → fine t ∧ s = tcs t ++ r) :
    ∀ (n : Nat) (known : List Str) (s : List Nat) (u : Tr) (r : List Nat), scanF scan n known s = some (u, r) → FineF fine n known u ∧ s = fcs u ++ 125 :: r
  | 0, _, _, _, _, h => by cases h
  | n + 1, known, s, u, r, h => by
    unfold scanF at h
    cases hw : scanW s with
    | none => rw [hw] at h; cases h
    | some w =>
      rw [hw] at h
      obtain ⟨g1, r0, g2⟩ := scanW_some hw
      dsimp only at h
      by_cases hk : w ∈ known
      · rw [if_pos hk] at h; cases h
      · rw [if_neg hk] at h
        have ed : s.drop (w.length + 2) = r0 := by
          rw [g2, ← cs_len, ← List.drop_drop, List.drop_left]
          rfl
        rw [ed] at h
        cases hsc : scan r0 with
        | none => rw [hsc] at h; cases h
        | some p =>
          obtain ⟨t, r1⟩ := p
          rw [hsc] at h
          dsimp only at h
          obtain ⟨k1, k2⟩ := hs _ _ _ hsc
          split at h
          · rename_i r' 
            have e := Option.some.inj h
            injection e with e1 e2
            subst e1 e2
            refine ⟨⟨g1, hk, k1, .inl rfl⟩, ?_⟩
            rw [fcs_cons, g2, k2]
            simp [Tr.isNil]
          · rename_i r'
            cases hf : scanF scan n (known ++ [w]) r' with
            | none => rw [hf] at h; cases h
            | some q =>
              obtain ⟨u', r''⟩ := q
              rw [hf] at h
              have e := Option.some.inj h
              injection e with e1 e2
              have e1 : Tr.cons w t u' = u := e1
              have e2 : r'' = r := e2
              subst e1 e2
              obtain ⟨i1, i2⟩ := scanF_out hs n _ _ _ _ hf
              refine ⟨⟨g1, hk, k1, .inr i1⟩, ?_⟩
              have hn : u'.isNil = false := by
                cases u' with
                | nil => cases n <;> exact i1.elim
                | cons _ _ _ => rfl
              rw [fcs_cons, g2, k2, hn, i2]
              simp
          · cases h
theorem scanF_in {scan : List Nat → Option (Tr × List Nat)} {fine : Tr → Prop} (hs : ∀ t r, fine t → scan (tcs t ++ r) = some (t, r)) :
    ∀ (n : Nat) (known : List Str) (u : Tr) (r : List Nat), FineF fine n known u → scanF scan n known (fcs u ++ 125 :: r) = some (u, r)
  | 0, _, _, _, h => h.elim
  | n + 1, _, .nil, _, h => h.elim
  | n + 1, known, .cons w t u', r, h => by
    obtain ⟨g1, hk, k1, hr⟩ := h
    have es : fcs (.cons w t u') ++ 125 :: r = cs w ++ 58 :: 32 :: (tcs t ++ ((if u'.isNil then [] else 44 :: 32 :: fcs u') ++ 125 :: r)) := by
      rw [fcs_cons]
      simp
    rw [es]
    unfold scanF
    rw [scanW_of g1]
    dsimp only
    rw [if_neg hk]
    have ed : (cs w ++ 58 :: 32 :: (tcs t ++ ((if u'.isNil then [] else 44 :: 32 :: fcs u') ++ 125 :: r))).drop (w.length + 2) = tcs t ++ ((if u'.isNil then [] else 44 :: 32 :: fcs u') ++ 125 :: r) := by
      rw [← cs_len, ← List.drop_drop, List.drop_left]
      rfl
    rw [ed, hs _ _ k1]
    dsimp only
    cases u' with
    | nil => rfl
    | cons w2 t2 r2 =>
      rcases hr with hr | hr
      · cases hr
      · have ih := scanF_in hs n _ _ r hr
        show (scanF scan n (known ++ [w]) (fcs (.cons w2 t2 r2) ++ 125 :: r)).map _ = _
        rw [ih]
        rfl
theorem scanS_out : ∀ (f : Nat) (s : List Nat) (t : Tr) (r : List Nat), scanS f s = some (t, r) → Fine f t ∧ s = tcs t ++ r := by
  intro f
  induction f with
  | zero =>
    intro s t r h
    unfold scanS at h
    split at h
    · have e := Option.some.inj h
      injection e with e1 e2
      subst e1 e2
      exact ⟨rfl, rfl⟩
    · cases h
    · cases h
  | succ f ih =>
    intro s t r h
    unfold scanS at h
    split at h
    · have e := Option.some.inj h
      injection e with e1 e2
      subst e1 e2
      exact ⟨.inl rfl, rfl⟩
    · rename_i r0
      obtain ⟨g1, g2⟩ := scanF_out ih 3 [] _ _ _ h
      have hn : t.isNil = false := by
        cases t with
        | nil => exact g1.elim
        | cons _ _ _ => rfl
      refine ⟨.inr g1, ?_⟩
      unfold tcs
      rw [hn, g2]
      simp
    · cases h
theorem scanS_in : ∀ (f : Nat) (t : Tr) (r : List Nat), Fine f t → scanS f (tcs t ++ r) = some (t, r) := by
  intro f
  induction f with
  | zero =>
    intro t r h
    have h : t = .nil := h
    subst h
    rfl
  | succ f ih =>
    intro t r h
    rcases h with h | h
    · subst h
      rfl
    · have hn : t.isNil = false := by
        cases t with
        | nil => exact h.elim
        | cons _ _ _ => rfl
      unfold tcs
      rw [hn]
      show scanS (f + 1) ((123 :: (fcs t ++ [125])) ++ r) = _
      have e : (123 :: (fcs t ++ [125])) ++ r = 123 :: (fcs t ++ 125 :: r) := by simp
      rw [e]
      show scanF (scanS f) 3 [] (fcs t ++ 125 :: r) = _
      exact scanF_in ih 3 [] t r h
theorem fineF_has {fine : Tr → Prop} {D B : Nat} (hf : ∀ t, fine t → t.depth ≤ D ∧ t.size ≤ B ∧ t.short) : ∀ (n : Nat) (known : List Str) (u : Tr), FineF fine n known u → u.sdep ≤ D ∧ u.size ≤ n * (1 + B) ∧ u.short
  | 0, _, _, h => h.elim
  | n + 1, _, .nil, h => h.elim
  | n + 1, known, .cons w t r, h => by
    obtain ⟨g1, _, k1, hr⟩ := h
    obtain ⟨a1, a2, a3⟩ := hf t k1
    have w8 := (isWord_len g1).2
    have e : (n + 1) * (1 + B) = n * (1 + B) + (1 + B) := Nat.succ_mul _ _
    rcases hr with hr | hr
    · subst hr
      refine ⟨?_, ?_, w8, a3, trivial⟩
      · show max t.depth 0 ≤ D
        omega
      · show 1 + t.size + 0 ≤ _
        omega
    · obtain ⟨b1, b2, b3⟩ := fineF_has hf n _ _ hr
      refine ⟨?_, ?_, w8, a3, b3⟩
      · show max t.depth r.sdep ≤ D
        omega
      · show 1 + t.size + r.size ≤ _
        omega
def bnd : Nat → Nat
  | 0 => 0
  | f + 1 => 3 * (1 + bnd f)
theorem fine_has : ∀ (f : Nat) (t : Tr), Fine f t → t.depth ≤ f ∧ t.size ≤ bnd f ∧ t.short
  | 0, t, h => by
    have h : t = .nil := h
    subst h
    exact ⟨Nat.le_refl _, Nat.le_refl _, trivial⟩
  | f + 1, t, h => by
    rcases h with h | h
    · subst h
      exact ⟨Nat.zero_le _, Nat.zero_le _, trivial⟩
    · obtain ⟨a1, a2, a3⟩ := fineF_has (fine_has f) 3 [] t h
      refine ⟨?_, a2, a3⟩
      show (if t.isNil then 0 else 1 + t.sdep) ≤ f + 1
      split <;> omega
theorem bnd3 {f : Nat} (h : f ≤ 3) : bnd f ≤ 39 := by
  match f, h with
  | 0, _ => decide
  | 1, _ => decide
  | 2, _ => decide
  | 3, _ => decide
def sp_scan_word : Sp := fun vs H Q _ => ∃ (z : Str) (a : Nat), vs = [.str z, .int a] ∧ z.length ≤ 100000 ∧ a ≤ z.length ∧ ∀ H', Same H H' → Q (match scanW ((cs z).drop a) with | none => .non | some w => .str w) H'
/-- a pair (tree, place), or (None, place) -/
def ScanOut (H' : Hp) (z : Str) (a : Int) (o : Option (Tr × List Nat)) (p : Addr) : Prop := match o with
  | none => H' p = some (.tup [.non, .int a])
  | some (t, r) => ∃ q, TrAt H' t q ∧ H' p = some (.tup [q, .int ((z.length - r.length : Nat) : Int)])
def sp_scan (d : Nat) : Sp := fun vs H Q _ => ∃ (z : Str) (a f : Nat), vs = [.str z, .int a, .int f] ∧ z.length ≤ 100000 ∧ a ≤ z.length ∧ f < d ∧ f ≤ 3 ∧ ∀ H' p, Same H H' → ScanOut H' z a (scanS f ((cs z).drop a)) p → Q (.ref p) H'
def prep : List (Str × Tr) → Tr → Tr
  | [], u => u
  | (w, t) :: l, u => .cons w t (prep l u)
theorem prep_snoc : ∀ (l : List (Str × Tr)) (w : Str) (t u : Tr), prep (l ++ [(w, t)]) u = prep l (.cons w t u)
  | [], _, _, _ => rfl
  | (w0, t0) :: l, w, t, u => by
    show Tr.cons w0 t0 (prep (l ++ [(w, t)]) u) = .cons w0 t0 (prep l (.cons w t u))
    rw [prep_snoc l]
theorem prep_nil : ∀ l : List (Str × Tr), prep l .nil = .ofFields l
  | [] => rfl
  | (w, t) :: l => by
    show Tr.cons w t (prep l .nil) = .cons w t (.ofFields l)
    rw [prep_nil l]
theorem no_scan {P : Program} {w : World} {K : PySem.W.Frag} {mg : Str → Option Value} {base : Heap} {f : Addr} {fd : FuncData} {x y z : Str} : FnOk P w K mg base CX0 0 f fd [x, y, z] (sp_scan 0) :=
  ⟨fun vs H Q E h => by
    obtain ⟨_, _, _, rfl, _⟩ := h
    rfl, fun A outer s H args us vs Q E _ _ _ _ h => by
    obtain ⟨_, _, f, _, _, _, hd, _⟩ := h
    exact absurd hd (Nat.not_lt_zero _)⟩
theorem scanS_dot {f : Nat} {s : List Nat} (h : s.take 1 = [46]) : ∃ r, s = 46 :: r ∧ scanS f s = some (.nil, r) := by
  cases s with
  | nil => cases h
  | cons c r =>
    have h1 : [c] = [46] := h
    injection h1 with h2
    subst h2
    refine ⟨r, rfl, ?_⟩
    unfold scanS
    rfl
theorem scanS_none {f : Nat} {s : List Nat} (h1 : s.take 1 ≠ [46]) (h2 : s.take 1 ≠ [123] ∨ f = 0) : scanS f s = none := by
  unfold scanS
  split
  · exact absurd rfl h1
  · rcases h2 with h2 | h2
    · exact absurd rfl h2
    · subst h2
      rfl
  · rfl
theorem scanS_rec {f : Nat} {s : List Nat} (h : s.take 1 = [123]) : ∃ r, s = 123 :: r ∧ scanS (f + 1) s = scanF (scanS f) 3 [] r := by
  cases s with
  | nil => cases h
  | cons c r =>
    have h1 : [c] = [123] := h
    injection h1 with h2
    subst h2
    refine ⟨r, rfl, ?_⟩
    conv => lhs; unfold scanS
    rfl
theorem cut1_eq {z x : Str} {a : Nat} {c : Nat} (ha : a ≤ z.length) (hx : cs x = [c]) : decide (V.str (cutS z (some (a : Int)) (some ((a : Int) + 1))) = V.str x) = decide (((cs z).drop a).take 1 = [c]) := by
  have e : ((a : Nat) : Int) + 1 = ((a + 1 : Nat) : Int) := by omega
  rw [e, cut_nat ha (by omega), show a + 1 - a = 1 by omega]
  by_cases h : ((cs z).drop a).take 1 = [c]
  · rw [h, decide_eq_true rfl]
    refine decide_eq_true ?_
    rw [show x = (⟨([c] : List Nat).toArray⟩ : Str) from str_inj (by rw [hx, cs_of])]
  · rw [decide_eq_false h]
    refine decide_eq_false fun q => h ?_
    have := congrArg cs (V.str.inj q)
    rw [cs_of, hx] at this
    exact this
theorem cut2_eq {z x : Str} {a : Nat} {c d : Nat} (ha : a ≤ z.length) (hx : cs x = [c, d]) : decide (V.str (cutS z (some (a : Int)) (some ((a : Int) + 2))) = V.str x) = decide (((cs z).drop a).take 2 = [c, d]) := by
  have e : ((a : Nat) : Int) + 2 = ((a + 2 : Nat) : Int) := by omega
  rw [e, cut_nat ha (by omega), show a + 2 - a = 2 by omega]
  by_cases h : ((cs z).drop a).take 2 = [c, d]
  · rw [h, decide_eq_true rfl]
    refine decide_eq_true ?_
    rw [show x = (⟨([c, d] : List Nat).toArray⟩ : Str) from str_inj (by rw [hx, cs_of])]
  · rw [decide_eq_false h]
    refine decide_eq_false fun q => h ?_
    have := congrArg cs (V.str.inj q)
    rw [cs_of, hx] at this
    exact this
def nextF (scan : List Nat → Option (Tr × List Nat)) (n : Nat) (known : List Str) (w : Str) (t : Tr) (r : List Nat) : Option (Tr × List Nat) := match r with
  | 125 :: r' => some (.cons w t .nil, r')
  | 44 :: 32 :: r' => (scanF scan n (known ++ [w]) r').map fun p => (.cons w t p.1, p.2)
  | _ => none
/-- one more field -/
theorem scanF_step {scan : List Nat → Option (Tr × List Nat)} {n : Nat} {known : List Str} {s : List Nat} {w : Str} (hw : scanW s = some w) (hk : w ∉ known) {t : Tr} {r : List Nat} (hs : scan (s.drop (w.length + 2)) = some (t, r)) :
    scanF scan (n + 1) known s = nextF scan n known w t r := by
  conv => lhs; unfold scanF
  rw [hw]
  dsimp only
  rw [if_neg hk, hs]
  rfl
theorem scanF_none1 {scan : List Nat → Option (Tr × List Nat)} {n : Nat} {known : List Str} {s : List Nat} (hw : scanW s = none) : scanF scan n known s = none := by
  cases n with
  | zero => rfl
  | succ n => unfold scanF; rw [hw]
theorem scanF_none2 {scan : List Nat → Option (Tr × List Nat)} {n : Nat} {known : List Str} {s : List Nat} {w : Str} (hw : scanW s = some w) (hk : w ∈ known) : scanF scan n known s = none := by
  cases n with
  | zero => rfl
  | succ n => unfold scanF; rw [hw]; dsimp only; rw [if_pos hk]
theorem scanF_none3 {scan : List Nat → Option (Tr × List Nat)} {n : Nat} {known : List Str} {s : List Nat} {w : Str} (hw : scanW s = some w) (hs : scan (s.drop (w.length + 2)) = none) : scanF scan n known s = none := by
  cases n with
  | zero => rfl
  | succ n =>
    unfold scanF
    rw [hw]
    dsimp only
    split
    · rfl
    · rw [hs]
theorem drop_suf {l pre r : List Nat} (h : l = pre ++ r) : l.drop (l.length - r.length) = r := by
  subst h
  rw [List.length_append, Nat.add_sub_cancel, List.drop_left]
theorem nextF_end {scan : List Nat → Option (Tr × List Nat)} {n : Nat} {known : List Str} {w : Str} {t : Tr} {r : List Nat} (h : r.take 1 = [125]) : ∃ r', r = 125 :: r' ∧ nextF scan n known w t r = some (.cons w t .nil, r') := by
  cases r with
  | nil => cases h
  | cons c r =>
    have h1 : [c] = [125] := h
    injection h1 with h2
    subst h2
    exact ⟨r, rfl, rfl⟩
theorem nextF_bad {scan : List Nat → Option (Tr × List Nat)} {n : Nat} {known : List Str} {w : Str} {t : Tr} {r : List Nat} (h : r.take 1 ≠ [125]) (h2 : r.take 2 ≠ [44, 32]) : nextF scan n known w t r = none := by
  unfold nextF
  split
  · exact absurd rfl h
  · exact absurd rfl h2
  · rfl
theorem nextF_on {scan : List Nat → Option (Tr × List Nat)} {n : Nat} {known : List Str} {w : Str} {t : Tr} {r : List Nat} (h : r.take 2 = [44, 32]) : ∃ r', r = 44 :: 32 :: r' ∧ nextF scan n known w t r = (scanF scan n (known ++ [w]) r').map fun p => (.cons w t p.1, p.2) := by
  obtain ⟨r', rfl⟩ := take2_head h
  exact ⟨r', rfl, rfl⟩
end Ub
namespace Ue
open PySem PySem.Spec PyProof.Rows L2 Ub
structure ExK (K : PySem.W.Frag) (C fI : Addr) (f : Str) : Prop where
  o : OexC K C
  x : XfC K C
  e : ExcC K C
  no : PySem.W.findIn K (.ref C) f = some none
  iC : PySem.W.findIn K (.ref C) "__init__" = some (some (.ref fI))
  tI : PySem.W.typeIn K (.ref fI) = some (.type "function")
theorem clB_ok {K : PySem.W.Frag} {C : Addr} (h : clB K C = true) : ∃ nm q N bs bm sn sub ab col dd k0 k1 k2 k3 k5, K.lookup C = some (excClassObj nm q C N bs bm true sn sub ab col dd k0 k1 k2 k3 k5 "ValueError.__new__") ∧ PySem.HandSPX.refsVE bm = true := by
  unfold clB at h
  split at h
  · rename_i T dd cd sl ho
    split at h
    · rename_i C' bm k0 k1 k2 k3 n k5 hm hs
      obtain ⟨nm, bs, mro, ns, qn, hd, sn, sub, ab, col, del⟩ := cd
      obtain ⟨ls⟩ := sl
      simp only [Bool.and_eq_true, decide_eq_true_eq, Bool.not_eq_true'] at h
      obtain ⟨rfl, rfl, rfl, h1, h2, h3⟩ := h
      dsimp only at hm hs h1 h2
      subst hm hs h1 h2
      exact ⟨nm, qn, ns, bs, bm, sn, sub, ab, col, dd, k0, k1, k2, k3, k5, ho, h3⟩
    · cases h
  · cases h
theorem exB_ok {K : PySem.W.Frag} {C fI : Addr} {f : Str} (h : exB K C fI f = true) : ExK K C fI f := by
  obtain ⟨h1, h⟩ := He.ba h
  obtain ⟨h2, h⟩ := He.ba h
  obtain ⟨h3, h⟩ := He.ba h
  obtain ⟨h4, h⟩ := He.ba h
  obtain ⟨h5, h⟩ := He.ba h
  obtain ⟨h6, h⟩ := He.ba h
  obtain ⟨h7, h⟩ := He.ba h
  obtain ⟨h8, h⟩ := He.ba h
  obtain ⟨h9, h⟩ := He.ba h
  obtain ⟨h10, h⟩ := He.ba h
  obtain ⟨h11, h12⟩ := He.ba h
  have x := xfB_ok h5
  exact ⟨⟨clB_ok h1, He.eqO_ok h2, x.exC, of_decide_eq_true h3, h4⟩, x, ⟨x.ga, x.gg, x.exC, x.hdC, He.eqO_ok h6, He.eqO_ok h7, of_decide_eq_true h8, of_decide_eq_true h9⟩, He.eqO_ok h10, He.eqO_ok h11, of_decide_eq_true h12⟩
/-- what such an __init__ does -/
def sp_exi (C : Addr) (f : Str) : Sp := fun vs H Q _ => ∃ a y, vs = [.ref a, y] ∧ H a = some (exo a C none) ∧ ∀ d, H d = none → d ≠ a → Q .non (upd (upd H d (exd d [(f, y)])) a (exo a C (some d)))
/-- such a class by its name -/
structure CalX (P : Program) (w : World) (K : PySem.W.Frag) (mg : Str → Option Value) (base : Heap) (k : Nat) (x : Str) (C : Addr) (f : Str) : Prop where
  ex : ∃ fI fd ps, ExK K C fI f ∧ FnOk P w K mg base CX0 k fI fd ps (sp_exi C f) ∧ Binds K fd ps [] ∧ mg x = some (.ref C)
def MkX (C : Addr) (f : Str) (v : V) (H1 : Hp) (W : XK) : Prop := [v].length ≤ 1000 ∧ ∀ a, H1 a = none → sp_exi C f (.ref a :: ([v] ++ [])) (upd H1 a (exo a C none))
  (fun v H2 => v = .non ∧ ∃ (d : Addr) (fs : List (Str × V)), H2 a = some (exo a C (some d)) ∧ H2 d = some (exd d fs) ∧ H1 d = none ∧ W (.ref C) (some d) (upd (del H2 a) d (.xd fs))) (fun _ _ _ => False)
theorem mkX {C : Addr} {f : Str} {v : V} {H1 : Hp} {W : XK} (h : ∀ d H', Same H1 H' → H1 d = none → H' d = some (.xd [(f, v)]) → W (.ref C) (some d) H') : MkX C f v H1 W := by
  refine ⟨by simp, fun a ha => ⟨a, v, rfl, upd_same, fun d hd hne => ⟨rfl, d, [(f, v)], upd_same, ?_, ?_, h d _ (fun b o q => ?_) ?_ upd_same⟩⟩⟩
  · rw [upd_ne hne, upd_same]
  · rwa [upd_ne hne] at hd
  · rw [upd_ne hne] at hd
    have hb := ne_of_none q ha
    have hbd := ne_of_none q hd
    rw [upd_ne hbd, del_ne hb, upd_ne hb, upd_ne hbd, upd_ne hb]
    exact q
  · rwa [upd_ne hne] at hd
section
variable {X : Cx} {k : Nat} {x : Str} {C : Addr} {f : Str} {e : Expr} {te : TE} {p pos pos' : Pos}
/-- raise x(e) -/
theorem ps_raiseX {W : WX} (c : CalX X.prog X.w X.K X.mg X.base k x C f) (hc : X.calm = true) (tk : Takes X W) (hr : Room (k + 1) X.A) (hg : Gl X x) (he : PE X e te)
    (hdb : (x == ("__debug__" : Str)) = false := by decide) (hs : starEach [e] X.env = (false, eval e X.env) :: starEach [] X.env := by rfl) :
    PS X (.Raise (some (.Call (.Name x p) [e] [] pos)) none pos') (fun _ σ H => te σ H fun v H1 => MkX C f v H1 fun cls d H' => W cls d σ H') := by
  obtain ⟨fI, fd, ps, E, F, hb, hm⟩ := c.ex
  exact ps_raise hc tk (pmk_oex E.o E.iC E.tI F hr hb .nil pass0 hg hm (pa_cons he pa_nil hs) hdb hs rfl)
end
end Ue
namespace Up
open PySem PySem.Spec PyProof.Rows L2 Ub Ur Ug Ue
def good (t : Tr) : Prop := Fine 3 t ∧ t.recs ≤ 5 ∧ t.plains ≤ 5
def shapeOf (z : Str) : Option Tr := match scanS 3 (cs z) with
  | some (t, []) => if t.recs ≤ 5 ∧ t.plains ≤ 5 then some t else none
  | _ => none
theorem cs_inj {a b : Str} (h : cs a = cs b) : a = b := by
  obtain ⟨⟨x⟩⟩ := a
  obtain ⟨⟨y⟩⟩ := b
  have : x = y := h
  rw [this]
theorem shapeOf_in {t : Tr} (h : good t) : shapeOf t.text = some t := by
  have e := scanS_in 3 t [] h.1
  rw [List.append_nil, ← cs_text] at e
  unfold shapeOf
  rw [e]
  exact if_pos ⟨h.2.1, h.2.2⟩
theorem fineF_mono {p q : Tr → Prop} (h : ∀ t, p t → q t) : ∀ {n : Nat} {kn : List Str} {t : Tr}, FineF p n kn t → FineF q n kn t
  | 0, _, _, hf => hf.elim
  | _ + 1, _, .nil, hf => hf.elim
  | n + 1, kn, .cons w t r, ⟨h1, h2, h3, h4⟩ => ⟨h1, h2, h t h3, h4.imp (fun z => z) fun z => fineF_mono h z⟩
theorem fine_mono : ∀ {f : Nat} {t : Tr}, Fine f t → Fine (f + 1) t
  | 0, _, h => .inl h
  | _ + 1, _, h => h.imp (fun z => z) fun z => fineF_mono (fun _ y => fine_mono y) z
theorem fineF_fields {p : Tr → Prop} : ∀ {n : Nat} {kn : List Str} {t : Tr}, FineF p n kn t → (∀ m ∈ t.fields, p m.2 ∧ isWord m.1 = true ∧ m.1 ∉ kn) ∧ (t.fields.map (·.1)).Nodup
  | 0, _, _, hf => hf.elim
  | _ + 1, _, .nil, hf => hf.elim
  | n + 1, kn, .cons w t r, ⟨h1, h2, h3, h4⟩ => by
    have hr : (∀ m ∈ r.fields, p m.2 ∧ isWord m.1 = true ∧ m.1 ∉ kn ++ [w]) ∧ (r.fields.map (·.1)).Nodup := by
      rcases h4 with rfl | h4
      · exact ⟨(fun m hm => nomatch hm), List.nodup_nil⟩
      · exact fineF_fields h4
    have ef : (Tr.cons w t r).fields = (w, t) :: r.fields := rfl
    rw [ef]
    refine ⟨fun m hm => ?_, ?_⟩
    · rcases List.mem_cons.mp hm with e | hm
      · rw [e]
        exact ⟨h3, h1, h2⟩
      · obtain ⟨a, b, c⟩ := hr.1 m hm
        exact ⟨a, b, fun z => c (List.mem_append_left _ z)⟩
    · rw [List.map_cons, List.nodup_cons]
      refine ⟨fun z => ?_, hr.2⟩
      obtain ⟨m, hm, e⟩ := List.mem_map.mp z
      exact (hr.1 m hm).2.2 (by rw [e]; simp)
theorem fine_fields {f : Nat} {t : Tr} (h : Fine f t) : (∀ m ∈ t.fields, Fine f m.2 ∧ isWord m.1 = true) ∧ (t.fields.map (·.1)).Nodup := by
  have nl : (∀ m ∈ (Tr.nil).fields, Fine f m.2 ∧ isWord m.1 = true) ∧ ((Tr.nil).fields.map (·.1)).Nodup := ⟨(fun m hm => nomatch hm), List.nodup_nil⟩
  cases f with
  | zero =>
    have e : t = .nil := h
    rw [e]
    exact nl
  | succ f =>
    rcases h with e | h
    · rw [e]
      exact nl
    · obtain ⟨a, b⟩ := fineF_fields h
      exact ⟨fun m hm => ⟨fine_mono (a m hm).1, (a m hm).2.1⟩, b⟩
theorem le_sum : ∀ {l : List Nat} {x : Nat}, x ∈ l → x ≤ l.sum
  | y :: l, x, h => by
    rw [List.sum_cons]
    rcases List.mem_cons.mp h with e | h
    · omega
    · have := le_sum h
      omega
theorem good_fields {t : Tr} (h : good t) : (∀ m ∈ t.fields, good m.2 ∧ isWord m.1 = true) ∧ (t.fields.map (·.1)).Nodup := by
  obtain ⟨h1, h2, h3⟩ := h
  obtain ⟨a, b⟩ := fine_fields h1
  refine ⟨fun m hm => ⟨⟨(a m hm).1, ?_, ?_⟩, (a m hm).2⟩, b⟩
  · have z := le_sum (List.mem_map.mpr ⟨m, hm, rfl⟩ : m.2.recs ∈ t.fields.map fun p => p.2.recs)
    have e := Tr.srec_eq t
    have : t.isNil = false := by cases t with | nil => exact nomatch hm | cons _ _ _ => rfl
    have er : t.recs = 1 + t.srec := by unfold Tr.recs; rw [this]; rfl
    omega
  · have z := le_sum (List.mem_map.mpr ⟨m, hm, rfl⟩ : m.2.plains ∈ t.fields.map fun p => p.2.plains)
    have e := Tr.spla_eq t
    have : t.isNil = false := by cases t with | nil => exact nomatch hm | cons _ _ _ => rfl
    have er : t.plains = t.spla := by unfold Tr.plains; rw [this]; rfl
    omega
theorem good_has {t : Tr} (h : good t) : t.depth ≤ 3 ∧ t.size ≤ 39 ∧ t.short := by
  obtain ⟨a, b, c⟩ := fine_has 3 t h.1
  exact ⟨a, Nat.le_trans b (bnd3 (Nat.le_refl _)), c⟩
def sp_bounded : Sp := fun vs H Q _ => ∃ t v, vs = [v] ∧ TrAt H t v ∧ t.depth < 4 ∧ t.size ≤ 1000 ∧ t.short ∧ ∀ H', Same H H' → Q (.bl (decide (t.recs ≤ 5 ∧ t.plains ≤ 5))) H'
def sp_tree_of (K : PySem.W.Frag) : Sp := fun vs H Q _ => ∃ x, vs = [x] ∧ ((∃ z : Str, x = .str z ∧ z.length ≤ 100000 ∧ ∀ H', Same H H' → (match shapeOf z with
    | none => Q .non H'
    | some t => ∀ v, TrAt H' t v → Q v H')) ∨ (NotStr K H x ∧ ∀ H', Same H H' → Q .non H'))
structure CalM (P : Program) (w : World) (K : PySem.W.Frag) (mg : Str → Option Value) (base : Heap) (k : Nat) (x : Str) (C : Addr) (ps : List Str) (sp : Sp) : Prop where
  ex : ∃ f fd, Mk K C f ∧ FnOk P w K mg base (CX P w) k f fd ps sp ∧ mg x = some (.ref C) ∧ Binds K fd ps []
def tMakeS (C : Addr) (sp : Sp) (E : L2.St → XK) (t : TA) : TE := fun σ H Q => t σ H fun vs H1 => ∀ x dx, H1 x = none → H1 dx = none → dx ≠ x → sp (.ref x :: vs) (upd (upd H1 dx (.own x)) x (.ins C dx [])) (fun v H2 => v = .non ∧ Q (.ref x) H2) (E σ)
section
variable {X : Cx} {k : Nat} {x : Str} {C : Addr} {ps : List Str} {sp : Sp} {e : Expr} {es : List Expr} {p pos : Pos} {t : TA} {E : L2.St → XK}
theorem passE0 {σ : L2.St} : PassesAt (CX X.prog X.w) X σ E0 := fun _ _ _ _ _ _ ⟨_, _, _, _, _, _, _, _, _, _, _, _, z⟩ => z.elim
theorem pe_makeS (c : CalM X.prog X.w X.K X.mg X.base k x C ps sp) (hx : ∀ σ, PassesAt (CX X.prog X.w) X σ (E σ)) (hr : Room (k + 1) X.A) (hg : Gl X x)
    (ha : PA X (e :: es) t) (hdb : (x == ("__debug__" : Str)) = false := by decide) (he : starEach (e :: es) X.env = (false, eval e X.env) :: starEach es X.env := by rfl) (hpl : (backTo pos (starEach es X.env)).any (·.1) = false := by rfl) :
    PE X (.Call (.Name x p) (e :: es) [] pos) (tMakeS C sp E t) := by
  obtain ⟨f, fd, M, F, hm, hb⟩ := c.ex
  refine ⟨fun pins s σ H Q I h => wpAny_Call_Name_kw (ld_glob I hg hm ?_ hdb)⟩
  refine PySem.W.callWith_K (h₀ := X.base) I.ok.mod.kin M.kp (thn (ha.run pos pins s σ H _ I h) fun us s1 ⟨vs, H1, J, rv, q⟩ => ⟨J.kIn, ?_⟩) he hpl
  have z := q (s1.heap.objs.size + 1) s1.heap.objs.size (J.hok.fresh (Nat.le_succ _)) (J.hok.fresh (Nat.le_refl _)) (Nat.ne_of_lt (Nat.lt_succ_self _))
  have J2 := Inv.made (C := C) J
  have r2 : Vals (V.ref (s1.heap.objs.size + 1) :: vs) (Value.ref (s1.heap.objs.size + 1) :: us) := .cons rfl rv
  have hl : (Value.ref (s1.heap.objs.size + 1) :: us).length = ps.length := by
    rw [← r2.length]
    exact F.len _ _ _ _ z
  have bi := hb _ (Value.ref (s1.heap.objs.size + 1) :: us) J2.kIn (by rw [List.append_nil]; exact hl)
  rw [List.append_nil] at bi
  refine wpAny_call (make_map (f := f) J.kIn M.makes M.init (beq_iff_eq.mp M.fn) (codeAny_mono (F.run _ X.stack _ _ ⟨Value.ref (s1.heap.objs.size + 1) :: us, []⟩ _ _ _ (E σ) (hr.make C us []) (J2.env0.make C us []) bi r2 z) fun r s2 hq => ?_))
  match r, hq with
  | .error e, hq => exact hx σ pins _ _ e s2 J2 hq
  | .ok (.ret u), hq =>
    obtain ⟨v, H2, J3, r3, ev, q3⟩ := J2.after hq
    subst ev
    exact ⟨r3, .ref _, H2, J3, rfl, q3⟩
end
inductive Sg where
  | nil
  | cons (w : Str) (p : Addr) (sub r : Sg)
namespace Sg
def tr : Sg → Tr
  | nil => .nil
  | cons w _ s r => .cons w s.tr r.tr
def dict : Sg → List (Key × V)
  | nil => []
  | cons w p _ r => (.inr w, .ref p) :: r.dict
def app : Sg → Sg → Sg
  | nil, h => h
  | cons w p s r, h => cons w p s (r.app h)
/-- a path below a field -/
def ext (w : Str) : Key → Key
  | .inl i => .inl i
  | .inr p => .inr (("." : Str) ++ w ++ Txt.mul p (if p = "." then 0 else 1))
def puts : Sg → List (Key × V) → List (Key × V)
  | nil, acc => acc
  | cons w p s r, acc => r.puts ((s.puts [(.inr ".", .ref p)]).foldl (fun a kv => putK a (ext w kv.1) kv.2) acc)
def spots (g : Sg) (x : Addr) : List (Key × V) := g.puts [(.inr ".", .ref x)]
theorem app_tr : ∀ (g h : Sg), (g.app h).tr.fields = g.tr.fields ++ h.tr.fields
  | nil, _ => rfl
  | cons w p s r, h => congrArg (List.cons (w, s.tr)) (app_tr r h)
theorem app_dict : ∀ (g h : Sg), (g.app h).dict = g.dict ++ h.dict
  | nil, _ => rfl
  | cons w p s r, h => congrArg (List.cons _) (app_dict r h)
theorem app_puts : ∀ (g h : Sg) (acc : List (Key × V)), (g.app h).puts acc = h.puts (g.puts acc)
  | nil, _, _ => rfl
  | cons w p s r, h, acc => app_puts r h _
end Sg
/-- Z: where its things may lie -/
def Sh1 (Z : Addr → Prop) (C : Addr) (H : Hp) (x : Addr) (g : Sg) : Prop := ∃ dx tv na fa sa, H x = some (.ins C dx [("text", .str g.tr.text), ("tree", tv), ("names", .ref na), ("fields", .ref fa), ("spots", .ref sa)]) ∧ TrAt H g.tr tv ∧
  H na = some (.tup (g.tr.fields.map fun m => .str m.1)) ∧ H fa = some (.dK g.dict) ∧ H sa = some (.dK (g.spots x)) ∧ Z x ∧ Z fa ∧ Z sa
def ShL (Z : Addr → Prop) (C : Addr) (H : Hp) : Sg → Prop
  | .nil => True
  | .cons _ p s r => Sh1 Z C H p s ∧ ShL Z C H s ∧ ShL Z C H r
def ShG (Z : Addr → Prop) (C : Addr) (H : Hp) (x : Addr) (g : Sg) : Prop := Sh1 Z C H x g ∧ ShL Z C H g
/-- what of the places Z is no list stays, and all tuples -/
def Kz (Z : Addr → Prop) (H H' : Hp) : Prop := ∀ b o, H b = some o → (∀ xs, o ≠ .lst xs) → (Z b ∨ ∃ xs, o = .tup xs) → H' b = some o
theorem Sh1.kz {Z : Addr → Prop} {C : Addr} {H H' : Hp} {x : Addr} {g : Sg} (k : Kz Z H H') (h : Sh1 Z C H x g) : Sh1 Z C H' x g := by
  obtain ⟨dx, tv, na, fa, sa, h1, h2, h3, h4, h5, z1, z2, z3⟩ := h
  exact ⟨dx, tv, na, fa, sa, k _ _ h1 (fun _ z => nomatch z) (.inl z1), h2.tups (fun c xs z => k _ _ z (fun _ y => nomatch y) (.inr ⟨_, rfl⟩)), k _ _ h3 (fun _ z => nomatch z) (.inr ⟨_, rfl⟩), k _ _ h4 (fun _ z => nomatch z) (.inl z2), k _ _ h5 (fun _ z => nomatch z) (.inl z3), z1, z2, z3⟩
theorem ShL.kz {Z : Addr → Prop} {C : Addr} {H H' : Hp} (k : Kz Z H H') : ∀ {g : Sg}, ShL Z C H g → ShL Z C H' g
  | .nil, _ => trivial
  | .cons _ _ _ _, ⟨a, b, c⟩ => ⟨a.kz k, ShL.kz k b, ShL.kz k c⟩
/-- the places may be told by the things themselves -/
theorem Sh1.imp {Z Z' : Addr → Prop} {C : Addr} {H : Hp} {x : Addr} {g : Sg} (i : ∀ b, Z b → H b ≠ none → Z' b) (h : Sh1 Z C H x g) : Sh1 Z' C H x g := by
  obtain ⟨dx, tv, na, fa, sa, h1, h2, h3, h4, h5, z1, z2, z3⟩ := h
  exact ⟨dx, tv, na, fa, sa, h1, h2, h3, h4, h5, i _ z1 (by rw [h1]; simp), i _ z2 (by rw [h4]; simp), i _ z3 (by rw [h5]; simp)⟩
theorem ShL.imp {Z Z' : Addr → Prop} {C : Addr} {H : Hp} (i : ∀ b, Z b → H b ≠ none → Z' b) : ∀ {g : Sg}, ShL Z C H g → ShL Z' C H g
  | .nil, _ => trivial
  | .cons _ _ _ _, ⟨a, b, c⟩ => ⟨a.imp i, ShL.imp i b, ShL.imp i c⟩
theorem ShL.app {Z : Addr → Prop} {C : Addr} {H : Hp} : ∀ {g h : Sg}, ShL Z C H g → ShL Z C H h → ShL Z C H (g.app h)
  | .nil, _, _, h => h
  | .cons _ _ _ _, _, ⟨a, b, c⟩, h => ⟨a, b, ShL.app c h⟩
theorem ShG.kz {Z : Addr → Prop} {C : Addr} {H H' : Hp} {x : Addr} {g : Sg} (k : Kz Z H H') (h : ShG Z C H x g) : ShG Z C H' x g := ⟨h.1.kz k, h.2.kz k⟩
theorem ShG.imp {Z Z' : Addr → Prop} {C : Addr} {H : Hp} {x : Addr} {g : Sg} (i : ∀ b, Z b → H b ≠ none → Z' b) (h : ShG Z C H x g) : ShG Z' C H x g := ⟨h.1.imp i, h.2.imp i⟩
theorem kz_of {Z : Addr → Prop} {H H' : Hp} (s : Same H H') : Kz Z H H' := fun b o h _ _ => s b o h
theorem putF_snoc {f : Str} {v : V} : ∀ {fs : List (Str × V)}, f ∉ fs.map (·.1) → putF f v fs = fs ++ [(f, v)]
  | [], _ => rfl
  | (g, y) :: r, h => by
    rw [List.map_cons, List.mem_cons, not_or] at h
    unfold putF
    rw [if_neg (Ne.symm h.1), putF_snoc h.2]
    rfl
def KeyOk (n : Nat) (kvs : List (Key × V)) : Prop := ∀ kv ∈ kvs, ∃ p : Str, kv.1 = .inr p ∧ p.length ≤ n
theorem KeyOk.put {n : Nat} {kvs : List (Key × V)} {p : Str} {v : V} (h : KeyOk n kvs) (hp : p.length ≤ n) : KeyOk n (putK kvs (.inr p) v) := by
  intro kv hk
  unfold putK at hk
  split at hk
  · obtain ⟨y, hy, e⟩ := List.mem_map.mp hk
    obtain ⟨q, e1, e2⟩ := h y hy
    by_cases c : y.1 = .inr p
    · rw [if_pos c] at e
      rw [← e]
      exact ⟨q, e1, e2⟩
    · rw [if_neg c] at e
      rw [← e]
      exact ⟨q, e1, e2⟩
  · rcases List.mem_append.mp hk with hk | hk
    · exact h kv hk
    · simp only [List.mem_cons, List.not_mem_nil, or_false] at hk
      rw [hk]
      exact ⟨p, rfl, hp⟩
theorem putK_len (kvs : List (Key × V)) (k : Key) (v : V) : (putK kvs k v).length ≤ kvs.length + 1 := by
  unfold putK
  split
  · rw [List.length_map]; omega
  · rw [List.length_append]; exact Nat.le_refl _
theorem mulLen (z : Str) (n : Nat) : (Txt.mul z (n : Int)).length = z.length * n := by
  have h := len_mul z (n : Int)
  have e : (if decide ((n : Int) < 0) = true then (0 : Int) else (n : Int)) = (n : Int) := by
    rw [decide_eq_false (by omega)]
    rfl
  rw [e] at h
  have : (((Txt.mul z (n : Int)).length : Nat) : Int) = ((z.length * n : Nat) : Int) := by rw [h, Int.natCast_mul]
  omega
theorem mulLen01 (p : Str) (b : Bool) : (Txt.mul p (if b = true then 1 else 0)).length ≤ p.length := by
  cases b with
  | true =>
    have := mulLen p 1
    have e : (Txt.mul p (if true = true then 1 else 0)) = Txt.mul p ((1 : Nat) : Int) := rfl
    rw [e, this]
    omega
  | false =>
    have := mulLen p 0
    have e : (Txt.mul p (if false = true then 1 else 0)) = Txt.mul p ((0 : Nat) : Int) := rfl
    rw [e, this]
    omega
theorem ext_eq (w p : Str) : Sg.ext w (.inr p) = .inr (("." : Str) ++ w ++ Txt.mul p (if (!decide (V.str p = V.str ".")) = true then 1 else 0)) := by
  show Sum.inr (("." : Str) ++ w ++ Txt.mul p (if p = "." then 0 else 1)) = _
  by_cases h : p = "."
  · rw [if_pos h, decide_eq_true (by rw [h])]
    rfl
  · rw [if_neg h, decide_eq_false (fun e => h (V.str.inj e))]
    rfl
theorem dot_len : (("." : Str)).length = 1 := by decide +kernel
theorem ext_ok {w p : Str} {n : Nat} (hw : w.length ≤ 8) (hp : p.length ≤ n) : ∃ q : Str, Sg.ext w (.inr p) = .inr q ∧ q.length ≤ n + 9 := by
  refine ⟨_, ext_eq w p, ?_⟩
  have h := mulLen01 p (!decide (V.str p = V.str "."))
  rw [len_app, len_app, dot_len]
  omega
theorem fold_ok {w : Str} {m n : Nat} (hw : w.length ≤ 8) (hm : m + 9 ≤ n) : ∀ {l acc : List (Key × V)}, KeyOk m l → KeyOk n acc → KeyOk n (l.foldl (fun a kv => putK a (Sg.ext w kv.1) kv.2) acc)
  | [], _, _, h => h
  | kv :: l, acc, hl, h => by
    obtain ⟨p, e, lp⟩ := hl kv (List.mem_cons_self ..)
    obtain ⟨q, eq, lq⟩ := ext_ok hw lp
    refine fold_ok hw hm (l := l) (fun y hy => hl y (List.mem_cons_of_mem _ hy)) ?_
    show KeyOk n (putK acc (Sg.ext w kv.1) kv.2)
    rw [e, eq]
    exact h.put (by omega)
theorem fold_len (w : Str) : ∀ (l acc : List (Key × V)), (l.foldl (fun a kv => putK a (Sg.ext w kv.1) kv.2) acc).length ≤ acc.length + l.length
  | [], _ => Nat.le_refl _
  | kv :: l, acc => by
    have h := fold_len w l (putK acc (Sg.ext w kv.1) kv.2)
    have h2 := putK_len acc (Sg.ext w kv.1) kv.2
    rw [List.length_cons]
    exact Nat.le_trans h (by omega)
theorem puts_ok : ∀ {g : Sg} {acc : List (Key × V)} {n : Nat}, g.tr.short → (∀ m ∈ g.tr.fields, 9 * m.2.depth + 10 ≤ n) → KeyOk n acc → KeyOk n (g.puts acc)
  | .nil, _, _, _, _, h => h
  | .cons w p s r, acc, n, sh, hb, h => by
    have e : (Sg.cons w p s r).tr.fields = (w, s.tr) :: r.tr.fields := rfl
    rw [e] at hb
    obtain ⟨hw, hs⟩ := Tr.short_mem sh (p := (w, s.tr)) (by rw [e]; exact List.mem_cons_self ..)
    have hr : r.tr.short := sh.2.2
    have h0 := hb (w, s.tr) (List.mem_cons_self ..)
    have sub : KeyOk (9 * s.tr.depth + 1) (s.puts [(.inr ".", .ref p)]) := puts_ok hs (fun m hm => by have := Tr.depth_lt hm; omega) (fun kv hk => by
      simp only [List.mem_cons, List.not_mem_nil, or_false] at hk
      rw [hk]
      exact ⟨".", rfl, by rw [dot_len]; omega⟩)
    exact puts_ok (g := r) hr (fun m hm => hb m (List.mem_cons_of_mem _ hm)) (fold_ok hw (by have : 9 * s.tr.depth + 10 ≤ n := h0; omega) sub h)
theorem puts_len : ∀ (g : Sg) (acc : List (Key × V)), (g.puts acc).length ≤ acc.length + g.tr.size
  | .nil, _ => Nat.le_refl _
  | .cons w p s r, acc => by
    have h1 := puts_len s [(.inr ".", .ref p)]
    have h2 := fold_len w (s.puts [(.inr ".", .ref p)]) acc
    have h3 := puts_len r ((s.puts [(.inr ".", .ref p)]).foldl (fun a kv => putK a (Sg.ext w kv.1) kv.2) acc)
    have e : (Sg.cons w p s r).tr.size = 1 + s.tr.size + r.tr.size := rfl
    have e2 : (Sg.cons w p s r).puts acc = r.puts ((s.puts [(.inr ".", .ref p)]).foldl (fun a kv => putK a (Sg.ext w kv.1) kv.2) acc) := rfl
    rw [e, e2]
    simp only [List.length_cons, List.length_nil] at h1
    omega
theorem app_size : ∀ (g h : Sg), (g.app h).tr.size = g.tr.size + h.tr.size
  | .nil, h => by show h.tr.size = 0 + h.tr.size; omega
  | .cons w p s r, h => by
    show 1 + s.tr.size + (r.app h).tr.size = 1 + s.tr.size + r.tr.size + h.tr.size
    rw [app_size r h]
    omega
theorem app_nil : ∀ g : Sg, g.app .nil = g
  | .nil => rfl
  | .cons w p s r => congrArg (Sg.cons w p s) (app_nil r)
theorem app_assoc : ∀ g h k : Sg, (g.app h).app k = g.app (h.app k)
  | .nil, _, _ => rfl
  | .cons w p s r, h, k => congrArg (Sg.cons w p s) (app_assoc r h k)
theorem ShL.right {Z : Addr → Prop} {C : Addr} {H : Hp} : ∀ {g h : Sg}, ShL Z C H (g.app h) → ShL Z C H h
  | .nil, _, h => h
  | .cons _ _ _ _, _, ⟨_, _, c⟩ => ShL.right c
theorem valV_at : ∀ {g1 : Sg} {w : Str} {p : Addr} {s r : Sg}, w ∉ g1.tr.fields.map (·.1) → valV (g1.app (.cons w p s r)).dict (.inr w) = some (.ref p)
  | .nil, w, p, s, r, _ => valV_pos rfl
  | .cons w0 p0 s0 r0, w, p, s, r, h => by
    have e : (Sg.cons w0 p0 s0 r0).tr.fields.map (·.1) = w0 :: r0.tr.fields.map (·.1) := rfl
    rw [e, List.mem_cons, not_or] at h
    show valV ((.inr w0, .ref p0) :: (r0.app (.cons w p s r)).dict) (.inr w) = _
    rw [valV_neg (fun z => h.1 (Sum.inr.inj z).symm)]
    exact valV_at h.2
theorem Sg.dict_keys : ∀ (g : Sg) (k : Key), (g.dict.any fun kv => decide (kv.1 = k)) = true → ∃ m ∈ g.tr.fields, k = .inr m.1
  | .nil, k, h => by simp [Sg.dict] at h
  | .cons w p s r, k, h => by
    have e : (Sg.cons w p s r).dict = (.inr w, .ref p) :: r.dict := rfl
    rw [e, List.any_cons, Bool.or_eq_true] at h
    rcases h with h | h
    · exact ⟨(w, s.tr), List.mem_cons_self .., (of_decide_eq_true h).symm⟩
    · obtain ⟨m, h1, h2⟩ := Sg.dict_keys r k h
      exact ⟨m, List.mem_cons_of_mem _ h1, h2⟩
theorem Sg.put_new {g : Sg} {w : Str} {v : V} (h : w ∉ g.tr.fields.map (·.1)) : putK g.dict (.inr w) v = g.dict ++ [(.inr w, v)] := by
  unfold putK
  rw [if_neg]
  intro z
  obtain ⟨m, h1, h2⟩ := g.dict_keys _ z
  exact h (List.mem_map.mpr ⟨m, h1, (Sum.inr.inj h2).symm⟩)
theorem Sg.dict_len : ∀ g : Sg, g.dict.length = g.tr.fields.length
  | .nil => rfl
  | .cons _ _ _ r => congrArg Nat.succ (Sg.dict_len r)
def sp_shape (K : PySem.W.Frag) (C B : Addr) (d : Nat) : Sp := fun vs H Q E => ∃ x y dx, vs = [.ref x, y] ∧ H x = some (.ins C dx []) ∧
  ((∃ t, good t ∧ t.depth < d ∧ y = .str t.text ∧ ∀ g H', g.tr = t → (∀ b o, H b = some o → b ≠ x → H' b = some o) → ShG (fun b => b = x ∨ H b = none) C H' x g → Q .non H') ∨
   (0 < d ∧ ((∃ z : Str, y = .str z ∧ z.length ≤ 100000 ∧ shapeOf z = none) ∨ NotStr K H y) ∧ ∀ e H', Same H H' → H e = none → H' e = some (.xd [("text", y)]) → E (.ref B) (some e) H'))
end Up
namespace Wb
open PySem PySem.Spec PyProof.Rows L2 Ub Up Uo
end Wb
namespace Vk
open PySem PySem.Spec PyProof.Rows L2 Ub
def obsL (as : List Addr) (fa : List He.Fa) (fn : List He.DefD) (pn : List He5.DefA) (ex : PySem.W.Frag → Bool) (g : Addr → Option Obj) : AlP := ((He.obsT fa fn [] (He.frT g as), exP ex pn (He.frT g as)), fnP pn (He.frT g as))
/-- in parts -/
theorem obsD_app {R : PySem.W.OpenRow} {M : Nat} {w : World} {as : List Addr} {fa1 fa2 : List He.Fa} {fn1 fn2 : List He.DefD}
    (h1 : ∀ os, (Ux.EndAt R M w os).map (fun s => He.obsD fa1 fn1 (He.frT (HandSHeadRun.getT s) as)) = some (He.valD fn1)) (h2 : ∀ os, (Ux.EndAt R M w os).map (fun s => He.obsD fa2 fn2 (He.frT (HandSHeadRun.getT s) as)) = some (He.valD fn2)) :
    ∀ os, (Ux.EndAt R M w os).map (fun s => He.obsD (fa1 ++ fa2) (fn1 ++ fn2) (He.frT (HandSHeadRun.getT s) as)) = some (He.valD (fn1 ++ fn2)) := by
  intro os
  have e1 := h1 os
  have e2 := h2 os
  revert e1 e2
  cases Ux.EndAt R M w os with
  | none => intro e1 _; exact nomatch e1
  | some s =>
    intro e1 e2
    have f1 : He.obsD fa1 fn1 (He.frT (HandSHeadRun.getT s) as) = He.valD fn1 := Option.some.inj e1
    have f2 : He.obsD fa2 fn2 (He.frT (HandSHeadRun.getT s) as) = He.valD fn2 := Option.some.inj e2
    refine congrArg some ?_
    unfold He.obsD He.valD at f1 f2 ⊢
    simp only [Prod.mk.injEq, Bool.and_eq_true] at f1 f2 ⊢
    obtain ⟨⟨a1, a2⟩, a3⟩ := f1
    obtain ⟨⟨b1, b2⟩, b3⟩ := f2
    refine ⟨⟨?_, ?_⟩, ?_⟩
    · rw [List.all_append, a1, b1]; rfl
    · rw [List.all_append, a2, b2]; rfl
    · rw [List.map_append, List.map_append, a3, b3]
theorem obsL_of {R : PySem.W.OpenRow} {M : Nat} {w : World} {as : List Addr} {fa : List He.Fa} {fn : List He.DefD} {pn : List He5.DefA} {ex : PySem.W.Frag → Bool}
    (h1 : ∀ os, (Ux.EndAt R M w os).map (fun s => He.obsD fa fn (He.frT (HandSHeadRun.getT s) as)) = some (He.valD fn))
    (h2 : ∀ os, (Ux.EndAt R M w os).map (fun s => (exP ex pn (He.frT (HandSHeadRun.getT s) as), fnP pn (He.frT (HandSHeadRun.getT s) as))) = some (true, pn.map He5.DefA.val)) :
    ∀ os, (Ux.EndAt R M w os).map (fun s => obsL as fa fn pn ex (HandSHeadRun.getT s)) = some (valP fn pn w) := by
  intro os
  have e1 := h1 os
  have e2 := h2 os
  revert e1 e2
  cases Ux.EndAt R M w os with
  | none => intro e1 _; exact nomatch e1
  | some s =>
    intro e1 e2
    have f1 : He.obsD fa fn (He.frT (HandSHeadRun.getT s) as) = He.valD fn := Option.some.inj e1
    have f2 : (exP ex pn (He.frT (HandSHeadRun.getT s) as), fnP pn (He.frT (HandSHeadRun.getT s) as)) = (true, pn.map He5.DefA.val) := Option.some.inj e2
    refine congrArg some ?_
    have g1 : exP ex pn (He.frT (HandSHeadRun.getT s) as) = true := congrArg Prod.fst f2
    have g2 : fnP pn (He.frT (HandSHeadRun.getT s) as) = pn.map He5.DefA.val := congrArg Prod.snd f2
    show (((He.obsD fa fn (He.frT (HandSHeadRun.getT s) as), ([] : List _)), exP ex pn (He.frT (HandSHeadRun.getT s) as)), fnP pn (He.frT (HandSHeadRun.getT s) as)) = _
    rw [f1, g1, g2]
    rfl
end Vk
namespace Ub
open PySem PySem.Spec PyProof.Rows L2
open Builtin Builtin.Str PySem.StrLaws
end Ub
namespace Up
open PySem PySem.Spec PyProof.Rows L2 Ub Ur Ug Ue
def Asc (z : Str) : Prop := ∀ c ∈ cs z, c < 128
theorem asc_app {a b : Str} (h : Asc a) (k : Asc b) : Asc (a ++ b) := fun c hc => by
  rw [cs_app] at hc
  rcases List.mem_append.mp hc with z | z
  · exact h c z
  · exact k c z
theorem let_small : ∀ c ∈ letters.cps.toList, c < 128 := by decide +kernel
theorem low_asc {z : Str} (h : Low z) : Asc z := fun c hc => let_small c (of_decide_eq_true (h c hc))
theorem word_asc {z : Str} (h : isWord z = true) : Asc z := low_asc (isWord_iff.mp h).2.2.1
def ascB (z : Str) : Bool := (cs z).all fun c => decide (c < 128)
theorem asc_of {z : Str} (h : ascB z = true) : Asc z := fun c hc => of_decide_eq_true (List.all_eq_true.mp h c hc)
def Tr.lows : Tr → Prop
  | .nil => True
  | .cons w t r => isWord w = true ∧ Tr.lows t ∧ Tr.lows r
theorem fineF_lows {p : Tr → Prop} (h : ∀ t, p t → Tr.lows t) : ∀ {n : Nat} {kn : List Str} {t : Tr}, FineF p n kn t → Tr.lows t
  | 0, _, _, hf => hf.elim
  | _ + 1, _, .nil, hf => hf.elim
  | n + 1, kn, .cons w t r, ⟨h1, _, h3, h4⟩ => ⟨h1, h t h3, by
    rcases h4 with rfl | h4
    · trivial
    · exact fineF_lows h h4⟩
theorem fine_lows : ∀ {f : Nat} {t : Tr}, Fine f t → Tr.lows t
  | 0, t, h => by
    have h : t = .nil := h
    rw [h]
    trivial
  | f + 1, t, h => by
    rcases h with h | h
    · rw [h]; trivial
    · exact fineF_lows (fun _ y => fine_lows y) h
theorem fcs_small : ∀ {t : Tr}, Tr.lows t → (∀ c ∈ fcs t, c < 128) ∧ ∀ c ∈ tcs t, c < 128
  | .nil, _ => ⟨(fun c hc => nomatch hc), fun c hc => by
    have e : c = 46 := by simpa [tcs, Tr.isNil] using hc
    rw [e]; decide⟩
  | .cons w t r, ⟨h1, h2, h3⟩ => by
    obtain ⟨_, a2⟩ := fcs_small h2
    obtain ⟨b1, _⟩ := fcs_small h3
    have hw := word_asc h1
    have k : ∀ c ∈ fcs (.cons w t r), c < 128 := fun c hc => by
      rw [fcs_cons, List.mem_append, List.mem_cons, List.mem_cons, List.mem_append] at hc
      rcases hc with hc | hc | hc | hc | hc
      · exact hw c hc
      · omega
      · omega
      · exact a2 c hc
      · by_cases hr : r.isNil = true
        · rw [if_pos hr] at hc
          exact nomatch hc
        · rw [if_neg hr, List.mem_cons, List.mem_cons] at hc
          rcases hc with hc | hc | hc
          · omega
          · omega
          · exact b1 c hc
    refine ⟨k, fun c hc => ?_⟩
    have e : tcs (.cons w t r) = 123 :: (fcs (.cons w t r) ++ [125]) := rfl
    rw [e, List.mem_cons, List.mem_append] at hc
    rcases hc with hc | hc | hc
    · omega
    · exact k c hc
    · have : c = 125 := by simpa using hc
      omega
theorem text_asc {f : Nat} {t : Tr} (h : Fine f t) : Asc t.text := fun c hc => by
  rw [cs_text] at hc
  exact (fcs_small (fine_lows h)).2 c hc
theorem same_mut {H H' : Hp} {p : Addr} {o : HO} (s : Same H H') (h : H p = none) : Same H (upd H' p o) := fun b x e => by
  rw [upd_ne (ne_of_none e h)]
  exact s b x e
end Up
namespace Ve
open PySem PySem.Spec PyProof.Rows L2 Ub Ur Ug Ue Up
def down (w p : Str) : Str := ("." : Str) ++ w ++ (if p = "." then ("" : Str) else p)
def fp : Tr → List (Str × Tr)
  | .nil => []
  | .cons w t r => ((("." : Str), t) :: fp t).map (fun m => (down w m.1, m.2)) ++ fp r
def paths (t : Tr) : List (Str × Tr) := (("." : Str), t) :: fp t
def gp : Sg → List (Str × Addr × Sg)
  | .nil => []
  | .cons w p s r => ((("." : Str), p, s) :: gp s).map (fun m => (down w m.1, m.2)) ++ gp r
def gpaths (x : Addr) (g : Sg) : List (Str × Addr × Sg) := (("." : Str), x, g) :: gp g
theorem gp_tr : ∀ g : Sg, (gp g).map (fun m => (m.1, m.2.2.tr)) = fp g.tr
  | .nil => rfl
  | .cons w p s r => by
    show (((("." : Str), p, s) :: gp s).map (fun m => (down w m.1, m.2)) ++ gp r).map _ = ((("." : Str), s.tr) :: fp s.tr).map _ ++ fp r.tr
    rw [List.map_append, gp_tr r, ← gp_tr s, List.map_cons, List.map_cons, List.map_cons, List.map_map, List.map_map]
    rfl
theorem gpaths_tr (x : Addr) (g : Sg) : (gpaths x g).map (fun m => (m.1, m.2.2.tr)) = paths g.tr := by
  show _ :: (gp g).map _ = _
  rw [gp_tr]
  rfl
theorem mul01 (p : Str) : Txt.mul p (if p = "." then 0 else 1) = (if p = "." then ("" : Str) else p) := by
  by_cases h : p = "."
  · rw [if_pos h, if_pos h, h]
    decide +kernel
  · rw [if_neg h, if_neg h]
    unfold Txt.mul
    simp
theorem ext_down (w p : Str) : Sg.ext w (.inr p) = .inr (down w p) := by
  show Sum.inr (("." : Str) ++ w ++ Txt.mul p (if p = "." then 0 else 1)) = _
  rw [mul01]
  rfl
theorem cs_down (w p : Str) : cs (down w p) = 46 :: (cs w ++ (if p = "." then [] else cs p)) := by
  unfold down
  rw [cs_app, cs_app, cs_dot]
  by_cases h : p = "."
  · rw [if_pos h, if_pos h]
    show [46] ++ cs w ++ [] = _
    simp
  · rw [if_neg h, if_neg h]
    simp
/-- a path begins with a dot -/
def Dot (p : Str) : Prop := ∃ r, cs p = 46 :: r
theorem dot_down (w p : Str) : Dot (down w p) := ⟨_, cs_down w p⟩
theorem dot_dot : Dot "." := ⟨[], cs_dot⟩
theorem fp_dot : ∀ t : Tr, ∀ m ∈ fp t, Dot m.1
  | .nil, m, h => nomatch h
  | .cons w t r, m, h => by
    rcases List.mem_append.mp h with h | h
    · obtain ⟨m', _, rfl⟩ := List.mem_map.mp h
      exact dot_down _ _
    · exact fp_dot r m h
theorem let_dot : isLet 46 = false := by decide +kernel
theorem tw_split {l r : List Nat} (h : ∀ c ∈ l, isLet c = true) (hr : r = [] ∨ ∃ q, r = 46 :: q) : (l ++ r).takeWhile isLet = l ∧ (l ++ r).drop l.length = r := by
  refine ⟨?_, by simp⟩
  induction l with
  | nil =>
    rcases hr with rfl | ⟨q, rfl⟩
    · rfl
    · show (46 :: q).takeWhile isLet = []
      rw [List.takeWhile_cons, let_dot]
      rfl
  | cons a l ih =>
    show ((a :: (l ++ r)).takeWhile isLet) = _
    rw [List.takeWhile_cons, h a (List.mem_cons_self ..), if_pos rfl, ih fun c hc => h c (List.mem_cons_of_mem _ hc)]
theorem down_inj {w w' p p' : Str} (hw : isWord w = true) (hw' : isWord w' = true) (hp : Dot p) (hp' : Dot p') (h : down w p = down w' p') : w = w' ∧ p = p' := by
  have e : cs (down w p) = cs (down w' p') := by rw [h]
  rw [cs_down, cs_down] at e
  injection e with _ e
  have tl : ∀ {p : Str}, Dot p → (if p = "." then [] else cs p) = [] ∨ ∃ q, (if p = "." then [] else cs p) = 46 :: q := fun {p} hp => by
    by_cases c : p = "."
    · rw [if_pos c]; exact .inl rfl
    · rw [if_neg c]; exact .inr hp
  obtain ⟨a1, a2⟩ := tw_split (isWord_low hw) (tl hp)
  obtain ⟨b1, b2⟩ := tw_split (isWord_low hw') (tl hp')
  have ew : cs w = cs w' := by rw [← a1, e, b1]
  refine ⟨cs_inj ew, ?_⟩
  have er : (if p = "." then [] else cs p) = (if p' = "." then [] else cs p') := by rw [← a2, e, ew, b2]
  by_cases c : p = "."
  · by_cases c' : p' = "."
    · rw [c, c']
    · rw [if_pos c, if_neg c'] at er
      obtain ⟨r, hr⟩ := hp'
      rw [hr] at er
      cases er
  · by_cases c' : p' = "."
    · rw [if_neg c, if_pos c'] at er
      obtain ⟨r, hr⟩ := hp
      rw [hr] at er
      cases er
    · rw [if_neg c, if_neg c'] at er
      exact cs_inj er
theorem down_ne {w p : Str} (hw : isWord w = true) : down w p ≠ "." := fun h => by
  have e : cs (down w p) = cs (".": Str) := by rw [h]
  rw [cs_down, cs_dot] at e
  injection e with _ e
  have : cs w = [] := (List.append_eq_nil_iff.mp e).1
  have l : w.length = 0 := by rw [← cs_len, this]; rfl
  have := (isWord_iff.mp hw).1
  omega
def W : Tr → Prop
  | .nil => True
  | .cons w t r => isWord w = true ∧ w ∉ r.fields.map (·.1) ∧ W t ∧ W r
theorem fineF_W {p : Tr → Prop} (hp : ∀ t, p t → W t) : ∀ {n : Nat} {kn : List Str} {t : Tr}, FineF p n kn t → W t
  | 0, _, _, hf => hf.elim
  | _ + 1, _, .nil, hf => hf.elim
  | n + 1, kn, .cons w t r, hf => by
    have hn := (fineF_fields hf).2
    obtain ⟨h1, h2, h3, h4⟩ := hf
    refine ⟨h1, ?_, hp t h3, ?_⟩
    · have e : (Tr.cons w t r).fields.map (·.1) = w :: r.fields.map (·.1) := rfl
      rw [e, List.nodup_cons] at hn
      exact hn.1
    · rcases h4 with rfl | h4
      · trivial
      · exact fineF_W hp h4
theorem fine_W : ∀ {f : Nat} {t : Tr}, Fine f t → W t
  | 0, t, h => by
    have e : t = .nil := h
    rw [e]
    trivial
  | f + 1, t, h => by
    rcases h with e | h
    · rw [e]; trivial
    · exact fineF_W (fun _ => fine_W) h
theorem good_W {t : Tr} (h : good t) : W t := fine_W h.1
/-- every path of the fields begins with one of their words -/
theorem fp_head : ∀ {t : Tr}, ∀ m ∈ fp t, ∃ w ∈ t.fields.map (·.1), ∃ p, Dot p ∧ m.1 = down w p
  | .nil, m, h => nomatch h
  | .cons w t r, m, h => by
    rcases List.mem_append.mp h with h | h
    · obtain ⟨m', hm, rfl⟩ := List.mem_map.mp h
      refine ⟨w, List.mem_cons_self .., m'.1, ?_, rfl⟩
      rcases List.mem_cons.mp hm with e | hm
      · rw [e]; exact dot_dot
      · exact fp_dot t _ hm
    · obtain ⟨w', hw, p, hp, e⟩ := fp_head m h
      exact ⟨w', List.mem_cons_of_mem _ hw, p, hp, e⟩
theorem W.word : ∀ {t : Tr}, W t → ∀ w ∈ t.fields.map (·.1), isWord w = true
  | .nil, _, w, h => nomatch h
  | .cons w0 t r, ⟨a, _, _, d⟩, w, h => by
    rcases List.mem_cons.mp h with e | h
    · rw [e]; exact a
    · exact W.word d w h
theorem dot_fresh {t : Tr} (h : W t) : ("." : Str) ∉ (fp t).map (·.1) := fun z => by
  obtain ⟨m, hm, e⟩ := List.mem_map.mp z
  obtain ⟨w, hw, p, _, e2⟩ := fp_head m hm
  exact down_ne (h.word w hw) (e2.symm.trans e)
theorem nodup_down {w : Str} (hw : isWord w = true) : ∀ {l : List Str}, (∀ p ∈ l, Dot p) → l.Nodup → (l.map (down w)).Nodup
  | [], _, _ => List.nodup_nil
  | p :: l, hd, hn => by
    obtain ⟨h1, h2⟩ := List.nodup_cons.mp hn
    refine List.nodup_cons.mpr ⟨fun z => ?_, nodup_down hw (fun q hq => hd q (List.mem_cons_of_mem _ hq)) h2⟩
    obtain ⟨q, hq, e⟩ := List.mem_map.mp z
    obtain ⟨_, e⟩ := down_inj hw hw (hd q (List.mem_cons_of_mem _ hq)) (hd p (List.mem_cons_self ..)) e
    rw [← e] at h1
    exact h1 hq
theorem fp_nodup : ∀ {t : Tr}, W t → ((fp t).map (·.1)).Nodup
  | .nil, _ => List.nodup_nil
  | .cons w t r, ⟨a, b, c, d⟩ => by
    have e : (fp (.cons w t r)).map (·.1) = ((("." : Str) :: (fp t).map (·.1)).map (down w)) ++ (fp r).map (·.1) := by
      show (((("." : Str), t) :: fp t).map (fun m => (down w m.1, m.2)) ++ fp r).map (·.1) = _
      rw [List.map_append, List.map_map, List.map_cons, List.map_cons, List.map_map]
      rfl
    rw [e]
    have dt : ∀ p ∈ ("." : Str) :: (fp t).map (·.1), Dot p := fun p hp => by
      rcases List.mem_cons.mp hp with e | hp
      · rw [e]; exact dot_dot
      · obtain ⟨m, hm, rfl⟩ := List.mem_map.mp hp
        exact fp_dot t m hm
    refine List.nodup_append.mpr ⟨nodup_down a dt (List.nodup_cons.mpr ⟨dot_fresh c, fp_nodup c⟩), fp_nodup d, fun p hp q hq e2 => ?_⟩
    obtain ⟨p', hp', rfl⟩ := List.mem_map.mp hp
    obtain ⟨m, hm, rfl⟩ := List.mem_map.mp hq
    obtain ⟨w', hw', q', hq', e3⟩ := fp_head m hm
    obtain ⟨e4, _⟩ := down_inj a (d.word w' hw') (dt p' hp') hq' (e2.trans e3)
    rw [e4] at b
    exact b hw'
theorem paths_nodup {t : Tr} (h : W t) : ((paths t).map (·.1)).Nodup := List.nodup_cons.mpr ⟨dot_fresh h, fp_nodup h⟩
def ent (m : Str × Addr × Sg) : Key × V := (.inr m.1, .ref m.2.1)
theorem put_fresh {kvs : List (Key × V)} {k : Key} {v : V} (h : k ∉ kvs.map (·.1)) : putK kvs k v = kvs ++ [(k, v)] := by
  unfold putK
  rw [if_neg]
  intro z
  obtain ⟨kv, h1, h2⟩ := List.any_eq_true.mp z
  exact h (List.mem_map.mpr ⟨kv, h1, of_decide_eq_true h2⟩)
theorem fold_fresh {w : Str} : ∀ {l : List (Str × Addr × Sg)} {acc : List (Key × V)}, (acc.map (·.1) ++ l.map fun m => (Sum.inr (down w m.1) : Key)).Nodup →
    (l.map ent).foldl (fun a kv => putK a (Sg.ext w kv.1) kv.2) acc = acc ++ (l.map fun m => (down w m.1, m.2)).map ent
  | [], acc, _ => by simp
  | m :: l, acc, h => by
    have h' : (acc.map (·.1) ++ ((Sum.inr (down w m.1) : Key) :: l.map fun m => (Sum.inr (down w m.1) : Key))).Nodup := h
    have hf : (Sum.inr (down w m.1) : Key) ∉ acc.map (·.1) := fun z => (List.nodup_append.mp h').2.2 _ z _ (List.mem_cons_self ..) rfl
    show (l.map ent).foldl _ (putK acc (Sg.ext w (.inr m.1)) (.ref m.2.1)) = _
    rw [ext_down, put_fresh hf, fold_fresh (w := w) (l := l) (acc := acc ++ [(Sum.inr (down w m.1), V.ref m.2.1)])]
    · simp [ent]
    · rw [List.map_append, List.append_assoc]
      exact h'
theorem inr_nodup : ∀ {l : List Str}, l.Nodup → (l.map fun p => (Sum.inr p : Key)).Nodup
  | [], _ => List.nodup_nil
  | p :: l, h => by
    obtain ⟨a, b⟩ := List.nodup_cons.mp h
    refine List.nodup_cons.mpr ⟨fun z => ?_, inr_nodup b⟩
    obtain ⟨q, hq, e⟩ := List.mem_map.mp z
    rw [Sum.inr.inj e] at hq
    exact a hq
theorem gp_keys (g : Sg) : (gp g).map (·.1) = (fp g.tr).map (·.1) := by
  rw [← gp_tr, List.map_map]
  rfl
theorem puts_eq : ∀ {g : Sg} {acc : List (Key × V)}, W g.tr → (acc.map (·.1) ++ ((gp g).map fun m => (Sum.inr m.1 : Key))).Nodup → g.puts acc = acc ++ (gp g).map ent
  | .nil, acc, _, _ => by show acc = acc ++ []; simp
  | .cons w p s r, acc, h, hn => by
    obtain ⟨a, b, c, d⟩ := h
    have e1 : gp (.cons w p s r) = (gpaths p s).map (fun m => (down w m.1, m.2)) ++ gp r := rfl
    have hs : s.puts [(.inr ".", .ref p)] = (gpaths p s).map ent := by
      rw [puts_eq (g := s) c]
      · rfl
      · have := inr_nodup (paths_nodup c)
        have e : (paths s.tr).map (·.1) = ("." : Str) :: (gp s).map (·.1) := by rw [gp_keys]; rfl
        rw [e] at this
        have e2 : ((gp s).map fun m => (Sum.inr m.1 : Key)) = ((gp s).map (·.1)).map fun p => (Sum.inr p : Key) := by rw [List.map_map]; rfl
        rw [e2]
        exact this
    show r.puts ((s.puts [(.inr ".", .ref p)]).foldl (fun a kv => putK a (Sg.ext w kv.1) kv.2) acc) = _
    rw [e1, List.map_append, ← List.append_assoc] at hn
    have h1 := (List.nodup_append.mp hn).1
    rw [List.map_map] at h1
    rw [hs, fold_fresh h1, puts_eq d]
    · rw [e1, List.map_append, List.append_assoc]
    · rw [List.map_append]
      have e3 : List.map (·.1) (((gpaths p s).map fun m => (down w m.1, m.2)).map ent) = ((gpaths p s).map fun m => (down w m.1, m.2)).map fun m => (Sum.inr m.1 : Key) := by rw [List.map_map]; rfl
      rw [e3]
      exact hn
theorem spots_eq {g : Sg} (x : Addr) (h : W g.tr) : g.spots x = (gpaths x g).map ent := by
  show g.puts [(.inr ".", .ref x)] = _
  rw [puts_eq h]
  · rfl
  · have := inr_nodup (paths_nodup h)
    have e : (paths g.tr).map (·.1) = ("." : Str) :: (gp g).map (·.1) := by rw [gp_keys]; rfl
    rw [e] at this
    have e2 : ((gp g).map fun m => (Sum.inr m.1 : Key)) = ((gp g).map (·.1)).map fun p => (Sum.inr p : Key) := by rw [List.map_map]; rfl
    rw [e2]
    exact this
theorem gpaths_keys (x : Addr) (g : Sg) : (gpaths x g).map (·.1) = (paths g.tr).map (·.1) := by
  rw [← gpaths_tr x, List.map_map]
  rfl
theorem val_at : ∀ {l : List (Str × Addr × Sg)}, (l.map (·.1)).Nodup → ∀ m ∈ l, valV (l.map ent) (.inr m.1) = some (.ref m.2.1)
  | [], _, m, h => nomatch h
  | m0 :: l, hn, m, h => by
    obtain ⟨a, b⟩ := List.nodup_cons.mp hn
    rcases List.mem_cons.mp h with e | h
    · rw [e]; exact valV_pos rfl
    · rw [List.map_cons, valV_neg, val_at b m h]
      intro z
      exact a (List.mem_map.mpr ⟨m, h, (Sum.inr.inj z).symm⟩)
theorem val_no {p : Str} : ∀ {l : List (Str × Addr × Sg)}, p ∉ l.map (·.1) → valV (l.map ent) (.inr p) = none
  | [], _ => rfl
  | m0 :: l, h => by
    rw [List.map_cons, List.mem_cons, not_or] at h
    rw [List.map_cons, valV_neg (fun z => h.1 (Sum.inr.inj z).symm), val_no h.2]
theorem sh_at {Z : Addr → Prop} {C : Addr} {H : Hp} : ∀ {g : Sg}, ShL Z C H g → ∀ m ∈ gp g, ShG Z C H m.2.1 m.2.2
  | .nil, _, m, h => nomatch h
  | .cons w p s r, ⟨a, b, c⟩, m, h => by
    rcases List.mem_append.mp h with h | h
    · obtain ⟨m', hm, rfl⟩ := List.mem_map.mp h
      rcases List.mem_cons.mp hm with e | hm
      · rw [e]; exact ⟨a, b⟩
      · exact sh_at b m' hm
    · exact sh_at c m h
theorem shg_at {Z : Addr → Prop} {C : Addr} {H : Hp} {x : Addr} {g : Sg} (h : ShG Z C H x g) : ∀ m ∈ gpaths x g, ShG Z C H m.2.1 m.2.2 := fun m hm => by
  rcases List.mem_cons.mp hm with e | hm
  · rw [e]; exact h
  · exact sh_at h.2 m hm
theorem fp_mem : ∀ {t : Tr}, ∀ m ∈ fp t, ∃ f ∈ t.fields, ∃ m' ∈ paths f.2, m = (down f.1 m'.1, m'.2)
  | .nil, m, h => nomatch h
  | .cons w t r, m, h => by
    rcases List.mem_append.mp h with h | h
    · obtain ⟨m', hm, rfl⟩ := List.mem_map.mp h
      exact ⟨(w, t), List.mem_cons_self .., m', hm, rfl⟩
    · obtain ⟨f, hf, m', hm, e⟩ := fp_mem m h
      exact ⟨f, List.mem_cons_of_mem _ hf, m', hm, e⟩
structure PGood (d : Nat) (m : Str × Tr) : Prop where
  g : good m.2
  dp : m.2.depth ≤ d
  l : m.1.length ≤ 9 * d + 1
  a : Asc m.1
theorem paths_good : ∀ (n : Nat) {t : Tr}, t.depth ≤ n → good t → ∀ m ∈ paths t, PGood n m := by
  intro n
  have base : ∀ {t : Tr} {n : Nat}, t.depth ≤ n → good t → PGood n (("." : Str), t) := fun hd hg => ⟨hg, hd, by show (("." : Str)).length ≤ _; rw [dot_len]; omega, (show Asc ("." : Str) from asc_of (by decide +kernel))⟩
  induction n with
  | zero =>
    intro t hd hg m hm
    rcases List.mem_cons.mp hm with e | hm
    · rw [e]; exact base hd hg
    · obtain ⟨f, hf, _⟩ := fp_mem m hm
      have := Tr.depth_lt hf
      omega
  | succ n ih =>
    intro t hd hg m hm
    rcases List.mem_cons.mp hm with e | hm
    · rw [e]; exact base hd hg
    · obtain ⟨f, hf, m', hm', rfl⟩ := fp_mem m hm
      have hl := Tr.depth_lt hf
      obtain ⟨gf, gw⟩ := (good_fields hg).1 f hf
      obtain ⟨a, b, c, d⟩ := ih (t := f.2) (by omega) gf m' hm'
      have l8 := (isWord_iff.mp gw).2.1
      refine ⟨a, (show m'.2.depth ≤ n + 1 by omega), ?_, ?_⟩
      · show (down f.1 m'.1).length ≤ _
        unfold down
        rw [len_app, len_app, dot_len]
        split
        · show 1 + f.1.length + 0 ≤ _
          omega
        · omega
      · show Asc (down f.1 m'.1)
        unfold down
        refine asc_app (asc_app (asc_of (by decide +kernel)) (word_asc gw)) ?_
        split
        · exact asc_of (by decide +kernel)
        · exact d
end Ve
namespace Va
open PySem PySem.Spec PyProof.Rows L2 GenW Ub Ur Ug Ue Up
def pr (L I d : Addr) (n : Nat) (F : Nat → Value → Prop) : Protocol := fun m s₀ v s kap =>
  (∃ i, i + m + 1 = n ∧ F i v) ∧ GenSince L [I] s₀ s ∧ (∀ s'' : Shared, (∀ b, b = L ∨ b = I ∨ b = d → ∀ o, s.heap.get? b = some o → s''.heap.get? b = some o) → kap (.send .none) s'')
abbrev fin (L I : Addr) : GenEnd := fun n s₀ r s₁ => ((r = .ok (.ret .none) ∨ r = .ok .next) ∧ (n = 0 ∧ GenSince L [I] s₀ s₁)) ∨ ∃ e, r = .error e ∧ False
end Va
namespace Ve
open PySem PySem.Spec PyProof.Rows L2 Ub Ur Ug Ue Up Uo
/-- a class whose instances may be asked isinstance -/
structure TyC (K : PySem.W.Frag) (C : Addr) : Prop where
  ha : PySem.W.findIn K (.ref C) "__class__" = some (some (.builtin "object.__class__"))
  hn : PySem.W.specialIn K (.builtin "object.__class__") "__get__" = some (some (.builtin "getset_descriptor.__get__"))
  ht : PySem.W.takesIn K (.builtin "object.__class__") = some true
  hm : PySem.W.mroIn K C (.type "object") = some true
  kit : PySem.W.kitOne K (.ref C) (.ref C) = some true
theorem tyCB_ok {K : PySem.W.Frag} {C : Addr} (h : tyCB K C = true) : TyC K C := by
  unfold tyCB at h
  simp only [Bool.and_eq_true, decide_eq_true_eq] at h
  exact ⟨h.1, h.2.1, h.2.2.1, h.2.2.2.1, h.2.2.2.2⟩
abbrev pks (t : Tr) : List Str := (paths t).map (·.1)
/-- what is no path of a tree -/
def NoP (K : PySem.W.Frag) (H : Hp) (t : Tr) (y : V) : Prop := NotStr K H y ∨ ∃ z : Str, y = .str z ∧ z ∉ pks t
def sp_get (K : PySem.W.Frag) (C B : Addr) : Sp := fun vs H Q E => ∃ x g Z y, vs = [.ref x, y] ∧ ShG Z C H x g ∧ good g.tr ∧
  ((∃ m ∈ gpaths x g, y = .str m.1 ∧ Q (.ref m.2.1) H) ∨ (NoP K H g.tr y ∧ ∀ e H', Same H H' → H e = none → H' e = some (.xd [("path", y)]) → E (.ref B) (some e) H'))
def sp_con (K : PySem.W.Frag) (C : Addr) : Sp := fun vs H Q _ => ∃ x g Z y, vs = [.ref x, y] ∧ ShG Z C H x g ∧ good g.tr ∧ ((∃ z : Str, y = .str z ∧ Q (.bl (decide (z ∈ pks g.tr))) H) ∨ (NotStr K H y ∧ Q (.bl false) H))
theorem gp_len : ∀ g : Sg, (gp g).length = g.tr.size
  | .nil => rfl
  | .cons w p s r => by
    show ((((("." : Str), p, s) :: gp s).map fun m => (down w m.1, m.2)) ++ gp r).length = 1 + s.tr.size + r.tr.size
    rw [List.length_append, List.length_map, List.length_cons, gp_len s, gp_len r]
    omega
theorem mut_tups {H : Hp} {D : Addr} {xs ys : List V} (h : H D = some (.lst xs)) : ∀ c zs, H c = some (.tup zs) → (upd H D (.lst ys)) c = some (.tup zs) := fun c zs e => by
  rw [upd_ne (fun z => by rw [z, h] at e; cases e)]
  exact e
end Ve
namespace Up
open PySem PySem.Spec PyProof.Rows L2 Ub Ur Ug Ue
theorem fineF_of {fine : Tr → Prop} : ∀ (l : List (Str × Tr)) (n : Nat) (known : List Str), l ≠ [] → l.length ≤ n → (∀ m ∈ l, fine m.2 ∧ isWord m.1 = true ∧ m.1 ∉ known) → (l.map (·.1)).Nodup → FineF fine n known (Tr.ofFields l)
  | [], _, _, h, _, _, _ => absurd rfl h
  | _ :: _, 0, _, _, h, _, _ => by simp at h
  | (w, t) :: l, n + 1, known, _, hl, hm, hn => by
    obtain ⟨h1, h2, h3⟩ := hm (w, t) List.mem_cons_self
    rw [List.map_cons, List.nodup_cons] at hn
    refine ⟨h2, h3, h1, ?_⟩
    cases l with
    | nil => exact .inl rfl
    | cons m l =>
      refine .inr (fineF_of (m :: l) n (known ++ [w]) (by simp) (by simp at hl ⊢; omega) (fun y hy => ?_) hn.2)
      obtain ⟨g1, g2, g3⟩ := hm y (List.mem_cons_of_mem _ hy)
      refine ⟨g1, g2, fun z => ?_⟩
      rcases List.mem_append.mp z with z | z
      · exact g3 z
      · have e : y.1 = w := by simpa using z
        exact hn.1 (List.mem_map.mpr ⟨y, hy, e⟩)
theorem fineF_mono' {p q : Tr → Prop} : ∀ {n : Nat} {kn : List Str} {t : Tr}, (∀ m ∈ t.fields, p m.2 → q m.2) → FineF p n kn t → FineF q n kn t
  | 0, _, _, _, hf => hf.elim
  | _ + 1, _, .nil, _, hf => hf.elim
  | n + 1, kn, .cons w t r, h, ⟨h1, h2, h3, h4⟩ => ⟨h1, h2, h (w, t) (List.mem_cons_self ..) h3, h4.imp (fun z => z) fun z => fineF_mono' (fun m hm => h m (List.mem_cons_of_mem _ hm)) z⟩
theorem depth0 {t : Tr} (h : t.depth = 0) : t = .nil := by
  cases t with
  | nil => rfl
  | cons w t r =>
    exfalso
    have : (Tr.cons w t r).depth = 1 + (Tr.cons w t r).sdep := rfl
    omega
theorem fine_down : ∀ (m n : Nat) (t : Tr), Fine n t → t.depth ≤ m → Fine m t
  | 0, n, t, _, hd => depth0 (by omega)
  | m + 1, 0, t, h, _ => .inl h
  | m + 1, n + 1, t, h, hd => by
    rcases h with h | h
    · exact .inl h
    · exact .inr (fineF_mono' (fun y hy hf => fine_down m n y.2 hf (by have := Tr.depth_lt hy; omega)) h)
theorem fine_up {m n : Nat} {t : Tr} (h : Fine m t) (hm : m ≤ n) : Fine n t := fine_down n m t h (Nat.le_trans (fine_has m t h).1 hm)
def Kn (N : List Addr) (H H' : Hp) : Prop := ∀ b o, H b = some o → b ∉ N → H' b = some o
theorem Kn.trans {N : List Addr} {H H1 H2 : Hp} (a : Kn N H H1) (b : Kn N H1 H2) : Kn N H H2 := fun c o h n => b c o (a c o h n) n
theorem Kn.of {N : List Addr} {H H1 : Hp} (a : Same H H1) : Kn N H H1 := fun c o h _ => a c o h
theorem Kn.kp {N : List Addr} {st g l : Addr} {H H1 : Hp} (a : Kp st g l H H1) (h1 : st ∈ N) (h2 : g ∈ N) (h3 : l ∈ N) : Kn N H H1 := fun c o h n => a c o h (fun e => n (e ▸ h1)) (fun e => n (e ▸ h2)) (fun e => n (e ▸ h3))
theorem Kn.upd {N : List Addr} {H : Hp} {p : Addr} {o : HO} (h : p ∈ N) : Kn N H (upd H p o) := fun c x e n => by
  rw [upd_ne (fun z : c = p => n (by rw [z]; exact h))]
  exact e
/-- a def's new object may change -/
theorem Kn.mut {N : List Addr} {H H' : Hp} {p : Addr} {o : HO} (k : Kn N H H') (h : H p = none) : Kn N H (L2.upd H' p o) := fun c x e n => by
  rw [upd_ne (ne_of_none e h)]
  exact k c x e n
/-- what is drawn with: the state, the room, the pool -/
structure Lt (H : Hp) (st g l rm pl : Addr) (r p : Nat) (po : List (V × Tr)) : Prop where
  S : StAt H st g l
  hr : H rm = some (.lst [.int (r : Nat), .int (p : Nat)])
  hp : H pl = some (.lst (po.map (·.1)))
  po : ∀ m ∈ po, TrAt H m.2 m.1 ∧ Fine 3 m.2
  n1 : rm ≠ st
  n2 : rm ≠ g
  n3 : rm ≠ l
  n4 : pl ≠ st
  n5 : pl ≠ g
  n6 : pl ≠ l
  n7 : rm ≠ pl
/-- tuples stand where what changes are lists -/
theorem tups_of {N : List Addr} {H H' : Hp} (k : Kn N H H') (hN : ∀ b ∈ N, ∃ xs, H b = some (.lst xs)) : ∀ c xs, H c = some (.tup xs) → H' c = some (.tup xs) := fun c xs e => k c _ e fun z => by
  obtain ⟨ys, h⟩ := hN c z
  rw [h] at e
  cases e
theorem Lt.lists {H : Hp} {st g l rm pl : Addr} {r p : Nat} {po : List (V × Tr)} (L : Lt H st g l rm pl r p po) : ∀ b ∈ [st, g, l, rm, pl], ∃ xs, H b = some (.lst xs) := fun b hb => by
  obtain ⟨⟨_, _, _, _, h1, h2, h3, _⟩, _⟩ := L.S
  simp only [List.mem_cons, List.not_mem_nil, or_false] at hb
  rcases hb with rfl | rfl | rfl | rfl | rfl
  · exact ⟨_, h1⟩
  · exact ⟨_, h2⟩
  · exact ⟨_, h3⟩
  · exact ⟨_, L.hr⟩
  · exact ⟨_, L.hp⟩
theorem Lt.same {H H' : Hp} {st g l rm pl : Addr} {r p : Nat} {po : List (V × Tr)} (L : Lt H st g l rm pl r p po) (s : Same H H') : Lt H' st g l rm pl r p po :=
  ⟨L.S.same s, s _ _ L.hr, s _ _ L.hp, fun m hm => ⟨(L.po m hm).1.same s, (L.po m hm).2⟩, L.n1, L.n2, L.n3, L.n4, L.n5, L.n6, L.n7⟩
theorem Lt.kp {H H' : Hp} {st g l rm pl : Addr} {r p : Nat} {po : List (V × Tr)} (L : Lt H st g l rm pl r p po) (S : StAt H' st g l) (k : Kp st g l H H') : Lt H' st g l rm pl r p po :=
  ⟨S, k _ _ L.hr L.n1 L.n2 L.n3, k _ _ L.hp L.n4 L.n5 L.n6, fun m hm => ⟨(L.po m hm).1.tups (tups_of (Kn.kp (N := [st, g, l, rm, pl]) k (by simp) (by simp) (by simp)) L.lists), (L.po m hm).2⟩, L.n1, L.n2, L.n3, L.n4, L.n5, L.n6, L.n7⟩
/-- the room changes -/
theorem Lt.room {H : Hp} {st g l rm pl : Addr} {r p r' p' : Nat} {po : List (V × Tr)} (L : Lt H st g l rm pl r p po) : Lt (upd H rm (.lst [.int (r' : Nat), .int (p' : Nat)])) st g l rm pl r' p' po :=
  ⟨L.S.upd L.n1 L.n2 L.n3, upd_same, by rw [upd_ne L.n7.symm]; exact L.hp, fun m hm => ⟨(L.po m hm).1.tups (tups_of (Kn.upd (N := [st, g, l, rm, pl]) (by simp)) L.lists), (L.po m hm).2⟩, L.n1, L.n2, L.n3, L.n4, L.n5, L.n6, L.n7⟩
/-- the pool grows -/
theorem Lt.pool {H : Hp} {st g l rm pl : Addr} {r p : Nat} {po : List (V × Tr)} (L : Lt H st g l rm pl r p po) {v : V} {t : Tr} (ht : TrAt H t v) (hf : Fine 3 t) : Lt (upd H pl (.lst (po.map (·.1) ++ [v]))) st g l rm pl r p (po ++ [(v, t)]) := by
  have tu := tups_of (Kn.upd (N := [st, g, l, rm, pl]) (o := .lst (po.map (·.1) ++ [v])) (show pl ∈ [st, g, l, rm, pl] by simp)) L.lists
  refine ⟨L.S.upd L.n4 L.n5 L.n6, by rw [upd_ne L.n7]; exact L.hr, by rw [upd_same, List.map_append]; rfl, fun m hm => ?_, L.n1, L.n2, L.n3, L.n4, L.n5, L.n6, L.n7⟩
  rcases List.mem_append.mp hm with hm | hm
  · exact ⟨(L.po m hm).1.tups tu, (L.po m hm).2⟩
  · have e : m = (v, t) := by simpa using hm
    rw [e]
    exact ⟨ht.tups tu, hf⟩
/-- an object of one's own changes -/
theorem Lt.mut {H : Hp} {st g l rm pl b : Addr} {r p : Nat} {po : List (V × Tr)} {xs : List V} {o : HO} (L : Lt H st g l rm pl r p po) (hb : H b = some (.lst xs)) (n : b ∉ [st, g, l, rm, pl]) : Lt (upd H b o) st g l rm pl r p po := by
  simp only [List.mem_cons, List.not_mem_nil, or_false, not_or] at n
  obtain ⟨n1, n2, n3, n4, n5⟩ := n
  have tu : ∀ c ys, H c = some (.tup ys) → (upd H b o) c = some (.tup ys) := fun c ys e => by
    rw [upd_ne (fun z => by rw [z, hb] at e; cases e)]
    exact e
  exact ⟨L.S.upd n1 n2 n3, by rw [upd_ne (Ne.symm n4)]; exact L.hr, by rw [upd_ne (Ne.symm n5)]; exact L.hp, fun m hm => ⟨(L.po m hm).1.tups tu, (L.po m hm).2⟩, L.n1, L.n2, L.n3, L.n4, L.n5, L.n6, L.n7⟩
theorem Lt.fresh {H : Hp} {st g l rm pl b : Addr} {r p : Nat} {po : List (V × Tr)} (L : Lt H st g l rm pl r p po) (hb : H b = none) : b ∉ [st, g, l, rm, pl] := fun z => by
  obtain ⟨xs, e⟩ := L.lists b z
  rw [hb] at e
  cases e
def sp_ltree (d : Nat) : Sp := fun vs H Q _ => ∃ (st g l rm pl : Addr) (f r p : Nat) (po : List (V × Tr)), vs = [.ref st, .int (f : Nat), .ref rm, .ref pl] ∧ f < d ∧ 1 ≤ f ∧ f ≤ 3 ∧ 1 ≤ r ∧ 1 ≤ p ∧ p ≤ 5 ∧ po.length + r ≤ 20 ∧ Lt H st g l rm pl r p po ∧
  ∀ t v H' r' p' po', Lt H' st g l rm pl r' p' po' → Kn [st, g, l, rm, pl] H H' → TrAt H' t v → Fine f t → t.isNil = false → r' + t.recs = r → p' + t.plains = p → po'.length + r' + 1 ≤ po.length + r → Q v H'
def sumR (l : List (Str × Tr)) : Nat := (l.map fun m => m.2.recs).sum
def sumP (l : List (Str × Tr)) : Nat := (l.map fun m => m.2.plains).sum
theorem recs_of {l : List (Str × Tr)} (h : l ≠ []) : (Tr.ofFields l).recs = 1 + sumR l ∧ (Tr.ofFields l).plains = sumP l ∧ (Tr.ofFields l).isNil = false := by
  cases l with
  | nil => exact absurd rfl h
  | cons m l =>
    have e1 := Tr.srec_eq (Tr.ofFields (m :: l))
    have e2 := Tr.spla_eq (Tr.ofFields (m :: l))
    rw [Tr.fields_of] at e1 e2
    exact ⟨congrArg (1 + ·) e1, e2, rfl⟩
theorem sum_snoc (l : List (Str × Tr)) (m : Str × Tr) : sumR (l ++ [m]) = sumR l + m.2.recs ∧ sumP (l ++ [m]) = sumP l + m.2.plains := by
  unfold sumR sumP
  simp
/-- what the loop keeps -/
structure LtI (H0 H : Hp) (st g l rm pl fl : Addr) (f r0 p0 po0 : Nat) (r p : Nat) (po : List (V × Tr)) (fs : List (Str × Tr)) (ps : List V) : Prop where
  lt : Lt H st g l rm pl r p po
  kn : Kn [st, g, l, rm, pl] H0 H
  hf : H fl = some (.lst ps)
  nf : fl ∉ [st, g, l, rm, pl]
  nw : H0 fl = none
  at_ : FsAt H (.ofFields fs) ps
  ok : ∀ m ∈ fs, Fine (f - 1) m.2 ∧ isWord m.1 = true
  nd : (fs.map (·.1)).Nodup
  sr : r + sumR fs + 1 = r0
  sp : p + sumP fs = p0
  sl : po.length + r + 1 ≤ po0 + r0
theorem LtI.same {H0 H H' : Hp} {st g l rm pl fl : Addr} {f r0 p0 po0 : Nat} {r p : Nat} {po : List (V × Tr)} {fs : List (Str × Tr)} {ps : List V} (I : LtI H0 H st g l rm pl fl f r0 p0 po0 r p po fs ps) (s : Same H H') : LtI H0 H' st g l rm pl fl f r0 p0 po0 r p po fs ps :=
  ⟨I.lt.same s, I.kn.trans (Kn.of s), s _ _ I.hf, I.nf, I.nw, I.at_.same s, I.ok, I.nd, I.sr, I.sp, I.sl⟩
theorem LtI.tups {H0 H : Hp} {st g l rm pl fl : Addr} {f r0 p0 po0 : Nat} {r p : Nat} {po : List (V × Tr)} {fs : List (Str × Tr)} {ps : List V} (I : LtI H0 H st g l rm pl fl f r0 p0 po0 r p po fs ps) {H' : Hp} (k : Kn [st, g, l, rm, pl] H H') : ∀ c xs, H c = some (.tup xs) → H' c = some (.tup xs) := tups_of k I.lt.lists
theorem LtI.kp {H0 H H' : Hp} {st g l rm pl fl : Addr} {f r0 p0 po0 : Nat} {r p : Nat} {po : List (V × Tr)} {fs : List (Str × Tr)} {ps : List V} (I : LtI H0 H st g l rm pl fl f r0 p0 po0 r p po fs ps) (S : StAt H' st g l) (k : Kp st g l H H') : LtI H0 H' st g l rm pl fl f r0 p0 po0 r p po fs ps := by
  have k' : Kn [st, g, l, rm, pl] H H' := Kn.kp k (by simp) (by simp) (by simp)
  exact ⟨I.lt.kp S k, I.kn.trans k', k' _ _ I.hf I.nf, I.nf, I.nw, I.at_.tups (I.tups k'), I.ok, I.nd, I.sr, I.sp, I.sl⟩
/-- the drawing goes on below -/
theorem LtI.go {H0 H H' : Hp} {st g l rm pl fl : Addr} {f r0 p0 po0 : Nat} {r p : Nat} {po : List (V × Tr)} {fs : List (Str × Tr)} {ps : List V} (I : LtI H0 H st g l rm pl fl f r0 p0 po0 r p po fs ps) {r' p' : Nat} {po' : List (V × Tr)} (L : Lt H' st g l rm pl r' p' po') (k : Kn [st, g, l, rm, pl] H H') : Kn [st, g, l, rm, pl] H0 H' ∧ H' fl = some (.lst ps) ∧ FsAt H' (.ofFields fs) ps :=
  ⟨I.kn.trans k, k _ _ I.hf I.nf, I.at_.tups (I.tups k)⟩
theorem fm_filter {po : List (V × Tr)} (c : V × Tr → Bool) : (po.filterMap fun m => if c m = true then some m.1 else none) = (po.filter c).map (·.1) := by
  induction po with
  | nil => rfl
  | cons m r ih =>
    rw [List.filterMap_cons, List.filter_cons]
    by_cases h : c m = true
    · rw [if_pos h, if_pos h, List.map_cons, ih]
    · rw [if_neg h, if_neg h, ih]
theorem at_map {po : List (V × Tr)} {j : Nat} {x : V} {m : V × Tr} (hx : (po.map (·.1))[j]? = some x) (hm : po[j]? = some m) : x = m.1 := by
  rw [List.getElem?_map, hm] at hx
  exact (Option.some.inj hx).symm
/-- an if whose test is known -/
theorem ifT {tt : TT} {a b : TS} {D : Ends} {σ : L2.St} {H : Hp} (ht : ∀ Q : Bool → Hp → Prop, Q true H → tt σ H Q) (h : a D σ H) : tIfS tt a b D σ H := ht _ (iteT h)
theorem ifF {tt : TT} {a b : TS} {D : Ends} {σ : L2.St} {H : Hp} (ht : ∀ Q : Bool → Hp → Prop, Q false H → tt σ H Q) (h : b D σ H) : tIfS tt a b D σ H := ht _ (iteF h)
theorem FsAt.len2 {H : Hp} {l : List (Str × Tr)} {ps : List V} (h : FsAt H (.ofFields l) ps) : ps.length = l.length := by rw [h.len, Tr.fields_of]
theorem no_ltree {P : Program} {w : World} {K : PySem.W.Frag} {mg : Str → Option Value} {base : Heap} {k : Nat} {f : Addr} {fd : FuncData} {x y z u : Str} : FnOk P w K mg base CX0 k f fd [x, y, z, u] (sp_ltree 0) :=
  ⟨fun vs H Q E h => by obtain ⟨_, _, _, _, _, _, _, _, _, rfl, _⟩ := h; rfl, fun A outer s H args us vs Q E _ _ _ _ h => by
    obtain ⟨_, _, _, _, _, _, _, _, _, _, h, _⟩ := h
    exact absurd h (Nat.not_lt_zero _)⟩
theorem _root_.Ur.DtVs.get {N : List Addr} {H : Hp} : ∀ {xs : List V} {ds : List PyData} {i : Nat} {x : V}, DtVs N H xs ds → xs[i]? = some x → ∃ d, ds[i]? = some d ∧ DtV N H x d
  | _, _, _, _, .nil, e => by simp at e
  | _, _, 0, x, .cons h _, e => by
    have e := Option.some.inj e
    exact ⟨_, rfl, by rw [← e]; exact h⟩
  | _, _, i + 1, x, .cons _ r, e => Ur.DtVs.get (i := i) r e
def isTup : PyData → Bool
  | .tuple _ => true
  | _ => false
theorem _root_.Ur.DtV.tyT {K : PySem.W.Frag} {N : List Addr} {H : Hp} {v : V} {d : PyData} (h : DtV N H v d) : ∃ T : String, TyX K H v (.type T) ∧ kitB T "tuple" = some (isTup d) := by
  cases h with
  | str z => exact ⟨_, .base (.str z), (by decide +kernel : kitB "str" "tuple" = some false)⟩
  | non => exact ⟨_, .base .non, by decide +kernel⟩
  | bl b => exact ⟨_, .base (.bl b), (by decide +kernel : kitB "bool" "tuple" = some false)⟩
  | int i => exact ⟨_, .base (.int i), (by decide +kernel : kitB "int" "tuple" = some false)⟩
  | lst h1 => exact ⟨_, .base (.lst h1), (by decide +kernel : kitB "list" "tuple" = some false)⟩
  | tup h1 => exact ⟨_, .base (.tup h1), (by decide +kernel : kitB "tuple" "tuple" = some true)⟩
theorem _root_.Ur.DtV.tupOr {N : List Addr} {H : Hp} {v : V} {d : PyData} (h : DtV N H v d) : (∃ p xs ds, d = .tuple ds ∧ v = .ref p ∧ H p = some (.tup xs) ∧ DtVs N H xs ds) ∨ isTup d = false := by
  cases h with
  | tup h1 _ h2 => exact .inl ⟨_, _, _, rfl, rfl, h1, h2⟩
  | str z => exact .inr rfl
  | non => exact .inr rfl
  | bl b => exact .inr rfl
  | int i => exact .inr rfl
  | lst h1 => exact .inr rfl
def pair1 (ws : List Str) (d : PyData) : Option (Str × Tr) := match d with
  | .tuple [.str w, .str z] => (match shapeOf z with
    | some t => if isWord w = true ∧ w ∉ ws then some (w, t) else none
    | none => none)
  | _ => none
def parP : List PyData → List Str → List Nat → Bool
  | [], _, ns => decide (ns.sum ≤ 3)
  | d :: r, ws, ns => match pair1 ws d with
    | some (w, t) => parP r (ws ++ [w]) (ns ++ [t.plains])
    | none => false
def areP : PyData → Bool
  | .tuple ps => decide (ps.length ≤ 3) && parP ps [] []
  | _ => false
def pairD (p : Str × Str) : PyData := .tuple [.str p.1, .str p.2]
def plT (z : Str) : Nat := match shapeOf z with
  | some t => t.plains
  | none => 0
mutual
theorem _root_.Ur.DtV.dp {K : PySem.W.Frag} {N : List Addr} {H : Hp} : ∀ {v : V} {d : PyData}, DtV N H v d → Dp K H v d
  | _, _, .non => .non
  | _, _, .bl b => .bl b
  | _, _, .int i => .int i
  | _, _, .str z => .str z
  | _, _, .lst h _ r => .lst (.inl (.inl h)) (Ur.DtVs.dp r)
  | _, _, .tup h _ r => .tup (.inl (.inl h)) (Ur.DtVs.dp r)
theorem _root_.Ur.DtVs.dp {K : PySem.W.Frag} {N : List Addr} {H : Hp} : ∀ {xs : List V} {ds : List PyData}, DtVs N H xs ds → DpAll K H xs ds
  | _, _, .nil => .nil
  | _, _, .cons h r => .cons (Ur.DtV.dp h) (Ur.DtVs.dp r)
end
end Up
namespace Ve
open PySem PySem.Spec PyProof.Rows L2 Ub Ur Ug Ue Up Uo
/-- what is told of a path: the tree below, or none -/
def dueD : Option Tr → PyData
  | none => .tuple [.str "refused", .list [.bool true, .bool true]]
  | some b => .tuple [.str "shape", .str b.text, .list ((pks b).map PyData.str)]
/-- y asked of the tree t: o is what stands there -/
def Asks (K : PySem.W.Frag) (H : Hp) (t : Tr) (y : V) (o : Option Tr) : Prop := (∃ m ∈ paths t, y = .str m.1 ∧ o = some m.2) ∨ (NoP K H t y ∧ o = none)
def sp_below (K : PySem.W.Frag) (C : Addr) : Sp := fun vs H Q _ => ∃ x g Z y o d, vs = [.ref x, y] ∧ ShG Z C H x g ∧ good g.tr ∧ Asks K H g.tr y o ∧ DtV [] H y d ∧ rpOk d = true ∧ ∀ p H', Same H H' → DtV [] H' (.ref p) (dueD o) → Q (.ref p) H'
theorem strOk_asc {z : Str} (h : Asc z) : PyData.strOk z = true := by
  unfold PyData.strOk
  rw [Array.all_eq_true']
  intro c hc
  have := h c (by rw [cs]; exact Array.mem_toList_iff.mpr hc)
  simp only [decide_eq_true_eq]
  omega
theorem shaped_str {z : Str} (h : Asc z) : SeqAt.shaped (.str z) = true := by
  unfold SeqAt.shaped
  rw [show PyData.depth (.str z) = 0 from rfl, show (PyData.str z).canLay0 = PyData.strOk z by simp [PyData.canLay0], strOk_asc h]
  rfl
theorem eqv_strs (z u : Str) : PyData.eqv (.str z) (.str u) = (z == u) := by simp [PyData.eqv]
end Ve
namespace Up
open PySem PySem.Spec PyProof.Rows L2 Ub Ur Ug Ue
theorem cut_take {us : List V} {i : Nat} (hi : i ≤ us.length) : cutV us none (some (i : Int)) = us.take i := by
  unfold cutV
  rw [HT.sIx_nat, HT.sIx_none, Nat.min_eq_left hi]
  rfl
theorem cut_drop {us : List V} {i : Nat} (hi : i ≤ us.length) : cutV us (some (i : Int)) none = us.drop i := by
  unfold cutV
  rw [HT.sIx_nat, HT.sIx_none, Nat.min_eq_left hi, List.take_of_length_le (by rw [List.length_drop]; exact Nat.le_refl _)]
theorem cut_mid {us : List V} {i j : Nat} (hi : i ≤ j) (hj : j ≤ us.length) : cutV us (some (i : Int)) (some (j : Int)) = (us.drop i).take (j - i) := by
  unfold cutV
  rw [HT.sIx_nat, HT.sIx_nat, Nat.min_eq_left hj, Nat.min_eq_left (Nat.le_trans hi hj)]
theorem sl_any {K : PySem.W.Frag} {H : Hp} {a : Addr} {us ws : List V} {lo hi : Option Int} {Q : VK} (h : H a = some (.tup us)) (e : cutV us lo hi = ws) (q : ∀ p H', Same H H' → H' p = some (.tup ws) → (p = a ∨ H p = none) → Q (.ref p) H') : rSlA K (.ref a) lo hi H Q := by
  refine ⟨a, us, rfl, .inl (.inl h), fun z => ?_, fun _ p np => q p _ (same_upd np) (by rw [upd_same, e]) (.inr np)⟩
  refine q a H (Same.refl _) ?_ (.inl rfl)
  rw [h, ← e]
  unfold cutV
  rw [z.1, z.2]
  simp
theorem cat_any {K : PySem.W.Frag} {H : Hp} {a b : Addr} {xs ys : List V} {Q : VK} (ha : H a = some (.tup xs)) (hb : H b = some (.tup ys)) (hl : xs.length + ys.length ≤ 1000) (q : ∀ p H', Same H H' → H' p = some (.tup (xs ++ ys)) → (p = a ∨ p = b ∨ H p = none) → Q (.ref p) H') : rCatA K (.ref a) (.ref b) H Q := by
  refine ⟨a, b, xs, ys, rfl, rfl, .inl (.inl ha), .inl (.inl hb), Nat.le_trans hl (by decide), fun z => ?_, fun _ z => ?_, fun _ _ p np => q p _ (same_upd np) upd_same (.inr (.inr np))⟩
  · exact q b H (Same.refl _) (by rw [hb, z]; rfl) (.inr (.inl rfl))
  · exact q a H (Same.refl _) (by rw [ha, z, List.append_nil]) (.inl rfl)
end Up
namespace Ve
open PySem PySem.Spec PyProof.Rows L2 Ub Ur Ug Ue Up Uo
def TsAt (H : Hp) : List V → List Tr → Prop
  | [], [] => True
  | v :: vs, t :: ts => TrAt H t v ∧ TsAt H vs ts
  | [], _ :: _ => False
  | _ :: _, [] => False
theorem TsAt.len {H : Hp} : ∀ {vs : List V} {ts : List Tr}, TsAt H vs ts → vs.length = ts.length
  | [], [], _ => rfl
  | _ :: _, _ :: _, h => congrArg Nat.succ (TsAt.len h.2)
  | [], _ :: _, h => h.elim
  | _ :: _, [], h => h.elim
theorem TsAt.tups {H H' : Hp} (s : ∀ c xs, H c = some (.tup xs) → H' c = some (.tup xs)) : ∀ {vs : List V} {ts : List Tr}, TsAt H vs ts → TsAt H' vs ts
  | [], [], _ => trivial
  | _ :: _, _ :: _, h => ⟨h.1.tups s, TsAt.tups s h.2⟩
  | [], _ :: _, h => h.elim
  | _ :: _, [], h => h.elim
theorem TsAt.same {H H' : Hp} (s : Same H H') {vs : List V} {ts : List Tr} (h : TsAt H vs ts) : TsAt H' vs ts := h.tups fun c xs e => s _ _ e
theorem TsAt.get {H : Hp} : ∀ {vs : List V} {ts : List Tr} {i : Nat} {v : V}, TsAt H vs ts → vs[i]? = some v → ∃ t, ts[i]? = some t ∧ TrAt H t v
  | v0 :: _, t0 :: _, 0, v, h, e => by
    rw [List.getElem?_cons_zero] at e
    cases e
    exact ⟨t0, rfl, h.1⟩
  | _ :: vs, _ :: ts, i + 1, v, h, e => by
    rw [List.getElem?_cons_succ] at e
    obtain ⟨t, h1, h2⟩ := TsAt.get h.2 e
    exact ⟨t, by rw [List.getElem?_cons_succ]; exact h1, h2⟩
  | [], _, i, v, _, e => by simp at e
  | _ :: _, [], _, _, h, _ => h.elim
theorem good_nil : good .nil := ⟨.inl rfl, by decide, by decide⟩
theorem kp_tups {st g l : Addr} {H H' : Hp} (S : StAt H st g l) (k : Kp st g l H H') : ∀ c xs, H c = some (.tup xs) → H' c = some (.tup xs) := fun c xs e => by
  obtain ⟨⟨_, _, _, _, h1, h2, h3, _⟩, _⟩ := S
  refine k c _ e (fun z => ?_) (fun z => ?_) (fun z => ?_)
  · rw [z, h1] at e; cases e
  · rw [z, h2] at e; cases e
  · rw [z, h3] at e; cases e
def hst : List PyData → Bool
  | .str _ :: _ => false
  | _ => true
def trF : Tr → List PyData
  | .nil => []
  | .cons w t r => .tuple [.str w, .tuple (trF t)] :: trF r
def trD (t : Tr) : PyData := .tuple (trF t)
theorem fs_dp {K : PySem.W.Frag} {H : Hp} : ∀ {t : Tr} {ps : List V}, FsAt H t ps → DpAll K H ps (trF t)
  | .nil, ps, h => by
    have e : ps = [] := h
    subst e
    exact .nil
  | .cons w t r, ps, h => by
    obtain ⟨p, q, qs, rfl, h2, ⟨a, ps', rfl, h3, h4⟩, h5⟩ := h
    exact .cons (.tup (.inl (.inl h2)) (.cons (.str w) (.cons (.tup (.inl (.inl h3)) (fs_dp h4)) .nil))) (fs_dp h5)
theorem tr_dp {K : PySem.W.Frag} {H : Hp} {t : Tr} {v : V} (h : TrAt H t v) : Dp K H v (trD t) := by
  obtain ⟨a, ps, rfl, h1, h2⟩ := h
  exact .tup (.inl (.inl h1)) (fs_dp h2)
theorem trF_eq : ∀ (t u : Tr), PyData.eqvAll (trF t) (trF u) = true ↔ t = u
  | .nil, .nil => by simp [trF, PyData.eqvAll]
  | .nil, .cons _ _ _ => by simp [trF, PyData.eqvAll]
  | .cons _ _ _, .nil => by simp [trF, PyData.eqvAll]
  | .cons w t r, .cons w' t' r' => by
    have h1 := trF_eq t t'
    have h2 := trF_eq r r'
    simp only [trF, PyData.eqvAll, PyData.eqv, Bool.and_true, Bool.and_eq_true, beq_iff_eq, h1, h2]
    constructor
    · rintro ⟨⟨rfl, rfl⟩, rfl⟩
      rfl
    · intro e
      cases e
      exact ⟨⟨rfl, rfl⟩, rfl⟩
theorem trD_eq (t u : Tr) : PyData.eqv (trD t) (trD u) = true ↔ t = u := by
  unfold trD
  rw [show PyData.eqv (.tuple (trF t)) (.tuple (trF u)) = PyData.eqvAll (trF t) (trF u) by simp [PyData.eqv]]
  exact trF_eq t u
theorem trF_lay : ∀ {t : Tr}, W t → PyData.canLayAll0 (trF t) = true
  | .nil, _ => by simp [trF, PyData.canLayAll0]
  | .cons w t r, ⟨a, _, c, d⟩ => by
    simp only [trF, PyData.canLayAll0, PyData.canLay0, strOk_asc (word_asc a), trF_lay c, trF_lay d, Bool.and_self]
theorem trF_dep : ∀ t : Tr, PyData.depthAll (trF t) ≤ 2 * t.sdep + 2
  | .nil => by simp [trF, PyData.depthAll]
  | .cons w t r => by
    have h1 := trF_dep t
    have h2 := trF_dep r
    have e : (Tr.cons w t r).sdep = max (if t.isNil then 0 else 1 + t.sdep) r.sdep := rfl
    rw [e]
    have e2 : PyData.depthAll (trF (.cons w t r)) = max (max 0 (max (PyData.depthAll (trF t) + 1) 0) + 1) (PyData.depthAll (trF r)) := by simp [trF, PyData.depthAll, PyData.depth]
    rw [e2]
    cases t with
    | nil =>
      have e3 : PyData.depthAll (trF .nil) = 0 := by simp [trF, PyData.depthAll]
      rw [e3]
      show _ ≤ 2 * max 0 r.sdep + 2
      omega
    | cons a b c =>
      show _ ≤ 2 * max (1 + (Tr.cons a b c).sdep) r.sdep + 2
      omega
theorem trD_shaped {t : Tr} (h : good t) : SeqAt.shaped (trD t) = true := by
  have h1 := (good_has h).1
  have h2 := trF_dep t
  have h3 : t.sdep ≤ 3 := by
    cases t with
    | nil => decide
    | cons a b c =>
      have : (Tr.cons a b c).depth = 1 + (Tr.cons a b c).sdep := rfl
      omega
  unfold SeqAt.shaped trD
  rw [show PyData.canLay0 (.tuple (trF t)) = PyData.canLayAll0 (trF t) by simp [PyData.canLay0], trF_lay (good_W h), show PyData.depth (.tuple (trF t)) = PyData.depthAll (trF t) + 1 by simp [PyData.depth]]
  simp only [Bool.true_and, decide_eq_true_eq]
  omega
theorem good_text {t u : Tr} (h : good t) (k : good u) : t.text = u.text ↔ t = u := by
  constructor
  · intro e
    have h1 := shapeOf_in h
    rw [e, shapeOf_in k] at h1
    exact (Option.some.inj h1).symm
  · rintro rfl
    rfl
abbrev AllZ : Addr → Prop := fun _ => True
end Ve
namespace Ve
open PySem PySem.Spec PyProof.Rows L2 Ub Ur Ug Ue Up Uo Vk
/-- a property -/
def sp_shP (C : Addr) (f : Tr → V) : Sp := fun vs H Q _ => ∃ x g Z, vs = [.ref x] ∧ ShG Z C H x g ∧ good g.tr ∧ ∀ H', Same H H' → Q (f g.tr) H'
theorem fineF_len {p : Tr → Prop} : ∀ {n : Nat} {kn : List Str} {t : Tr}, FineF p n kn t → t.fields.length ≤ n
  | 0, _, _, hf => hf.elim
  | _ + 1, _, .nil, hf => hf.elim
  | n + 1, kn, .cons w t r, ⟨_, _, _, h4⟩ => by
    show r.fields.length + 1 ≤ n + 1
    rcases h4 with rfl | h4
    · exact Nat.succ_le_succ (Nat.zero_le _)
    · have := fineF_len h4
      omega
theorem cut_last (xs : List V) (y : V) : cutV (xs ++ [y]) none (some (-1)) = xs := by
  unfold cutV
  have e : HT.sIx (xs ++ [y]).length (xs ++ [y]).length (some (-1)) = xs.length := by
    show (if (-1 : Int) < 0 then ((-1 : Int) + (((xs ++ [y]).length : Nat) : Int)).toNat else min (-1 : Int).toNat (xs ++ [y]).length) = _
    rw [if_pos (by decide), List.length_append]
    show ((-1 : Int) + ((xs.length + 1 : Nat) : Int)).toNat = xs.length
    omega
  rw [e, HT.sIx_none]
  simp
end Ve
namespace Pt
open PySem PySem.Spec PyProof.Rows L2 Ub Ur Ug Ue Up Uo Vk Ve
def ptext : List Str → Str
  | [] => "."
  | w :: ws => down w (ptext ws)
def wfp : Tr → List (List Str × Tr)
  | .nil => []
  | .cons w t r => (([], t) :: wfp t).map (fun m => (w :: m.1, m.2)) ++ wfp r
def wpaths (t : Tr) : List (List Str × Tr) := ([], t) :: wfp t
theorem wfp_text : ∀ t : Tr, (wfp t).map (fun m => (ptext m.1, m.2)) = fp t
  | .nil => rfl
  | .cons w t r => by
    show ((([], t) :: wfp t).map (fun m => (w :: m.1, m.2)) ++ wfp r).map _ = ((("." : Str), t) :: fp t).map _ ++ fp r
    rw [List.map_append, wfp_text r, ← wfp_text t, List.map_cons, List.map_cons, List.map_cons, List.map_map, List.map_map]
    rfl
theorem wpaths_text (t : Tr) : (wpaths t).map (fun m => (ptext m.1, m.2)) = paths t := by
  show _ :: (wfp t).map _ = _
  rw [wfp_text]
  rfl
theorem wfp_words : ∀ {t : Tr}, W t → ∀ m ∈ wfp t, ∀ w ∈ m.1, isWord w = true
  | .nil, _, m, h, _, _ => nomatch h
  | .cons w t r, ⟨a, _, c, d⟩, m, h, z, hz => by
    rcases List.mem_append.mp h with h | h
    · obtain ⟨m', hm, rfl⟩ := List.mem_map.mp h
      rcases List.mem_cons.mp hz with e | hz
      · rw [e]; exact a
      · rcases List.mem_cons.mp hm with e | hm
        · rw [e] at hz; exact nomatch hz
        · exact wfp_words c m' hm z hz
    · exact wfp_words d m h z hz
theorem wpaths_words {t : Tr} (h : W t) : ∀ m ∈ wpaths t, ∀ w ∈ m.1, isWord w = true := fun m hm w hw => by
  rcases List.mem_cons.mp hm with e | hm
  · rw [e] at hw; exact nomatch hw
  · exact wfp_words h m hm w hw
theorem words_path {t : Tr} {m : List Str × Tr} (h : m ∈ wpaths t) : (ptext m.1, m.2) ∈ paths t := by
  rw [← wpaths_text]
  exact List.mem_map.mpr ⟨m, h, rfl⟩
theorem sapp (a b c : Str) : a ++ b ++ c = a ++ (b ++ c) := cs_inj (by rw [cs_app, cs_app, cs_app, cs_app, List.append_assoc])
theorem sapp_nil (a : Str) : a ++ ("" : Str) = a := cs_inj (by rw [cs_app]; show cs a ++ [] = cs a; simp)
theorem ptext_join : ∀ {w : Str} {ws : List Str}, (∀ z ∈ ws, isWord z = true) → ptext (w :: ws) = ("." : Str) ++ Str.join "." (w :: ws)
  | w, [], _ => by
    show down w "." = ("." : Str) ++ w
    unfold down
    rw [if_pos rfl, sapp_nil]
  | w, v :: ws, h => by
    show down w (ptext (v :: ws)) = ("." : Str) ++ (w ++ "." ++ Str.join "." (v :: ws))
    have e : ptext (v :: ws) ≠ "." := down_ne (h v (List.mem_cons_self ..))
    unfold down
    rw [if_neg e, ptext_join fun z hz => h z (List.mem_cons_of_mem _ hz)]
    simp only [sapp]
theorem wp_good {t : Tr} (h : good t) {m : List Str × Tr} (hm : m ∈ wpaths t) : good m.2 := (paths_good 3 (good_has h).1 h _ (words_path hm)).g
theorem wp_depth {t : Tr} (h : good t) : ∀ {m : List Str × Tr}, m ∈ wpaths t → m.2.depth + m.1.length ≤ t.depth := by
  have key : ∀ (d : Nat) (t : Tr), t.depth ≤ d → ∀ m ∈ wpaths t, m.2.depth + m.1.length ≤ t.depth := by
    have mem : ∀ {t : Tr} {m : List Str × Tr}, m ∈ wfp t → ∃ f ∈ t.fields, ∃ m' ∈ wpaths f.2, m = (f.1 :: m'.1, m'.2) := by
      intro t
      induction t with
      | nil => intro m h; exact nomatch h
      | cons w t r _ ih =>
        intro m h
        rcases List.mem_append.mp h with h | h
        · obtain ⟨m', hm, rfl⟩ := List.mem_map.mp h
          exact ⟨(w, t), List.mem_cons_self .., m', hm, rfl⟩
        · obtain ⟨f, hf, m', hm, e⟩ := ih h
          exact ⟨f, List.mem_cons_of_mem _ hf, m', hm, e⟩
    intro d
    induction d with
    | zero =>
      intro t hd m hm
      rcases List.mem_cons.mp hm with e | hm
      · rw [e]; exact Nat.le_refl _
      · obtain ⟨f, hf, _⟩ := mem hm
        have := Tr.depth_lt hf
        omega
    | succ d ih =>
      intro t hd m hm
      rcases List.mem_cons.mp hm with e | hm
      · rw [e]; exact Nat.le_refl _
      · obtain ⟨f, hf, m', hm', rfl⟩ := mem hm
        have hl := Tr.depth_lt hf
        have := ih f.2 (by omega) m' hm'
        show m'.2.depth + (m'.1.length + 1) ≤ t.depth
        omega
  exact fun {m} hm => key t.depth t (Nat.le_refl _) m hm
inductive Cell where
  | int (i : Int)
  | part (p : Addr)
def Cell.v : Cell → V
  | .int i => .int i
  | .part p => .ref p
structure Nd where
  x : Addr
  g : Sg
  dx : Addr
  tk : Addr
  cd : Addr
  cs : List (Str × Cell)
abbrev Pg : Type := Addr → Option Nd
def kvs (l : List (Str × Cell)) : List (Key × V) := l.map fun c => (.inr c.1, c.2.v)
/-- a cell fits to a field's tree -/
def Fits (M : Pg) (t : Tr) : Cell → Prop
  | .int _ => t.isNil = true
  | .part p => t.isNil = false ∧ ∃ n, M p = some n ∧ n.g.tr = t
def CsOk (M : Pg) : List (Str × Tr) → List (Str × Cell) → Prop
  | [], [] => True
  | f :: l, c :: cs => c.1 = f.1 ∧ Fits M f.2 c.2 ∧ CsOk M l cs
  | [], _ :: _ => False
  | _ :: _, [] => False
/-- no dict of cells lies there -/
def NotCd (M : Pg) (b : Addr) : Prop := ∀ p n, M p = some n → n.cd ≠ b
structure Cp3 where
  part : Addr
  shape : Addr
  token : Addr
/-- where the things of shapes lie: Z, and no dict of cells -/
def Zm (Z : Addr → Prop) (M : Pg) (b : Addr) : Prop := Z b ∧ NotCd M b
structure NdOk (C : Cp3) (Z : Addr → Prop) (H : Hp) (M : Pg) (p : Addr) (n : Nd) : Prop where
  at_ : H p = some (.ins C.part n.dx [("shape", .ref n.x), ("token", .ref n.tk), ("cells", .ref n.cd)])
  cells : H n.cd = some (.dK (kvs n.cs))
  tok : ∃ d, H n.tk = some (.ins C.token d [])
  sh : ShG (Zm Z M) C.shape H n.x n.g
  gd : good n.g.tr
  rc : n.g.tr.isNil = false
  cs : CsOk M n.g.tr.fields n.cs
structure PgOk (C : Cp3) (Z : Addr → Prop) (H : Hp) (M : Pg) : Prop where
  nd : ∀ p n, M p = some n → NdOk C Z H M p n
  cdi : ∀ p q n m, M p = some n → M q = some m → n.cd = m.cd → p = q
  tki : ∀ p q n m, M p = some n → M q = some m → n.tk = m.tk → p = q
/-- what is no list stays -/
def Kl (H H' : Hp) : Prop := ∀ b o, H b = some o → (∀ xs, o ≠ .lst xs) → H' b = some o
theorem Kl.kp {st g l : Addr} {H H' : Hp} (S : StAt H st g l) (k : Kp st g l H H') : Kl H H' := fun b o e n => by
  obtain ⟨⟨_, _, _, _, h1, h2, h3, _⟩, _⟩ := S
  refine k b _ e (fun z => ?_) (fun z => ?_) (fun z => ?_)
  · rw [z, h1] at e; cases e; exact n _ rfl
  · rw [z, h2] at e; cases e; exact n _ rfl
  · rw [z, h3] at e; cases e; exact n _ rfl
def cont (M : Pg) : Nat → Addr → List Int
  | 0, _ => []
  | d + 1, p => match M p with
    | none => []
    | some n => n.cs.flatMap fun c => match c.2 with
      | .int i => [i]
      | .part q => cont M d q
def cellC (M : Pg) (d : Nat) : Cell → List Int
  | .int i => [i]
  | .part q => cont M d q
def walk (M : Pg) (c : Cell) : List Str → Option Cell
  | [] => some c
  | w :: ws => match c with
    | .int _ => none
    | .part p => match M p with
      | none => none
      | some n => match n.cs.lookup w with
        | none => none
        | some c' => walk M c' ws
/-- the parts below, in order -/
def nodes (M : Pg) : Nat → Addr → List Addr
  | 0, _ => []
  | d + 1, p => p :: (match M p with
    | none => []
    | some n => n.cs.flatMap fun c => match c.2 with
      | .int _ => []
      | .part q => nodes M d q)
def cellN (M : Pg) (d : Nat) : Cell → List Addr
  | .int _ => []
  | .part q => nodes M d q
end Pt
namespace Pt
open PySem PySem.Spec PyProof.Rows L2 Ub Ur Ug Ue Up Uo Vk Ve Wb
def isIntD : PyData → Bool
  | .int _ => true
  | _ => false
def wholesD (d : PyData) (n : Nat) : Bool := match d with
  | .tuple ds => decide (ds.length = n) && ds.all isIntD
  | _ => false
def sp_wholes : Sp := fun vs H Q _ => ∃ (v : V) (d : PyData) (n : Nat), vs = [v, .int (n : Nat)] ∧ DtV [] H v d ∧ (∀ ds, d = .tuple ds → ds.length ≤ 1000) ∧ ∀ H', Same H H' → Q (.bl (wholesD d n)) H'
theorem wholesD_tup {d : PyData} {n : Nat} (h : isTup d = false) : wholesD d n = false := by cases d <;> first | rfl | cases h
def intsD (is : List Int) : PyData := .tuple (is.map PyData.int)
theorem dtvs_int {N : List Addr} {H : Hp} : ∀ is : List Int, DtVs N H (is.map V.int) (is.map PyData.int)
  | [] => .nil
  | i :: is => .cons (.int i) (dtvs_int is)
theorem wholesD_ints (is : List Int) : wholesD (intsD is) is.length = true := by
  show (decide ((is.map PyData.int).length = is.length) && (is.map PyData.int).all isIntD) = true
  rw [List.length_map, decide_eq_true rfl, List.all_map]
  simp [isIntD]
theorem wholesD_out {d : PyData} {n : Nat} (h : wholesD d n = true) : ∃ is : List Int, d = intsD is ∧ is.length = n := by
  cases d with
  | tuple ds =>
    obtain ⟨h1, h2⟩ := Bool.and_eq_true_iff.mp (show (decide (ds.length = n) && ds.all isIntD) = true from h)
    have key : ∀ {ds : List PyData}, ds.all isIntD = true → ∃ is : List Int, ds = is.map PyData.int := by
      intro ds
      induction ds with
      | nil => exact fun _ => ⟨[], rfl⟩
      | cons d ds ih =>
        intro h
        rw [List.all_cons, Bool.and_eq_true] at h
        obtain ⟨is, e⟩ := ih h.2
        cases d with
        | int i => exact ⟨i :: is, by rw [e]; rfl⟩
        | _ => cases h.1
    obtain ⟨is, e⟩ := key h2
    refine ⟨is, by rw [e]; rfl, ?_⟩
    have := of_decide_eq_true h1
    rw [e, List.length_map] at this
    exact this
  | _ => cases h
end Pt
namespace Pt
open PySem PySem.Spec PyProof.Rows L2 Ub Ur Ug Ue Up Uo Vk Ve Wb
open AutoSeq1
end Pt
namespace Pt
open PySem PySem.Spec PyProof.Rows L2 Ub Ur Ug Ue Up Uo Vk Ve Wb
def atP (g : Sg) (i : Nat) : Nat := ((g.tr.fields.take i).map fun m => m.2.plains).sum
abbrev Zc1 (Z : Addr → Prop) (cd : Addr) (b : Addr) : Prop := Z b ∧ b ≠ cd
/-- the fields of a part that is being made -/
abbrev pfs (sx tk cd : Addr) : List (Str × V) := [("shape", .ref sx), ("token", .ref tk), ("cells", .ref cd)]
structure Lp (C : Cp3) (Z : Addr → Prop) (H0 : Hp) (M : Pg) (x dx sx : Addr) (g : Sg) (tk cd : Addr) (is : List Int) (i : Nat) (H : Hp) (N : Pg) (cs : List (Str × Cell)) : Prop where
  same : Same H0 H
  hx : H x = some (.ins C.part dx (pfs sx tk cd))
  hcd : H cd = some (.dK (kvs cs))
  htk : ∃ d, H tk = some (.ins C.token d [])
  ok : PgOk C (Zc1 Z cd) H N
  sh : ShG (Zm (Zc1 Z cd) N) C.shape H sx g
  old : ∀ p n, M p = some n → N p = some n
  new : ∀ p n, N p = some n → M p = some n ∨ (H0 p = none ∧ H0 n.cd = none ∧ H0 n.tk = none ∧ p ≠ x ∧ n.cd ≠ cd ∧ n.tk ≠ tk)
  csk : CsOk N (g.tr.fields.take i) cs
  con : (cs.flatMap fun c => cellC N 4 c.2) = is.take (atP g i)
  nd : (cs.flatMap fun c => cellN N 4 c.2).Nodup
  frs : ∀ p ∈ cs.flatMap (fun c => cellN N 4 c.2), H0 p = none ∧ p ≠ x
  cd0 : ∀ p n, M p = some n → H0 n.cd ≠ none ∧ H0 n.tk ≠ none ∧ H0 p ≠ none
end Pt
namespace Gr
open PySem PySem.Spec PyProof.Rows L2 Ub Ur Ug Ue Up Uo Vk Ve Pt
inductive GC where
  | int (i : Int)
  | node (k : Nat)
deriving DecidableEq
def GC.v : GC → V
  | .int i => .int i
  | .node k => .int (k : Int)
structure GN where
  tr : Tr
  cs : List (Str × GC)
abbrev GG : Type := List GN
inductive CR (ps : List Addr) : GC → Cell → Prop
  | int (i : Int) : CR ps (.int i) (.int i)
  | node {k : Nat} {p : Addr} : ps[k]? = some p → CR ps (.node k) (.part p)
def CsR (ps : List Addr) : List (Str × GC) → List (Str × Cell) → Prop
  | [], [] => True
  | a :: l, b :: m => a.1 = b.1 ∧ CR ps a.2 b.2 ∧ CsR ps l m
  | [], _ :: _ => False
  | _ :: _, [] => False
structure Iso (g : GG) (ps : List Addr) (M : Pg) : Prop where
  len : ps.length = g.length
  nd : ps.Nodup
  at_ : ∀ (k : Nat) (n : GN), g[k]? = some n → ∃ (p : Addr) (m : Nd), ps[k]? = some p ∧ M p = some m ∧ m.g.tr = n.tr ∧ CsR ps n.cs m.cs
theorem get_app {α : Type} {l r : List α} {k : Nat} {x : α} (h : l[k]? = some x) : (l ++ r)[k]? = some x := by
  rw [List.getElem?_append_left (List.getElem?_eq_some_iff.mp h).1, h]
theorem nd_inj {ps : List Addr} (h : ps.Nodup) {i j : Nat} {p : Addr} (hi : ps[i]? = some p) (hj : ps[j]? = some p) : i = j := by
  exact List.getElem?_inj (List.getElem?_eq_some_iff.mp hi).1 h |>.mp (hi.trans hj.symm)
end Gr
namespace Rw
open PySem PySem.Spec PyProof.Rows L2 Ub Ur Ug Ue Up Uo Ve Va Vk
end Rw
namespace Sb
open PySem PySem.Spec PyProof.Rows L2 Ub Ur Ug Ue Up Uo Ve Va Vk Rw
end Sb
namespace Sup
open PySem PySem.Spec L2 NdefX
open PyProof.Rows hiding wpAt wpAt_mono wpAt_bind
structure FunS (K : PySem.W.Frag) (x qual : Str) (st : Stmt) (D : Addr) (f : Addr) (fd : FuncData) : Prop where
  ex : ∃ (oc : Value) (od : Option Addr) (doc pm ctv : Value) (osl : Array (Option Value)) (cc c : Addr) (ccl : Value) (cld : Option Addr) (ccs : Array (Option Value)),
    fd = (NF.of st x qual [("__class__", cc)] c).fd doc pm ctv ∧ K.lookup f = some ⟨oc, od, .func fd, osl⟩ ∧ PySem.W.codeIn K (.ref c) qual = true ∧ K.lookup cc = some ⟨ccl, cld, .cell (some (.ref D)), ccs⟩
  kp : PySem.W.keepIn K (.ref f) = true
/-- a statement, statements, an expression in the function's own code -/
structure PSsAt (X : Cx) (c : Code) (st : List Stmt) (t : TS) : Prop where
  run : ∀ (pins : List (Addr × Obj)) (s : Shared) (σ : L2.St) (H : Hp) (D : Ends), Inv X pins σ H s → t D σ H → wpAt (model X.prog X.w) X.A c (execs st X.env) (SP X pins D) X.xe s
structure PSAt (X : Cx) (c : Code) (st : Stmt) (t : TS) : Prop where
  run : ∀ (pins : List (Addr × Obj)) (s : Shared) (σ : L2.St) (H : Hp) (D : Ends), Inv X pins σ H s → t D σ H → wpAt (model X.prog X.w) X.A c (exec st X.env) (SP X pins D) X.xe s
structure PEAt (X : Cx) (c : Code) (e : Expr) (t : TE) : Prop where
  run : ∀ (pins : List (Addr × Obj)) (s : Shared) (σ : L2.St) (H : Hp) (Q : VK), Inv X pins σ H s → t σ H Q → wpAt (model X.prog X.w) X.A c (eval e X.env) (EP X pins σ Q) X.xe s
section
variable {X : Cx} {c : Code} {st : Stmt} {rest : List Stmt} {t u : TS} {te : TE} {e : Expr} {pos : Pos}
theorem psAt_of (h : PS X st t) : PSAt X c st t := ⟨fun pins s σ H D I q => wpAt_of_wpAny (h.run pins s σ H D I q)⟩
theorem pssAt_cons (h1 : PSAt X c st t) (h2 : PSsAt X c rest u) : PSsAt X c (st :: rest) (tSeq t u) := by
  refine ⟨fun pins s σ H D I h => ?_⟩
  refine ks_wpAt_execs_cons (wpAt_mono (h1.run pins s σ H { D with nx := u D } I h) (fun f s1 q => ?_) fun _ _ x => x)
  cases f with
  | next =>
    obtain ⟨σ', H', I', q⟩ := q
    exact h2.run pins s1 σ' H' D I' q
  | ret v => exact q
  | brk => exact q
  | cont => exact q
theorem pssAt_one (h1 : PSAt X c st t) : PSsAt X c [st] t := by
  refine ⟨fun pins s σ H D I h => ?_⟩
  refine ks_wpAt_execs_cons (wpAt_mono (h1.run pins s σ H D I h) (fun f s1 q => ?_) fun _ _ x => x)
  cases f with
  | next => exact wpAt_of_wpAny (wpAny_execs_nil q)
  | ret v => exact q
  | brk => exact q
  | cont => exact q
end
section
variable {CX : CXT} {P : Program} {w : World} {K : PySem.W.Frag} {mg : Str → Option Value} {base : Heap} {N ps : List Str} {x qual : Str} {st : Stmt} {D f : Addr} {fd : FuncData} {k : Nat} {sp : Sp}
theorem FunS.ok (F : FunS K x qual st D f fd) (S : NScope N ps ["__class__"] (C8.fnScope st)) (len : ∀ vs H Q E, sp vs H Q E → vs.length = ps.length)
    (hbody : ∀ (cc c : Addr) (doc pm ctv : Value) (A : Around) (outer : List Env) (s : Shared) (H : Hp) (vs : List V) (Q : VK) (E : XK), (∃ oc od osl, K.lookup f = some ⟨oc, od, .func ((NF.of st x qual [("__class__", cc)] c).fd doc pm ctv), osl⟩) → (∃ ccl cld ccs, K.lookup cc = some ⟨ccl, cld, .cell (some (.ref D)), ccs⟩) →
      Room k (A.deeper (envF (NF.of st x qual [("__class__", cc)] c) f s.heap.objs.size)) → sp vs H Q E →
      ∃ t, PSsAt (ncx CX P w K mg base N (NF.of st x qual [("__class__", cc)] c) f A outer s H E) (.func (C8.fnBody st) (envF (NF.of st x qual [("__class__", cc)] c) f s.heap.objs.size)) (C8.fnBody st) t ∧ t { nx := fun _ H' => Q .non H', rt := Q } (startF N vs [some (.ref D)]) H) :
    FnOk P w K mg base CX (k + 1) f fd ps sp := by
  refine ⟨len, fun A outer s H args us vs Q E hr e0 hb r hsp => ?_⟩
  obtain ⟨oc, od, doc, pm, ctv, osl, cc, c, ccl, cld, ccs, rfl, lk, hcd, hcc⟩ := F.ex
  have KX : K.In s.heap := e0.mod.kin.keeps fun b o e => (e0.bs b o e).1
  have hl := len _ _ _ _ hsp
  have lim : s.heap.NoLimit := e0.mod.nolimit.keeps fun b o e => (e0.bs b o e).1
  have hCC : s.heap.get? cc = some ⟨ccl, cld, .cell (some (.ref D)), ccs⟩ := KX _ _ hcc
  have hB : base.get? cc = some ⟨ccl, cld, .cell (some (.ref D)), ccs⟩ := e0.mod.kin _ _ hcc
  have C : CellsAt [("__class__", cc)] ["__class__"] [some (.ref D)] s.heap H := by
    refine ⟨rfl, fun y c' hy => ?_, fun y z c' hy hz => ?_, fun i y hi => ?_⟩
    · have : (if (y == "__class__") = true then some cc else none) = some c' := by
        rw [← hy]
        simp only [List.lookup]
        cases y == "__class__" <;> rfl
      split at this
      · cases this
        exact ⟨(e0.bs _ _ hB).2, _, _, hCC, rfl⟩
      · cases this
    · have h1 : ∀ q, (List.lookup q [(("__class__" : Str), cc)]) = some c' → q = "__class__" := fun q h => by
        simp only [List.lookup] at h
        split at h
        · rename_i e
          exact beq_iff_eq.mp e
        · cases h
      rw [h1 y hy, h1 z hz]
    · cases i with
      | zero =>
        cases hi
        refine ⟨cc, by simp [List.lookup], fun v hv => ?_⟩
        cases hv
        exact ⟨_, rfl, _, hCC, rfl⟩
      | succ i => simp at hi
  refine ks_codeAny_call_defAt hr.depth (KX _ _ lk) rfl lim (PySem.W.codeRec_of KX hcd) rfl hb S.nocell (fun ⟨n, _⟩ hy => S.par n (List.of_mem_zip hy).1) (fun h₁ hns kp => ?_) S.co S.gen S.kind
  obtain ⟨t, ht, hq⟩ := hbody cc c doc pm ctv A outer s H vs Q E ⟨_, _, _, lk⟩ ⟨_, _, _, hcc⟩ (hr.deeper _) hsp
  have I : Inv (ncx CX P w K mg base N (NF.of st x qual [("__class__", cc)] c) f A outer s H E) [] (startF N vs [some (.ref D)]) H { s with heap := h₁, toks := s.toks + (ps.zip us).length } := inv_startN S hr.hd e0 hl r C hns kp
  refine wpAt_mono (ht.run [] _ (startF N vs [some (.ref D)]) H _ I hq) (fun fl s' hs => ?_) fun e s' hs => hs
  have fin : ∀ {σ' : L2.St} {H' : Hp} {v : V} {u : Value}, Inv (ncx CX P w K mg base N (NF.of st x qual [("__class__", cc)] c) f A outer s H E) [] σ' H' s' → L2.RelV v u → Q v H' → CE outer P w H s Q u s' :=
    fun {σ' H' v u} J rv q => ⟨v, H', J.os, J.bare, J.base, J.hok, rv, q⟩
  cases fl with
  | ret u =>
    obtain ⟨v, σ', H', J, rv, q⟩ := hs
    exact fin J rv q
  | next =>
    obtain ⟨σ', H', J, q⟩ := hs
    exact fin (v := V.non) (u := Value.none) J rfl q
  | brk =>
    obtain ⟨_, _, _, q⟩ := hs
    exact False.elim q
  | cont =>
    obtain ⟨_, _, _, q⟩ := hs
    exact False.elim q
theorem FunS.bindsN (F : FunS K x qual st D f fd) (h : ∀ (doc pm ctv : Value) (cc c : Addr) (us : List Value), us.length = ps.length → bindArgs ((NF.of st x qual [("__class__", cc)] c).fd doc pm ctv) ⟨us, []⟩ = pure (ps.zip us)) : Binds K fd ps [] := by
  obtain ⟨oc, od, doc, pm, ctv, osl, cc, c, ccl, cld, ccs, rfl, lk, hcd, hcc⟩ := F.ex
  exact .all (h doc pm ctv cc c)
end
structure SupF (K : PySem.W.Frag) (C D : Addr) (m : Str) (f f2 : Addr) (file : Str) : Prop where
  sup : PySem.W.ks_superIn K C D m = some (some (.ref f2))
  ty : PySem.W.typeIn K (.ref f2) = some (.type "function")
  sub : PySem.W.mroIn K C (.ref D) = some true
  cd : ∃ d, PySem.W.clsIn K D = some d
  cc : ∃ d, PySem.W.clsIn K C = some d
  op : PySem.W.nsIn K cStatics "thirdparty.any" = some none
  fn : PySem.W.fnIn K f2 = true
  file : fileB K f file = true
theorem supB_ok {K : PySem.W.Frag} {C D : Addr} {m : Str} {f f2 : Addr} {file : Str} (h : supB K C D m f f2 file = true) : SupF K C D m f f2 file := by
  obtain ⟨h1, h⟩ := He.ba h
  obtain ⟨h2, h⟩ := He.ba h
  obtain ⟨h3, h⟩ := He.ba h
  obtain ⟨h4, h⟩ := He.ba h
  obtain ⟨h5, h⟩ := He.ba h
  obtain ⟨h6, h⟩ := He.ba h
  obtain ⟨h7, h8⟩ := He.ba h
  exact ⟨of_decide_eq_true h1, of_decide_eq_true h2, of_decide_eq_true h3, Option.isSome_iff_exists.mp h4, Option.isSome_iff_exists.mp h5, of_decide_eq_true h6, h7, h8⟩
theorem file_at {K : PySem.W.Frag} {f c : Addr} {file : Str} {oc : Value} {od : Option Addr} {fd : FuncData} {osl : Array (Option Value)} (h : fileB K f file = true) (lk : K.lookup f = some ⟨oc, od, .func fd, osl⟩) (ec : fd.code = .ref c) : ∃ o vs t, K.lookup c = some o ∧ o.data = .fields vs ∧ vs[2]? = some (.str file t) := by
  unfold fileB at h
  rw [lk] at h
  dsimp only at h
  rw [ec] at h
  dsimp only at h
  cases q : K.lookup c with
  | none => rw [q] at h; cases h
  | some o =>
    obtain ⟨o1, o2, o3, o4⟩ := o
    rw [q] at h
    cases o3 with
    | fields vs =>
      dsimp only at h
      cases q2 : vs[2]? with
      | none => rw [q2] at h; cases h
      | some v =>
        rw [q2] at h
        cases v with
        | str z t =>
          have e : z = file := of_decide_eq_true h
          exact ⟨_, vs, t, rfl, rfl, by rw [q2, e]⟩
        | _ => cases h
    | _ => cases h
/-- the instance at the slot 0; what is above D on its class's way has m -/
def tSup (C : Addr) (sp : Sp) (E : XK) (t : TA) : TE := fun σ H Q => ∃ a dx fs, σ[0]? = some (some (.ref a)) ∧ H a = some (.ins C dx fs) ∧ t σ H fun vs H1 => sp (.ref a :: vs) H1 Q E
section
variable {CX CX2 : CXT} {P : Program} {w : World} {K : PySem.W.Frag} {mg : Str → Option Value} {base : Heap} {N : List Str} {x qual : Str} {st : Stmt} {cc c f : Addr} {A : Around} {outer : List Env} {s0 : Shared} {H0 : Hp} {E0 : XK}
theorem peAt_super {doc pm ctv : Value} {C D f2 : Addr} {fd2 : FuncData} {ps2 : List Str} {k : Nat} {m file : Str} {ar : Arg} {sp : Sp} {E : XK} {p0 p1 apos pos : Pos} {e : Expr} {es : List Expr} {t : TA} {pl : Sem Bool}
    (lkf : ∃ oc od osl, K.lookup f = some ⟨oc, od, .func ((NF.of st x qual [("__class__", cc)] c).fd doc pm ctv), osl⟩) (lkc : ∃ ccl cld ccs, K.lookup cc = some ⟨ccl, cld, .cell (some (.ref D)), ccs⟩) (B : SupF K C D m f f2 file)
    (hfile : ((P.main.file : Str) == file) = true) (htop : (P.main.scope.names.lookup ("super" : Str)).isSome = false) (hmg : mg "super" = none)
    (hks : (C8.fnScope st).names.lookup ("super" : Str) = some .globalImplicit) (hkc : (C8.fnScope st).names.lookup ("__class__" : Str) = some .free) (hp : ((C8.fnArgs st).posonlyargs ++ (C8.fnArgs st).args).head? = some ar) (hka : (C8.fnScope st).names.lookup ar.arg = some .local) (hN : N[0]? = some ar.arg)
    (F2 : FnOk P w K mg base CX2 k f2 fd2 ps2 sp) (hr : Room k (ncx CX P w K mg base N (NF.of st x qual [("__class__", cc)] c) f A outer s0 H0 E0).A) (hb : Binds K fd2 ps2 []) (hx : Passes CX2 (ncx CX P w K mg base N (NF.of st x qual [("__class__", cc)] c) f A outer s0 H0 E0) E)
    (ha : PA (ncx CX P w K mg base N (NF.of st x qual [("__class__", cc)] c) f A outer s0 H0 E0) (e :: es) t) (hat : (m == ("__class__" : Str)) = false := by decide)
    (he : eval (.Call (.Attribute (.Call (.Name "super" p0) [] [] p1) m apos) (e :: es) [] pos) (envF (NF.of st x qual [("__class__", cc)] c) f s0.heap.objs.size) = (do
      let ov ← attributeBase (.Call (.Name "super" p0) [] [] p1) m (envF (NF.of st x qual [("__class__", cc)] c) f s0.heap.objs.size) (eval (.Call (.Name "super" p0) [] [] p1) (envF (NF.of st x qual [("__class__", cc)] c) f s0.heap.objs.size))
      standAt apos.atName
      let (g, first) ← holding [ov] (getMethod ov m pl)
      callWith pos g first (backTo pos (starEach (e :: es) (envF (NF.of st x qual [("__class__", cc)] c) f s0.heap.objs.size))) []) := by rfl)
    (hst : starEach (e :: es) (envF (NF.of st x qual [("__class__", cc)] c) f s0.heap.objs.size) = (false, eval e (envF (NF.of st x qual [("__class__", cc)] c) f s0.heap.objs.size)) :: starEach es (envF (NF.of st x qual [("__class__", cc)] c) f s0.heap.objs.size) := by rfl)
    (hpl : (backTo pos (starEach es (envF (NF.of st x qual [("__class__", cc)] c) f s0.heap.objs.size))).any (·.1) = false := by rfl) {body : List Stmt} :
    PEAt (ncx CX P w K mg base N (NF.of st x qual [("__class__", cc)] c) f A outer s0 H0 E0) (.func body (envF (NF.of st x qual [("__class__", cc)] c) f s0.heap.objs.size)) (.Call (.Attribute (.Call (.Name "super" p0) [] [] p1) m apos) (e :: es) [] pos) (tSup C sp E t) := by
  refine ⟨fun pins s σ H Q I h => ?_⟩
  obtain ⟨a, dx, fs, hσ, hH, h⟩ := h
  obtain ⟨oc, od, osl, lk⟩ := lkf
  obtain ⟨ccl, cld, ccs, lkc⟩ := lkc
  obtain ⟨oco, vs, tf, lco, hdt, hvs⟩ := file_at B.file lk rfl
  refine ks_wpAt_MethodCall (pl := pl) ?_ he
  have KI : K.In s.heap := I.kIn
  refine ks_wpAt_super_base (env := envF (NF.of st x qual [("__class__", cc)] c) f s0.heap.objs.size) (f := f) (cc := c) hks hkc hat rfl (KI _ _ lk) rfl hp rfl (KI _ _ lco) hdt hvs hfile htop ?_
  obtain ⟨mb, b1, b2⟩ := I.mod.blt
  refine PySem.W.ks_loadName_global (env := envF (NF.of st x qual [("__class__", cc)] c) f s0.heap.objs.size) I.ok.kind hks (Calls.loadGlobal_builtin (I.mod.glob.keeps I.bk) hmg (b1.keeps I.bk) ((b2 "super" (by decide)).trans (show bootBuiltins "super" = some (.type "super") by first | rfl | kernel_rfl | decide +kernel)) ⟨rfl, ?_⟩)
  refine wpAny_loadName_free (env := envF (NF.of st x qual [("__class__", cc)] c) f s0.heap.objs.size) I.ok.kind hkc (show List.lookup ("__class__" : Str) [(("__class__" : Str), cc)] = some cc by simp [List.lookup]) ⟨_, KI _ _ lkc, rfl⟩ ?_
  obtain ⟨ml, hns, hlk⟩ := I.loc
  obtain ⟨u, ru, lu⟩ := hlk 0 ar.arg (.ref a) hN hσ (.inl hka)
  have eu : u = .ref a := ru
  subst eu
  have hl : ml ar.arg = some (.ref a) := by
    rcases lu with ⟨_, h⟩ | ⟨h, _⟩
    · exact h
    · have h : (C8.fnScope st).names.lookup ar.arg = some .cell ∨ (C8.fnScope st).names.lookup ar.arg = some .free := h
      rw [hka] at h
      rcases h with h | h <;> cases h
  refine wpAny_loadName_local (env := envF (NF.of st x qual [("__class__", cc)] c) f s0.heap.objs.size) I.ok.kind hka hns hl ?_
  obtain ⟨d, hD⟩ := B.cd
  obtain ⟨oD, hD1, hD2⟩ : ∃ oD, s.heap.get? D = some oD ∧ oD.data = .cls d := by
    unfold PySem.W.clsIn at hD
    split at hD
    · rename_i c1 d1 cd' sl ho
      cases hD
      exact ⟨_, KI _ _ ho, rfl⟩
    · cases hD
  obtain ⟨mA, O, _, _, _, _⟩ := ins_get I.hok hH
  obtain ⟨oi, J, _⟩ := O.look
  obtain ⟨dC, hC⟩ := B.cc
  obtain ⟨of, hof, hofc⟩ : ∃ of, K.lookup f2 = some of ∧ of.cls = .type "function" := by
    have ht' : (K.lookup f2).map (·.cls) = some (.type "function") := B.ty
    cases z : K.lookup f2 with
    | none => rw [z] at ht'; cases ht'
    | some of => rw [z] at ht'; exact ⟨of, rfl, Option.some.inj ht'⟩
  have hne : a ≠ C := PySem.W.ks_ne KI J hC
  obtain ⟨hh, g, dr, tk, os⟩ := s
  refine ks_wpAny_isType_cls hD1 hD2 ⟨rfl, ?_⟩
  refine ks_wpAny_call_super hD1 hD2 O.obj rfl (fun c z => nomatch z) (PySem.W.looks_mroIn KI B.sub) (fun h' e1 kp => ?_)
  have I1 := ClX.pin_new (h' := h') (t' := tk) I kp (Nat.le_refl _) e1 (fun v z => nomatch z)
  have hal : PySem.W.alongIn K m ((dC.mro.dropWhile (· != .ref D)).drop 1) = some (some (.ref f2)) := by
    have z := B.sup
    unfold PySem.W.ks_superIn at z
    rw [hC] at z
    exact z
  refine ks_wpAny_getMethod_super (K := K) (ClX.pin_at I1) (PySem.W.looks_opaque I1.kIn B.op) ((PySem.W.looks_clsIn I1.kIn hC).andThen .now) rfl I1.kIn hal (I1.kIn _ _ hof) hofc hne hat ?_
  have I2 := ClX.pin_new (o := PySem.W.methodObj (.ref f2) (.ref a)) (h' := h'.push (PySem.W.methodObj (.ref f2) (.ref a))) (t' := tk + 1) I1 (fun _ _ z => Heap.get?_push_of_some _ z) (Nat.le_refl _) (Heap.get?_push_size h' rfl) (fun v z => nomatch z)
  refine ClX.callwith_cm I2 (ClX.base_none I1 (Nat.le_refl _)) B.fn (thn (ha.run pos _ _ σ H _ I2 h) fun us s1 ⟨ws, H1, I3, r, q⟩ => ⟨⟨ClX.pin_at I3, I3.kIn⟩, ?_⟩) hst hpl
  have hl2 := F2.len _ _ _ _ q
  have r2 : Vals (V.ref a :: ws) (Value.ref a :: us) := .cons rfl r
  have bt := hb s1 (Value.ref a :: us) I3.kIn (by rw [List.append_nil, ← r2.length]; exact hl2)
  rw [List.append_nil] at bt
  refine wpAny_call (PySem.W.method_call (ClX.pin_at I3) (codeAny_mono (F2.run _ _ s1 H1 ⟨Value.ref a :: us, []⟩ (Value.ref a :: us) (V.ref a :: ws) Q E hr I3.env0 bt r2 q) fun rr s' hq => ?_))
  cases rr with
  | error er => exact hx _ σ H1 s1 er s' I3 hq
  | ok fl =>
    cases fl with
    | ret v => exact ClX.unpinE (ClX.unpinE (I3.after hq))
    | next => exact False.elim hq
    | brk => exact False.elim hq
    | cont => exact False.elim hq
end
end Sup
namespace Sup
open PySem PySem.Spec PyProof.Rows L2 NdefX
theorem DefS.funS {K : PySem.W.Frag} {d : DefS} (e : fnS K (d.at_ K) = d.val) (c : d.ok K = true) : ∃ fd, FunS K d.name d.qual d.st (d.cls K) (d.at_ K) fd := by
  obtain ⟨kp, c2⟩ := He.ba c
  unfold fnS at e
  cases q : K.lookup (d.at_ K) with
  | none =>
    rw [q] at c2
    cases c2
  | some o =>
    obtain ⟨oc, od, dt, osl⟩ := o
    rw [q] at c2 e
    cases dt with
    | func fd =>
      obtain ⟨n1, n2, n3, n4, n5, n6, n7, n8, n9, n10, n11, n12, n13, n14, n15⟩ := fd
      have e2 : (some (n1, n2, n3, n4, n5, n6, n7.map (fun c => (c.1, (0 : Addr))), n15) : He.FnW) = (some (d.name, d.qual, C8.fnArgs d.st, FuncBody.stmts (C8.fnBody d.st), C8.fnScope d.st, mainGlobals, [(("__class__" : Str), (0 : Addr))], builtinsNs) : He.FnW) := e
      simp only [Option.some.injEq, Prod.mk.injEq] at e2
      obtain ⟨h1, h2, h3, h4, h5, h6, h7, h8⟩ := e2
      obtain ⟨k1, c3⟩ := He.ba c2
      obtain ⟨k2, c4⟩ := He.ba c3
      obtain ⟨k3, c5⟩ := He.ba c4
      obtain ⟨k4, k5⟩ := He.ba c5
      have j2 : n8 = Value.none := of_decide_eq_true k2
      have j3 : n9 = Value.none := of_decide_eq_true k3
      have j4 : n12 = none := Option.isNone_iff_eq_none.mp k4
      dsimp only at k1 k5
      cases n13 with
      | ref cd =>
        obtain ⟨cn, cc, h7'⟩ : ∃ cn cc, n7 = [(cn, cc)] := by
          match n7, h7 with
          | [(cn, cc)], _ => exact ⟨cn, cc, rfl⟩
        subst h7'
        have ecn : cn = "__class__" := by
          simp only [List.map_cons, List.map_nil, List.cons.injEq, Prod.mk.injEq] at h7
          exact h7.1.1
        dsimp only at k5
        cases qc : K.lookup cc with
        | none => rw [qc] at k5; cases k5
        | some oo =>
          obtain ⟨ccl, cld, cdt, ccs⟩ := oo
          rw [qc] at k5
          cases cdt with
          | cell v =>
            cases v with
            | none => cases k5
            | some v =>
              cases v with
              | ref D =>
                have eD : D = d.cls K := of_decide_eq_true k5
                subst h1 h2 h3 h4 h5 h6 h8 j2 j3 j4 ecn eD
                exact ⟨_, ⟨oc, od, n10, n11, n14, osl, cc, cd, ccl, cld, ccs, rfl, q, k1, qc⟩, kp⟩
              | _ => cases k5
          | _ => cases k5
      | _ => cases k1
    | _ => cases c2
abbrev AlS : Type := Vk.AlP × List He.FnW
def obsS (as : List Addr) (fa : List He.Fa) (fn : List He.DefD) (pn : List He5.DefA) (sn : List DefS) (ex : PySem.W.Frag → Bool) (g : Addr → Option Obj) : AlS := (Vk.obsL as fa fn pn ex g, fnSs sn (He.frT g as))
structure SaysS (fa : List He.Fa) (fn : List He.DefD) (pn : List He5.DefA) (sn : List DefS) (ex : PySem.W.Frag → Bool) (w : World) (h : Heap) (K : PySem.W.Frag) : Prop where
  p : Vk.SaysP fa fn pn ex w h K
  s : fnSs sn K = sn.map DefS.val
def hookS (as : List Addr) (fa : List He.Fa) (fn : List He.DefD) (pn : List He5.DefA) (sn : List DefS) (ex : PySem.W.Frag → Bool) : PySem.W.Hook where
  α := AlS
  obs := fun s => obsS as fa fn pn sn ex s.heap.get?
  val := fun w => (Vk.valP fn pn w, sn.map DefS.val)
  says := fun w h => ∃ K : PySem.W.Frag, K.In h ∧ SaysS fa fn pn sn ex w h K
  of := fun _ _ e => ⟨_, He.frT_in, ⟨⟨congrArg (fun z : AlS => z.1.1.1) e, congrArg (fun z : AlS => z.1.1.2) e, (fun p hp => nomatch hp), (fun p hp => nomatch hp), (fun p hp => nomatch hp)⟩, congrArg (fun z : AlS => z.1.2) e⟩, congrArg (fun z : AlS => z.2) e⟩
  keeps := fun _ _ _ ⟨K, hK, c⟩ k => ⟨K, PySem.W.Frag.In.keeps hK k, ⟨⟨c.p.x.t, c.p.x.more, c.p.x.hd, c.p.x.out, fun p hp => k _ _ (c.p.x.empty p hp)⟩, c.p.p⟩, c.s⟩
theorem obsS_eq {as : List Addr} {fa : List He.Fa} {fn : List He.DefD} {pn : List He5.DefA} {sn : List DefS} {ex : PySem.W.Frag → Bool} {g : Addr → Option Obj} {s : Shared} (h : ∀ a, g a = s.heap.get? a) : obsS as fa fn pn sn ex g = (hookS as fa fn pn sn ex).obs s := by
  have e : g = s.heap.get? := funext h
  rw [e] <;> rfl
theorem SaysS.get {fa : List He.Fa} {fn : List He.DefD} {pn : List He5.DefA} {sn : List DefS} {ex : PySem.W.Frag → Bool} {w : World} {h : Heap} {K : PySem.W.Frag} (c : SaysS fa fn pn sn ex w h K) (hok : (sn.all fun d => d.ok K) = true) (i : Nat) {d : DefS} (hd : sn[i]? = some d := by rfl) : ∃ fd, FunS K d.name d.qual d.st (d.cls K) (d.at_ K) fd := by
  have e2 : (sn.map fun d => fnS K (d.at_ K))[i]? = (sn.map DefS.val)[i]? := by rw [← c.s]; rfl
  rw [List.getElem?_map, List.getElem?_map, hd] at e2
  exact DefS.funS (Option.some.inj e2) (List.all_eq_true.mp hok d (List.mem_of_getElem? hd))
theorem obsS_of {R : PySem.W.OpenRow} {M : Nat} {w : World} {as : List Addr} {fa : List He.Fa} {fn : List He.DefD} {pn : List He5.DefA} {sn : List DefS} {ex : PySem.W.Frag → Bool}
    (h1 : ∀ os, (Ux.EndAt R M w os).map (fun s => Vk.obsL as fa fn pn ex (HandSHeadRun.getT s)) = some (Vk.valP fn pn w))
    (h2 : ∀ os, (Ux.EndAt R M w os).map (fun s => fnSs sn (He.frT (HandSHeadRun.getT s) as)) = some (sn.map DefS.val)) :
    ∀ os, (Ux.EndAt R M w os).map (fun s => obsS as fa fn pn sn ex (HandSHeadRun.getT s)) = some (Vk.valP fn pn w, sn.map DefS.val) := by
  intro os
  have e1 := h1 os
  have e2 := h2 os
  revert e1 e2
  cases Ux.EndAt R M w os with
  | none => intro e1 _; exact nomatch e1
  | some s =>
    intro e1 e2
    exact congrArg some (Prod.ext (Option.some.inj e1) (Option.some.inj e2))
end Sup
namespace Wt
open PySem PySem.Spec PyProof.Rows L2 Ub Ur Ug Ue Up Uo Ve Va Vk Rw
end Wt
namespace Lx
open PySem PySem.Spec PyProof.Rows L2 Ub
abbrev hk : PySem.W.Hook := Sup.hookS asL fa fn pl sn ex
def ob (s : PySem.W.SharedT) : Sup.AlS := Sup.obsS asL fa fn pl sn ex (HandSHeadRun.getT s)
theorem ob_eq (s : PySem.W.SharedT) : ob s = hk.obs s.abs := Sup.obsS_eq (HandSHeadRun.getT_eq s)
abbrev Says (w : World) (h : Heap) (K : PySem.W.Frag) : Prop := Sup.SaysS fa fn pl sn ex w h K
structure Tx (K : PySem.W.Frag) (mg : Str → Option Value) : Prop where
  ValueError : mg "ValueError" = none
  abs : mg "abs" = none
  all : mg "all" = none
  any : mg "any" = none
  bool : mg "bool" = none
  classmethod : mg "classmethod" = none
  dict : mg "dict" = none
  enumerate : mg "enumerate" = none
  int : mg "int" = none
  isinstance : mg "isinstance" = none
  iter : mg "iter" = none
  len : mg "len" = none
  list : mg "list" = none
  max : mg "max" = none
  range : mg "range" = none
  set : mg "set" = none
  sorted : mg "sorted" = none
  str : mg "str" = none
  sum : mg "sum" = none
  super : mg "super" = none
  tuple : mg "tuple" = none
  zip : mg "zip" = none
  c_MOST_DEPTH : ∃ t, mg "MOST_DEPTH" = some (.int 3 t)
  c_MOST_RECORDS : ∃ t, mg "MOST_RECORDS" = some (.int 5 t)
  c_MOST_PLAINS : ∃ t, mg "MOST_PLAINS" = some (.int 5 t)
  c_MOST_FIELDS : ∃ t, mg "MOST_FIELDS" = some (.int 3 t)
  c_LETTERS : ∃ t, mg "LETTERS" = some (.str "abcdefghijklmnopqrstuvwxyz" t)
  g_KEPT_WORDS : mg "KEPT_WORDS" = some (.ref (He.ga K "KEPT_WORDS"))
  t_KEPT_WORDS : ∀ H, SqT K H (He.ga K "KEPT_WORDS") [.str "document", .str "update", .str "set", .str "new", .str "edit", .str "merge", .str "then", .str "old", .str "copy"]
  g_KINDS : mg "KINDS" = some (.ref (He.ga K "KINDS"))
  t_KINDS : ∀ H, SqT K H (He.ga K "KINDS") [.str "same", .str "level", .str "equal"]
  g_MARKS : mg "MARKS" = some (.ref (He.ga K "MARKS"))
  t_MARKS : ∀ H, SqT K H (He.ga K "MARKS") [.str "set", .str "new", .str "edit", .str "merge"]
  c_MOST_PARAMETERS : ∃ t, mg "MOST_PARAMETERS" = some (.int 3 t)
  c_MOST_SLOTS : ∃ t, mg "MOST_SLOTS" = some (.int 3 t)
  c_MOST_ROWS : ∃ t, mg "MOST_ROWS" = some (.int 8 t)
  c_MOST_THENS : ∃ t, mg "MOST_THENS" = some (.int 3 t)
  g_JOINED_WORDS : mg "JOINED_WORDS" = some (.ref (He.ga K "JOINED_WORDS"))
  t_JOINED_WORDS : ∀ H, SqT K H (He.ga K "JOINED_WORDS") [.str "a", .str "b", .str "c"]
  c_MOST_UPDATES : ∃ t, mg "MOST_UPDATES" = some (.int 4 t)
  g_UnseenwritesError : mg "UnseenwritesError" = some (.ref (He.ga K "UnseenwritesError"))
  g_BadShape : mg "BadShape" = some (.ref (He.ga K "BadShape"))
  g_BadPath : mg "BadPath" = some (.ref (He.ga K "BadPath"))
  g_BadLine : mg "BadLine" = some (.ref (He.ga K "BadLine"))
  g_is_word : mg "is_word" = some (.ref (He.ga K "is_word"))
  g_records_of : mg "records_of" = some (.ref (He.ga K "records_of"))
  g_plains_of : mg "plains_of" = some (.ref (He.ga K "plains_of"))
  g_text_of : mg "text_of" = some (.ref (He.ga K "text_of"))
  g_scan_word : mg "scan_word" = some (.ref (He.ga K "scan_word"))
  g_scan_shape : mg "scan_shape" = some (.ref (He.ga K "scan_shape"))
  g_is_bounded : mg "is_bounded" = some (.ref (He.ga K "is_bounded"))
  g_tree_of : mg "tree_of" = some (.ref (He.ga K "tree_of"))
  g_Shape : mg "Shape" = some (.ref (He.ga K "Shape"))
  g_is_whole : mg "is_whole" = some (.ref (He.ga K "is_whole"))
  g_are_wholes : mg "are_wholes" = some (.ref (He.ga K "are_wholes"))
  g_spans_of : mg "spans_of" = some (.ref (He.ga K "spans_of"))
  g_are_numbered : mg "are_numbered" = some (.ref (He.ga K "are_numbered"))
  g_are_consistent : mg "are_consistent" = some (.ref (He.ga K "are_consistent"))
  g_is_form : mg "is_form" = some (.ref (He.ga K "is_form"))
  g_is_held_form : mg "is_held_form" = some (.ref (He.ga K "is_held_form"))
  g_check_record_path : mg "check_record_path" = some (.ref (He.ga K "check_record_path"))
  g_Worlds : mg "Worlds" = some (.ref (He.ga K "Worlds"))
  g_HeldWorlds : mg "HeldWorlds" = some (.ref (He.ga K "HeldWorlds"))
  g_Update : mg "Update" = some (.ref (He.ga K "Update"))
  g_add_line : mg "add_line" = some (.ref (He.ga K "add_line"))
  g_Book : mg "Book" = some (.ref (He.ga K "Book"))
  g__law_start : mg "_law_start" = some (.ref (He.ga K "_law_start"))
  g__law_draw : mg "_law_draw" = some (.ref (He.ga K "_law_draw"))
  g__law_of : mg "_law_of" = some (.ref (He.ga K "_law_of"))
  g__law_word : mg "_law_word" = some (.ref (He.ga K "_law_word"))
  g__law_size : mg "_law_size" = some (.ref (He.ga K "_law_size"))
  g__law_tree : mg "_law_tree" = some (.ref (He.ga K "_law_tree"))
  g__law_fields : mg "_law_fields" = some (.ref (He.ga K "_law_fields"))
  g__law_text : mg "_law_text" = some (.ref (He.ga K "_law_text"))
  g__law_paths : mg "_law_paths" = some (.ref (He.ga K "_law_paths"))
  g__law_path : mg "_law_path" = some (.ref (He.ga K "_law_path"))
  g__law_shape : mg "_law_shape" = some (.ref (He.ga K "_law_shape"))
  g__law_made : mg "_law_made" = some (.ref (He.ga K "_law_made"))
  g__law_at : mg "_law_at" = some (.ref (He.ga K "_law_at"))
  g__law_below : mg "_law_below" = some (.ref (He.ga K "_law_below"))
  g__law_get : mg "_law_get" = some (.ref (He.ga K "_law_get"))
  g__law_set : mg "_law_set" = some (.ref (He.ga K "_law_set"))
  g__law_content : mg "_law_content" = some (.ref (He.ga K "_law_content"))
  g__law_nodes : mg "_law_nodes" = some (.ref (He.ga K "_law_nodes"))
  g__law_numbers : mg "_law_numbers" = some (.ref (He.ga K "_law_numbers"))
  g__law_form : mg "_law_form" = some (.ref (He.ga K "_law_form"))
  g__law_held_form : mg "_law_held_form" = some (.ref (He.ga K "_law_held_form"))
  g__law_spoiled : mg "_law_spoiled" = some (.ref (He.ga K "_law_spoiled"))
  g__law_is_row : mg "_law_is_row" = some (.ref (He.ga K "_law_is_row"))
  g__law_is_counted : mg "_law_is_counted" = some (.ref (He.ga K "_law_is_counted"))
  g__law_places : mg "_law_places" = some (.ref (He.ga K "_law_places"))
  g__law_do_agree : mg "_law_do_agree" = some (.ref (He.ga K "_law_do_agree"))
  g__law_is_world : mg "_law_is_world" = some (.ref (He.ga K "_law_is_world"))
  g__law_shared : mg "_law_shared" = some (.ref (He.ga K "_law_shared"))
  g_law : mg "law" = some (.ref (He.ga K "law"))
  fi_get : PySem.W.fnIn K (He.fAd K ("Shape", some "__getitem__")) = true
  fi_con : PySem.W.fnIn K (He.fAd K ("Shape", some "__contains__")) = true
  nf : Uo.NF K (He.ga K "Shape")
  nn : Uo.NoNe K (He.ga K "Shape")
  ty : Ve.TyC K (He.ga K "Shape")
  fi_wcon : PySem.W.fnIn K (He.fAd K ("Worlds", some "__contains__")) = true
  fi_hcon : PySem.W.fnIn K (He.fAd K ("HeldWorlds", some "__contains__")) = true
  su_HeldWorlds : Sup.SupF K (He.ga K "HeldWorlds") (He.ga K "HeldWorlds") "__init__" (He.fAd K ("HeldWorlds", some "__init__")) (He.fAd K ("Worlds", some "__init__")) fileT
  sn_ok : (sn.all fun d => d.ok K) = true
  x_BadShape : Ue.ExK K (He.ga K "BadShape") (He.fAd K ("BadShape", some "__init__")) "text"
  x_BadPath : Ue.ExK K (He.ga K "BadPath") (He.fAd K ("BadPath", some "__init__")) "path"
  x_BadLine : Ue.ExK K (He.ga K "BadLine") (He.fAd K ("BadLine", some "__init__")) "at"
  p_Shape_is_plain : Vk.PropB K "Shape" "is_plain"
  p_Shape_records : Vk.PropB K "Shape" "records"
  p_Shape_plains : Vk.PropB K "Shape" "plains"
  k_Shape : Cls K (He.ga K "Shape")
  m_Shape : Mk K (He.ga K "Shape") (He.fAd K ("Shape", some "__init__"))
  n_Shape_text : NoAttr K (He.ga K "Shape") "text"
  n_Shape_tree : NoAttr K (He.ga K "Shape") "tree"
  n_Shape_names : NoAttr K (He.ga K "Shape") "names"
  n_Shape_fields : NoAttr K (He.ga K "Shape") "fields"
  n_Shape_spots : NoAttr K (He.ga K "Shape") "spots"
  h_Shape___getitem__ : Meth K (He.ga K "Shape") "__getitem__" (He.fAd K ("Shape", some "__getitem__"))
  h_Shape___contains__ : Meth K (He.ga K "Shape") "__contains__" (He.fAd K ("Shape", some "__contains__"))
  k_Book : Cls K (He.ga K "Book")
  m_Book : Mk K (He.ga K "Book") (He.fAd K ("Book", some "__init__"))
  n_Book_text : NoAttr K (He.ga K "Book") "text"
  n_Book_shape : NoAttr K (He.ga K "Book") "shape"
  n_Book_names : NoAttr K (He.ga K "Book") "names"
  n_Book_updates : NoAttr K (He.ga K "Book") "updates"
  k_Update : Cls K (He.ga K "Update")
  m_Update : Mk K (He.ga K "Update") (He.fAd K ("Update", some "__init__"))
  k_Worlds : Cls K (He.ga K "Worlds")
  m_Worlds : Mk K (He.ga K "Worlds") (He.fAd K ("Worlds", some "__init__"))
  n_Worlds_book : NoAttr K (He.ga K "Worlds") "book"
  h_Worlds___contains__ : Meth K (He.ga K "Worlds") "__contains__" (He.fAd K ("Worlds", some "__contains__"))
  k_HeldWorlds : Cls K (He.ga K "HeldWorlds")
  m_HeldWorlds : Mk K (He.ga K "HeldWorlds") (He.fAd K ("HeldWorlds", some "__init__"))
  n_HeldWorlds_book : NoAttr K (He.ga K "HeldWorlds") "book"
  n_HeldWorlds_path : NoAttr K (He.ga K "HeldWorlds") "path"
  h_HeldWorlds___contains__ : Meth K (He.ga K "HeldWorlds") "__contains__" (He.fAd K ("HeldWorlds", some "__contains__"))
theorem tx_of {K : PySem.W.Frag} {w : World} {h : Heap} {mg : Str → Option Value} (X : K.In h) (G : h.Ns mainGlobals mg) (c : Says w h K) : Tx K mg :=
  have zz0 := (He.ba c.p.more).2
  have zz1 := (He.ba zz0).2
  have zz2 := (He.ba zz1).2
  have zz3 := (He.ba zz2).2
  have zz4 := (He.ba zz3).2
  have zz5 := (He.ba zz4).1
  have zz6 := (He.ba zz5).1
  have zz7 := (He.ba zz6).1
  have zz8 := (He.ba zz7).1
  have zz9 := (He.ba zz8).1
  have zz10 := (He.ba zz9).1
  have zz11 := (He.ba zz10).1
  have zz12 := (He.ba zz11).1
  have zz13 := (He.ba zz12).1
  have zz14 := (He.ba zz13).1
  have zz15 := (He.ba zz14).1
  have zz16 := (He.ba zz15).1
  have zz17 := (He.ba zz16).1
  have zz18 := (He.ba zz17).1
  have zz19 := (He.ba zz18).1
  have zz20 := (He.ba zz19).1
  have zz21 := (He.ba zz20).1
  {
  ValueError := He.free_ok X G (c.p.x.t.d.fact 69 (f := .free "ValueError") rfl),
  abs := He.free_ok X G (c.p.x.t.d.fact 70 (f := .free "abs") rfl),
  all := He.free_ok X G (c.p.x.t.d.fact 71 (f := .free "all") rfl),
  any := He.free_ok X G (c.p.x.t.d.fact 72 (f := .free "any") rfl),
  bool := He.free_ok X G (c.p.x.t.d.fact 73 (f := .free "bool") rfl),
  classmethod := He.free_ok X G (c.p.x.t.d.fact 74 (f := .free "classmethod") rfl),
  dict := He.free_ok X G (c.p.x.t.d.fact 75 (f := .free "dict") rfl),
  enumerate := He.free_ok X G (c.p.x.t.d.fact 76 (f := .free "enumerate") rfl),
  int := He.free_ok X G (c.p.x.t.d.fact 77 (f := .free "int") rfl),
  isinstance := He.free_ok X G (c.p.x.t.d.fact 78 (f := .free "isinstance") rfl),
  iter := He.free_ok X G (c.p.x.t.d.fact 79 (f := .free "iter") rfl),
  len := He.free_ok X G (c.p.x.t.d.fact 80 (f := .free "len") rfl),
  list := He.free_ok X G (c.p.x.t.d.fact 81 (f := .free "list") rfl),
  max := He.free_ok X G (c.p.x.t.d.fact 82 (f := .free "max") rfl),
  range := He.free_ok X G (c.p.x.t.d.fact 83 (f := .free "range") rfl),
  set := He.free_ok X G (c.p.x.t.d.fact 84 (f := .free "set") rfl),
  sorted := He.free_ok X G (c.p.x.t.d.fact 85 (f := .free "sorted") rfl),
  str := He.free_ok X G (c.p.x.t.d.fact 86 (f := .free "str") rfl),
  sum := He.free_ok X G (c.p.x.t.d.fact 87 (f := .free "sum") rfl),
  super := He.free_ok X G (c.p.x.t.d.fact 88 (f := .free "super") rfl),
  tuple := He.free_ok X G (c.p.x.t.d.fact 89 (f := .free "tuple") rfl),
  zip := He.free_ok X G (c.p.x.t.d.fact 90 (f := .free "zip") rfl),
  c_MOST_DEPTH := He.int_ok X G (c.p.x.t.d.fact 59 (f := .int "MOST_DEPTH" 3) rfl),
  c_MOST_RECORDS := He.int_ok X G (c.p.x.t.d.fact 60 (f := .int "MOST_RECORDS" 5) rfl),
  c_MOST_PLAINS := He.int_ok X G (c.p.x.t.d.fact 61 (f := .int "MOST_PLAINS" 5) rfl),
  c_MOST_FIELDS := He.int_ok X G (c.p.x.t.d.fact 62 (f := .int "MOST_FIELDS" 3) rfl),
  c_LETTERS := He.str_ok X G (c.p.x.t.d.fact 68 (f := .str "LETTERS" "abcdefghijklmnopqrstuvwxyz") rfl),
  g_KEPT_WORDS := He.glo_ok X G (c.p.x.t.d.fact 4 (f := .glo "KEPT_WORDS") rfl),
  t_KEPT_WORDS := fun H => He.tupB_ok (x := "KEPT_WORDS") (vs := [.str "document", .str "update", .str "set", .str "new", .str "edit", .str "merge", .str "then", .str "old", .str "copy"]) (He.ba zz21).1 H,
  g_KINDS := He.glo_ok X G (c.p.x.t.d.fact 21 (f := .glo "KINDS") rfl),
  t_KINDS := fun H => He.tupB_ok (x := "KINDS") (vs := [.str "same", .str "level", .str "equal"]) (He.ba zz21).2 H,
  g_MARKS := He.glo_ok X G (c.p.x.t.d.fact 25 (f := .glo "MARKS") rfl),
  t_MARKS := fun H => He.tupB_ok (x := "MARKS") (vs := [.str "set", .str "new", .str "edit", .str "merge"]) (He.ba zz20).2 H,
  c_MOST_PARAMETERS := He.int_ok X G (c.p.x.t.d.fact 63 (f := .int "MOST_PARAMETERS" 3) rfl),
  c_MOST_SLOTS := He.int_ok X G (c.p.x.t.d.fact 64 (f := .int "MOST_SLOTS" 3) rfl),
  c_MOST_ROWS := He.int_ok X G (c.p.x.t.d.fact 65 (f := .int "MOST_ROWS" 8) rfl),
  c_MOST_THENS := He.int_ok X G (c.p.x.t.d.fact 66 (f := .int "MOST_THENS" 3) rfl),
  g_JOINED_WORDS := He.glo_ok X G (c.p.x.t.d.fact 26 (f := .glo "JOINED_WORDS") rfl),
  t_JOINED_WORDS := fun H => He.tupB_ok (x := "JOINED_WORDS") (vs := [.str "a", .str "b", .str "c"]) (He.ba zz19).2 H,
  c_MOST_UPDATES := He.int_ok X G (c.p.x.t.d.fact 67 (f := .int "MOST_UPDATES" 4) rfl),
  k_Shape := He.cls_ok (c.p.x.t.d.fact 91 (f := .cls "Shape") rfl),
  m_Shape := He.mkr_ok (c.p.x.t.d.fact 92 (f := .mkr "Shape") rfl),
  n_Shape_text := He.noat_ok (c.p.x.t.d.fact 93 (f := .noat "Shape" "text") rfl),
  n_Shape_tree := He.noat_ok (c.p.x.t.d.fact 94 (f := .noat "Shape" "tree") rfl),
  n_Shape_names := He.noat_ok (c.p.x.t.d.fact 95 (f := .noat "Shape" "names") rfl),
  n_Shape_fields := He.noat_ok (c.p.x.t.d.fact 96 (f := .noat "Shape" "fields") rfl),
  n_Shape_spots := He.noat_ok (c.p.x.t.d.fact 97 (f := .noat "Shape" "spots") rfl),
  h_Shape___getitem__ := He.meth_ok (c.p.x.t.d.fact 98 (f := .meth "Shape" "__getitem__") rfl),
  h_Shape___contains__ := He.meth_ok (c.p.x.t.d.fact 99 (f := .meth "Shape" "__contains__") rfl),
  k_Book := He.cls_ok (c.p.x.t.d.fact 100 (f := .cls "Book") rfl),
  m_Book := He.mkr_ok (c.p.x.t.d.fact 101 (f := .mkr "Book") rfl),
  n_Book_text := He.noat_ok (c.p.x.t.d.fact 102 (f := .noat "Book" "text") rfl),
  n_Book_shape := He.noat_ok (c.p.x.t.d.fact 103 (f := .noat "Book" "shape") rfl),
  n_Book_names := He.noat_ok (c.p.x.t.d.fact 104 (f := .noat "Book" "names") rfl),
  n_Book_updates := He.noat_ok (c.p.x.t.d.fact 105 (f := .noat "Book" "updates") rfl),
  k_Update := He.cls_ok (c.p.x.t.d.fact 106 (f := .cls "Update") rfl),
  m_Update := He.mkr_ok (c.p.x.t.d.fact 107 (f := .mkr "Update") rfl),
  k_Worlds := He.cls_ok (c.p.x.t.d.fact 108 (f := .cls "Worlds") rfl),
  m_Worlds := He.mkr_ok (c.p.x.t.d.fact 109 (f := .mkr "Worlds") rfl),
  n_Worlds_book := He.noat_ok (c.p.x.t.d.fact 110 (f := .noat "Worlds" "book") rfl),
  h_Worlds___contains__ := He.meth_ok (c.p.x.t.d.fact 111 (f := .meth "Worlds" "__contains__") rfl),
  k_HeldWorlds := He.cls_ok (c.p.x.t.d.fact 112 (f := .cls "HeldWorlds") rfl),
  m_HeldWorlds := He.mkr_ok (c.p.x.t.d.fact 113 (f := .mkr "HeldWorlds") rfl),
  n_HeldWorlds_book := He.noat_ok (c.p.x.t.d.fact 114 (f := .noat "HeldWorlds" "book") rfl),
  n_HeldWorlds_path := He.noat_ok (c.p.x.t.d.fact 115 (f := .noat "HeldWorlds" "path") rfl),
  h_HeldWorlds___contains__ := He.meth_ok (c.p.x.t.d.fact 116 (f := .meth "HeldWorlds" "__contains__") rfl),
  fi_get := of_decide_eq_true (He.ba zz18).2,
  fi_con := of_decide_eq_true (He.ba zz17).2,
  nf := Uo.nfB_ok (He.ba zz16).2,
  nn := Uo.noNeB_ok (He.ba zz15).2,
  ty := Ve.tyCB_ok (He.ba zz14).2,
  fi_wcon := of_decide_eq_true (He.ba zz13).2,
  fi_hcon := of_decide_eq_true (He.ba zz12).2,
  su_HeldWorlds := Sup.supB_ok (He.ba zz11).2,
  sn_ok := (He.ba zz10).2,
  x_BadShape := Ue.exB_ok (He.ba zz9).2,
  x_BadPath := Ue.exB_ok (He.ba zz8).2,
  x_BadLine := Ue.exB_ok (He.ba zz7).2,
  p_Shape_is_plain := Vk.propB_ok (He.ba zz6).2,
  p_Shape_records := Vk.propB_ok (He.ba zz5).2,
  p_Shape_plains := Vk.propB_ok (He.ba zz4).2,
  g_UnseenwritesError := He.glo_ok X G (c.p.x.t.d.fact 0 (f := .glo "UnseenwritesError") rfl),
  g_BadShape := He.glo_ok X G (c.p.x.t.d.fact 1 (f := .glo "BadShape") rfl),
  g_BadPath := He.glo_ok X G (c.p.x.t.d.fact 2 (f := .glo "BadPath") rfl),
  g_BadLine := He.glo_ok X G (c.p.x.t.d.fact 3 (f := .glo "BadLine") rfl),
  g_is_word := He.glo_ok X G (c.p.x.t.d.fact 5 (f := .glo "is_word") rfl),
  g_records_of := He.glo_ok X G (c.p.x.t.d.fact 6 (f := .glo "records_of") rfl),
  g_plains_of := He.glo_ok X G (c.p.x.t.d.fact 7 (f := .glo "plains_of") rfl),
  g_text_of := He.glo_ok X G (c.p.x.t.d.fact 8 (f := .glo "text_of") rfl),
  g_scan_word := He.glo_ok X G (c.p.x.t.d.fact 9 (f := .glo "scan_word") rfl),
  g_scan_shape := He.glo_ok X G (c.p.x.t.d.fact 10 (f := .glo "scan_shape") rfl),
  g_is_bounded := He.glo_ok X G (c.p.x.t.d.fact 11 (f := .glo "is_bounded") rfl),
  g_tree_of := He.glo_ok X G (c.p.x.t.d.fact 12 (f := .glo "tree_of") rfl),
  g_Shape := He.glo_ok X G (c.p.x.t.d.fact 13 (f := .glo "Shape") rfl),
  g_is_whole := He.glo_ok X G (c.p.x.t.d.fact 14 (f := .glo "is_whole") rfl),
  g_are_wholes := He.glo_ok X G (c.p.x.t.d.fact 15 (f := .glo "are_wholes") rfl),
  g_spans_of := He.glo_ok X G (c.p.x.t.d.fact 16 (f := .glo "spans_of") rfl),
  g_are_numbered := He.glo_ok X G (c.p.x.t.d.fact 17 (f := .glo "are_numbered") rfl),
  g_are_consistent := He.glo_ok X G (c.p.x.t.d.fact 18 (f := .glo "are_consistent") rfl),
  g_is_form := He.glo_ok X G (c.p.x.t.d.fact 19 (f := .glo "is_form") rfl),
  g_is_held_form := He.glo_ok X G (c.p.x.t.d.fact 20 (f := .glo "is_held_form") rfl),
  g_check_record_path := He.glo_ok X G (c.p.x.t.d.fact 22 (f := .glo "check_record_path") rfl),
  g_Worlds := He.glo_ok X G (c.p.x.t.d.fact 23 (f := .glo "Worlds") rfl),
  g_HeldWorlds := He.glo_ok X G (c.p.x.t.d.fact 24 (f := .glo "HeldWorlds") rfl),
  g_Update := He.glo_ok X G (c.p.x.t.d.fact 27 (f := .glo "Update") rfl),
  g_add_line := He.glo_ok X G (c.p.x.t.d.fact 28 (f := .glo "add_line") rfl),
  g_Book := He.glo_ok X G (c.p.x.t.d.fact 29 (f := .glo "Book") rfl),
  g__law_start := He.glo_ok X G (c.p.x.t.d.fact 30 (f := .glo "_law_start") rfl),
  g__law_draw := He.glo_ok X G (c.p.x.t.d.fact 31 (f := .glo "_law_draw") rfl),
  g__law_of := He.glo_ok X G (c.p.x.t.d.fact 32 (f := .glo "_law_of") rfl),
  g__law_word := He.glo_ok X G (c.p.x.t.d.fact 33 (f := .glo "_law_word") rfl),
  g__law_size := He.glo_ok X G (c.p.x.t.d.fact 34 (f := .glo "_law_size") rfl),
  g__law_tree := He.glo_ok X G (c.p.x.t.d.fact 35 (f := .glo "_law_tree") rfl),
  g__law_fields := He.glo_ok X G (c.p.x.t.d.fact 36 (f := .glo "_law_fields") rfl),
  g__law_text := He.glo_ok X G (c.p.x.t.d.fact 37 (f := .glo "_law_text") rfl),
  g__law_paths := He.glo_ok X G (c.p.x.t.d.fact 38 (f := .glo "_law_paths") rfl),
  g__law_path := He.glo_ok X G (c.p.x.t.d.fact 39 (f := .glo "_law_path") rfl),
  g__law_shape := He.glo_ok X G (c.p.x.t.d.fact 40 (f := .glo "_law_shape") rfl),
  g__law_made := He.glo_ok X G (c.p.x.t.d.fact 41 (f := .glo "_law_made") rfl),
  g__law_at := He.glo_ok X G (c.p.x.t.d.fact 42 (f := .glo "_law_at") rfl),
  g__law_below := He.glo_ok X G (c.p.x.t.d.fact 43 (f := .glo "_law_below") rfl),
  g__law_get := He.glo_ok X G (c.p.x.t.d.fact 44 (f := .glo "_law_get") rfl),
  g__law_set := He.glo_ok X G (c.p.x.t.d.fact 45 (f := .glo "_law_set") rfl),
  g__law_content := He.glo_ok X G (c.p.x.t.d.fact 46 (f := .glo "_law_content") rfl),
  g__law_nodes := He.glo_ok X G (c.p.x.t.d.fact 47 (f := .glo "_law_nodes") rfl),
  g__law_numbers := He.glo_ok X G (c.p.x.t.d.fact 48 (f := .glo "_law_numbers") rfl),
  g__law_form := He.glo_ok X G (c.p.x.t.d.fact 49 (f := .glo "_law_form") rfl),
  g__law_held_form := He.glo_ok X G (c.p.x.t.d.fact 50 (f := .glo "_law_held_form") rfl),
  g__law_spoiled := He.glo_ok X G (c.p.x.t.d.fact 51 (f := .glo "_law_spoiled") rfl),
  g__law_is_row := He.glo_ok X G (c.p.x.t.d.fact 52 (f := .glo "_law_is_row") rfl),
  g__law_is_counted := He.glo_ok X G (c.p.x.t.d.fact 53 (f := .glo "_law_is_counted") rfl),
  g__law_places := He.glo_ok X G (c.p.x.t.d.fact 54 (f := .glo "_law_places") rfl),
  g__law_do_agree := He.glo_ok X G (c.p.x.t.d.fact 55 (f := .glo "_law_do_agree") rfl),
  g__law_is_world := He.glo_ok X G (c.p.x.t.d.fact 56 (f := .glo "_law_is_world") rfl),
  g__law_shared := He.glo_ok X G (c.p.x.t.d.fact 57 (f := .glo "_law_shared") rfl),
  g_law := He.glo_ok X G (c.p.x.t.d.fact 58 (f := .glo "law") rfl) }
/-- a def of the top as it stands -/
abbrev Df (K : PySem.W.Frag) (at_ : Str × Option Str) (x q : Str) (st : Stmt) (dvs : List V) (fd : FuncData) : Prop := FunD K x q (defArgs st) (defBody st) (defScope st) dvs [] (He.fAd K at_) fd
theorem df_BadShape___init__ {K : PySem.W.Frag} {w : World} {h : Heap} (c : Says w h K) : ∃ fd, Df K ("BadShape", some "__init__") "__init__" "BadShape.__init__" s_BadShape___init__ [] fd := c.p.x.t.d.def_ 0 (d := dd ("BadShape", some "__init__") "__init__" "BadShape.__init__" s_BadShape___init__ []) rfl
theorem df_BadPath___init__ {K : PySem.W.Frag} {w : World} {h : Heap} (c : Says w h K) : ∃ fd, Df K ("BadPath", some "__init__") "__init__" "BadPath.__init__" s_BadPath___init__ [] fd := c.p.x.t.d.def_ 1 (d := dd ("BadPath", some "__init__") "__init__" "BadPath.__init__" s_BadPath___init__ []) rfl
theorem df_BadLine___init__ {K : PySem.W.Frag} {w : World} {h : Heap} (c : Says w h K) : ∃ fd, Df K ("BadLine", some "__init__") "__init__" "BadLine.__init__" s_BadLine___init__ [] fd := c.p.x.t.d.def_ 2 (d := dd ("BadLine", some "__init__") "__init__" "BadLine.__init__" s_BadLine___init__ []) rfl
theorem df_is_word {K : PySem.W.Frag} {w : World} {h : Heap} (c : Says w h K) : ∃ fd, Df K ("is_word", none) "is_word" "is_word" s_is_word [] fd := c.p.x.t.d.def_ 3 (d := dd ("is_word", none) "is_word" "is_word" s_is_word []) rfl
theorem df_records_of {K : PySem.W.Frag} {w : World} {h : Heap} (c : Says w h K) : ∃ fd, Df K ("records_of", none) "records_of" "records_of" s_records_of [] fd := c.p.x.t.d.def_ 4 (d := dd ("records_of", none) "records_of" "records_of" s_records_of []) rfl
theorem df_plains_of {K : PySem.W.Frag} {w : World} {h : Heap} (c : Says w h K) : ∃ fd, Df K ("plains_of", none) "plains_of" "plains_of" s_plains_of [] fd := c.p.x.t.d.def_ 5 (d := dd ("plains_of", none) "plains_of" "plains_of" s_plains_of []) rfl
theorem df_text_of {K : PySem.W.Frag} {w : World} {h : Heap} (c : Says w h K) : ∃ fd, Df K ("text_of", none) "text_of" "text_of" s_text_of [] fd := c.p.x.t.d.def_ 6 (d := dd ("text_of", none) "text_of" "text_of" s_text_of []) rfl
theorem df_scan_word {K : PySem.W.Frag} {w : World} {h : Heap} (c : Says w h K) : ∃ fd, Df K ("scan_word", none) "scan_word" "scan_word" s_scan_word [] fd := c.p.x.t.d.def_ 7 (d := dd ("scan_word", none) "scan_word" "scan_word" s_scan_word []) rfl
theorem df_scan_shape {K : PySem.W.Frag} {w : World} {h : Heap} (c : Says w h K) : ∃ fd, Df K ("scan_shape", none) "scan_shape" "scan_shape" s_scan_shape [.int 3] fd := c.p.x.t.d.def_ 8 (d := dd ("scan_shape", none) "scan_shape" "scan_shape" s_scan_shape [.int 3]) rfl
theorem df_is_bounded {K : PySem.W.Frag} {w : World} {h : Heap} (c : Says w h K) : ∃ fd, Df K ("is_bounded", none) "is_bounded" "is_bounded" s_is_bounded [] fd := c.p.x.t.d.def_ 9 (d := dd ("is_bounded", none) "is_bounded" "is_bounded" s_is_bounded []) rfl
theorem df_tree_of {K : PySem.W.Frag} {w : World} {h : Heap} (c : Says w h K) : ∃ fd, Df K ("tree_of", none) "tree_of" "tree_of" s_tree_of [] fd := c.p.x.t.d.def_ 10 (d := dd ("tree_of", none) "tree_of" "tree_of" s_tree_of []) rfl
theorem df_Shape___init__ {K : PySem.W.Frag} {w : World} {h : Heap} (c : Says w h K) : ∃ fd, Df K ("Shape", some "__init__") "__init__" "Shape.__init__" s_Shape___init__ [] fd := c.p.x.t.d.def_ 11 (d := dd ("Shape", some "__init__") "__init__" "Shape.__init__" s_Shape___init__ []) rfl
theorem df_Shape___getitem__ {K : PySem.W.Frag} {w : World} {h : Heap} (c : Says w h K) : ∃ fd, Df K ("Shape", some "__getitem__") "__getitem__" "Shape.__getitem__" s_Shape___getitem__ [] fd := c.p.x.t.d.def_ 12 (d := dd ("Shape", some "__getitem__") "__getitem__" "Shape.__getitem__" s_Shape___getitem__ []) rfl
theorem df_Shape___contains__ {K : PySem.W.Frag} {w : World} {h : Heap} (c : Says w h K) : ∃ fd, Df K ("Shape", some "__contains__") "__contains__" "Shape.__contains__" s_Shape___contains__ [] fd := c.p.x.t.d.def_ 13 (d := dd ("Shape", some "__contains__") "__contains__" "Shape.__contains__" s_Shape___contains__ []) rfl
theorem df_is_whole {K : PySem.W.Frag} {w : World} {h : Heap} (c : Says w h K) : ∃ fd, Df K ("is_whole", none) "is_whole" "is_whole" s_is_whole [] fd := c.p.x.t.d.def_ 14 (d := dd ("is_whole", none) "is_whole" "is_whole" s_is_whole []) rfl
theorem df_are_wholes {K : PySem.W.Frag} {w : World} {h : Heap} (c : Says w h K) : ∃ fd, Df K ("are_wholes", none) "are_wholes" "are_wholes" s_are_wholes [] fd := c.p.x.t.d.def_ 15 (d := dd ("are_wholes", none) "are_wholes" "are_wholes" s_are_wholes []) rfl
theorem df_spans_of {K : PySem.W.Frag} {w : World} {h : Heap} (c : Says w h K) : ∃ fd, Df K ("spans_of", none) "spans_of" "spans_of" s_spans_of [] fd := c.p.x.t.d.def_ 16 (d := dd ("spans_of", none) "spans_of" "spans_of" s_spans_of []) rfl
theorem df_are_numbered {K : PySem.W.Frag} {w : World} {h : Heap} (c : Says w h K) : ∃ fd, Df K ("are_numbered", none) "are_numbered" "are_numbered" s_are_numbered [] fd := c.p.x.t.d.def_ 17 (d := dd ("are_numbered", none) "are_numbered" "are_numbered" s_are_numbered []) rfl
theorem df_are_consistent {K : PySem.W.Frag} {w : World} {h : Heap} (c : Says w h K) : ∃ fd, Df K ("are_consistent", none) "are_consistent" "are_consistent" s_are_consistent [] fd := c.p.x.t.d.def_ 18 (d := dd ("are_consistent", none) "are_consistent" "are_consistent" s_are_consistent []) rfl
theorem df_is_form {K : PySem.W.Frag} {w : World} {h : Heap} (c : Says w h K) : ∃ fd, Df K ("is_form", none) "is_form" "is_form" s_is_form [] fd := c.p.x.t.d.def_ 19 (d := dd ("is_form", none) "is_form" "is_form" s_is_form []) rfl
theorem df_is_held_form {K : PySem.W.Frag} {w : World} {h : Heap} (c : Says w h K) : ∃ fd, Df K ("is_held_form", none) "is_held_form" "is_held_form" s_is_held_form [] fd := c.p.x.t.d.def_ 20 (d := dd ("is_held_form", none) "is_held_form" "is_held_form" s_is_held_form []) rfl
theorem df_check_record_path {K : PySem.W.Frag} {w : World} {h : Heap} (c : Says w h K) : ∃ fd, Df K ("check_record_path", none) "check_record_path" "check_record_path" s_check_record_path [] fd := c.p.x.t.d.def_ 21 (d := dd ("check_record_path", none) "check_record_path" "check_record_path" s_check_record_path []) rfl
theorem df_Worlds___init__ {K : PySem.W.Frag} {w : World} {h : Heap} (c : Says w h K) : ∃ fd, Df K ("Worlds", some "__init__") "__init__" "Worlds.__init__" s_Worlds___init__ [] fd := c.p.x.t.d.def_ 22 (d := dd ("Worlds", some "__init__") "__init__" "Worlds.__init__" s_Worlds___init__ []) rfl
theorem df_Worlds___contains__ {K : PySem.W.Frag} {w : World} {h : Heap} (c : Says w h K) : ∃ fd, Df K ("Worlds", some "__contains__") "__contains__" "Worlds.__contains__" s_Worlds___contains__ [] fd := c.p.x.t.d.def_ 23 (d := dd ("Worlds", some "__contains__") "__contains__" "Worlds.__contains__" s_Worlds___contains__ []) rfl
theorem df_HeldWorlds___contains__ {K : PySem.W.Frag} {w : World} {h : Heap} (c : Says w h K) : ∃ fd, Df K ("HeldWorlds", some "__contains__") "__contains__" "HeldWorlds.__contains__" s_HeldWorlds___contains__ [] fd := c.p.x.t.d.def_ 24 (d := dd ("HeldWorlds", some "__contains__") "__contains__" "HeldWorlds.__contains__" s_HeldWorlds___contains__ []) rfl
theorem df_Update___init__ {K : PySem.W.Frag} {w : World} {h : Heap} (c : Says w h K) : ∃ fd, Df K ("Update", some "__init__") "__init__" "Update.__init__" s_Update___init__ [] fd := c.p.x.t.d.def_ 25 (d := dd ("Update", some "__init__") "__init__" "Update.__init__" s_Update___init__ []) rfl
theorem df_add_line {K : PySem.W.Frag} {w : World} {h : Heap} (c : Says w h K) : ∃ fd, Df K ("add_line", none) "add_line" "add_line" s_add_line [] fd := c.p.x.t.d.def_ 26 (d := dd ("add_line", none) "add_line" "add_line" s_add_line []) rfl
theorem df_Book___init__ {K : PySem.W.Frag} {w : World} {h : Heap} (c : Says w h K) : ∃ fd, Df K ("Book", some "__init__") "__init__" "Book.__init__" s_Book___init__ [] fd := c.p.x.t.d.def_ 27 (d := dd ("Book", some "__init__") "__init__" "Book.__init__" s_Book___init__ []) rfl
theorem df_law_start {K : PySem.W.Frag} {w : World} {h : Heap} (c : Says w h K) : ∃ fd, Df K ("_law_start", none) "_law_start" "_law_start" s_law_start [] fd := c.p.x.t.d.def_ 28 (d := dd ("_law_start", none) "_law_start" "_law_start" s_law_start []) rfl
theorem df_law_draw {K : PySem.W.Frag} {w : World} {h : Heap} (c : Says w h K) : ∃ fd, Df K ("_law_draw", none) "_law_draw" "_law_draw" s_law_draw [] fd := c.p.x.t.d.def_ 29 (d := dd ("_law_draw", none) "_law_draw" "_law_draw" s_law_draw []) rfl
theorem df_law_of {K : PySem.W.Frag} {w : World} {h : Heap} (c : Says w h K) : ∃ fd, Df K ("_law_of", none) "_law_of" "_law_of" s_law_of [] fd := c.p.x.t.d.def_ 30 (d := dd ("_law_of", none) "_law_of" "_law_of" s_law_of []) rfl
theorem df_law_word {K : PySem.W.Frag} {w : World} {h : Heap} (c : Says w h K) : ∃ fd, Df K ("_law_word", none) "_law_word" "_law_word" s_law_word [] fd := c.p.x.t.d.def_ 31 (d := dd ("_law_word", none) "_law_word" "_law_word" s_law_word []) rfl
theorem df_law_size {K : PySem.W.Frag} {w : World} {h : Heap} (c : Says w h K) : ∃ fd, Df K ("_law_size", none) "_law_size" "_law_size" s_law_size [] fd := c.p.x.t.d.def_ 32 (d := dd ("_law_size", none) "_law_size" "_law_size" s_law_size []) rfl
theorem df_law_tree {K : PySem.W.Frag} {w : World} {h : Heap} (c : Says w h K) : ∃ fd, Df K ("_law_tree", none) "_law_tree" "_law_tree" s_law_tree [] fd := c.p.x.t.d.def_ 33 (d := dd ("_law_tree", none) "_law_tree" "_law_tree" s_law_tree []) rfl
theorem df_law_fields {K : PySem.W.Frag} {w : World} {h : Heap} (c : Says w h K) : ∃ fd, Df K ("_law_fields", none) "_law_fields" "_law_fields" s_law_fields [] fd := c.p.x.t.d.def_ 34 (d := dd ("_law_fields", none) "_law_fields" "_law_fields" s_law_fields []) rfl
theorem df_law_text {K : PySem.W.Frag} {w : World} {h : Heap} (c : Says w h K) : ∃ fd, Df K ("_law_text", none) "_law_text" "_law_text" s_law_text [] fd := c.p.x.t.d.def_ 35 (d := dd ("_law_text", none) "_law_text" "_law_text" s_law_text []) rfl
theorem df_law_paths {K : PySem.W.Frag} {w : World} {h : Heap} (c : Says w h K) : ∃ fd, Df K ("_law_paths", none) "_law_paths" "_law_paths" s_law_paths [] fd := c.p.x.t.d.def_ 36 (d := dd ("_law_paths", none) "_law_paths" "_law_paths" s_law_paths []) rfl
theorem df_law_path {K : PySem.W.Frag} {w : World} {h : Heap} (c : Says w h K) : ∃ fd, Df K ("_law_path", none) "_law_path" "_law_path" s_law_path [] fd := c.p.x.t.d.def_ 37 (d := dd ("_law_path", none) "_law_path" "_law_path" s_law_path []) rfl
theorem df_law_shape {K : PySem.W.Frag} {w : World} {h : Heap} (c : Says w h K) : ∃ fd, Df K ("_law_shape", none) "_law_shape" "_law_shape" s_law_shape [] fd := c.p.x.t.d.def_ 38 (d := dd ("_law_shape", none) "_law_shape" "_law_shape" s_law_shape []) rfl
theorem df_law_made {K : PySem.W.Frag} {w : World} {h : Heap} (c : Says w h K) : ∃ fd, Df K ("_law_made", none) "_law_made" "_law_made" s_law_made [] fd := c.p.x.t.d.def_ 39 (d := dd ("_law_made", none) "_law_made" "_law_made" s_law_made []) rfl
theorem df_law_at {K : PySem.W.Frag} {w : World} {h : Heap} (c : Says w h K) : ∃ fd, Df K ("_law_at", none) "_law_at" "_law_at" s_law_at [] fd := c.p.x.t.d.def_ 40 (d := dd ("_law_at", none) "_law_at" "_law_at" s_law_at []) rfl
theorem df_law_below {K : PySem.W.Frag} {w : World} {h : Heap} (c : Says w h K) : ∃ fd, Df K ("_law_below", none) "_law_below" "_law_below" s_law_below [] fd := c.p.x.t.d.def_ 41 (d := dd ("_law_below", none) "_law_below" "_law_below" s_law_below []) rfl
theorem df_law_get {K : PySem.W.Frag} {w : World} {h : Heap} (c : Says w h K) : ∃ fd, Df K ("_law_get", none) "_law_get" "_law_get" s_law_get [] fd := c.p.x.t.d.def_ 42 (d := dd ("_law_get", none) "_law_get" "_law_get" s_law_get []) rfl
theorem df_law_set {K : PySem.W.Frag} {w : World} {h : Heap} (c : Says w h K) : ∃ fd, Df K ("_law_set", none) "_law_set" "_law_set" s_law_set [] fd := c.p.x.t.d.def_ 43 (d := dd ("_law_set", none) "_law_set" "_law_set" s_law_set []) rfl
theorem df_law_content {K : PySem.W.Frag} {w : World} {h : Heap} (c : Says w h K) : ∃ fd, Df K ("_law_content", none) "_law_content" "_law_content" s_law_content [] fd := c.p.x.t.d.def_ 44 (d := dd ("_law_content", none) "_law_content" "_law_content" s_law_content []) rfl
theorem df_law_nodes {K : PySem.W.Frag} {w : World} {h : Heap} (c : Says w h K) : ∃ fd, Df K ("_law_nodes", none) "_law_nodes" "_law_nodes" s_law_nodes [] fd := c.p.x.t.d.def_ 45 (d := dd ("_law_nodes", none) "_law_nodes" "_law_nodes" s_law_nodes []) rfl
theorem df_law_numbers {K : PySem.W.Frag} {w : World} {h : Heap} (c : Says w h K) : ∃ fd, Df K ("_law_numbers", none) "_law_numbers" "_law_numbers" s_law_numbers [] fd := c.p.x.t.d.def_ 46 (d := dd ("_law_numbers", none) "_law_numbers" "_law_numbers" s_law_numbers []) rfl
theorem df_law_form {K : PySem.W.Frag} {w : World} {h : Heap} (c : Says w h K) : ∃ fd, Df K ("_law_form", none) "_law_form" "_law_form" s_law_form [] fd := c.p.x.t.d.def_ 47 (d := dd ("_law_form", none) "_law_form" "_law_form" s_law_form []) rfl
theorem df_law_held_form {K : PySem.W.Frag} {w : World} {h : Heap} (c : Says w h K) : ∃ fd, Df K ("_law_held_form", none) "_law_held_form" "_law_held_form" s_law_held_form [] fd := c.p.x.t.d.def_ 48 (d := dd ("_law_held_form", none) "_law_held_form" "_law_held_form" s_law_held_form []) rfl
theorem df_law_spoiled {K : PySem.W.Frag} {w : World} {h : Heap} (c : Says w h K) : ∃ fd, Df K ("_law_spoiled", none) "_law_spoiled" "_law_spoiled" s_law_spoiled [] fd := c.p.x.t.d.def_ 49 (d := dd ("_law_spoiled", none) "_law_spoiled" "_law_spoiled" s_law_spoiled []) rfl
theorem df_law_is_row {K : PySem.W.Frag} {w : World} {h : Heap} (c : Says w h K) : ∃ fd, Df K ("_law_is_row", none) "_law_is_row" "_law_is_row" s_law_is_row [] fd := c.p.x.t.d.def_ 50 (d := dd ("_law_is_row", none) "_law_is_row" "_law_is_row" s_law_is_row []) rfl
theorem df_law_is_counted {K : PySem.W.Frag} {w : World} {h : Heap} (c : Says w h K) : ∃ fd, Df K ("_law_is_counted", none) "_law_is_counted" "_law_is_counted" s_law_is_counted [] fd := c.p.x.t.d.def_ 51 (d := dd ("_law_is_counted", none) "_law_is_counted" "_law_is_counted" s_law_is_counted []) rfl
theorem df_law_places {K : PySem.W.Frag} {w : World} {h : Heap} (c : Says w h K) : ∃ fd, Df K ("_law_places", none) "_law_places" "_law_places" s_law_places [] fd := c.p.x.t.d.def_ 52 (d := dd ("_law_places", none) "_law_places" "_law_places" s_law_places []) rfl
theorem df_law_do_agree {K : PySem.W.Frag} {w : World} {h : Heap} (c : Says w h K) : ∃ fd, Df K ("_law_do_agree", none) "_law_do_agree" "_law_do_agree" s_law_do_agree [] fd := c.p.x.t.d.def_ 53 (d := dd ("_law_do_agree", none) "_law_do_agree" "_law_do_agree" s_law_do_agree []) rfl
theorem df_law_is_world {K : PySem.W.Frag} {w : World} {h : Heap} (c : Says w h K) : ∃ fd, Df K ("_law_is_world", none) "_law_is_world" "_law_is_world" s_law_is_world [] fd := c.p.x.t.d.def_ 54 (d := dd ("_law_is_world", none) "_law_is_world" "_law_is_world" s_law_is_world []) rfl
theorem df_law_shared {K : PySem.W.Frag} {w : World} {h : Heap} (c : Says w h K) : ∃ fd, Df K ("_law_shared", none) "_law_shared" "_law_shared" s_law_shared [] fd := c.p.x.t.d.def_ 55 (d := dd ("_law_shared", none) "_law_shared" "_law_shared" s_law_shared []) rfl
theorem df_law {K : PySem.W.Frag} {w : World} {h : Heap} (c : Says w h K) : ∃ fd, Df K ("law", none) "law" "law" s_law [] fd := c.p.x.t.d.def_ 56 (d := dd ("law", none) "law" "law" s_law []) rfl
theorem df_Shape_is_plain {K : PySem.W.Frag} {w : World} {h : Heap} (c : Says w h K) : ∃ fd, FunD K "is_plain" "Shape.is_plain" (defArgs s_Shape_is_plain) (defBody s_Shape_is_plain) (defScope s_Shape_is_plain) [] [] (Vk.gAd K "Shape" "is_plain") fd := c.p.get 0 (d := pd "Shape" "is_plain" "Shape.is_plain" s_Shape_is_plain) rfl
theorem df_Shape_records {K : PySem.W.Frag} {w : World} {h : Heap} (c : Says w h K) : ∃ fd, FunD K "records" "Shape.records" (defArgs s_Shape_records) (defBody s_Shape_records) (defScope s_Shape_records) [] [] (Vk.gAd K "Shape" "records") fd := c.p.get 1 (d := pd "Shape" "records" "Shape.records" s_Shape_records) rfl
theorem df_Shape_plains {K : PySem.W.Frag} {w : World} {h : Heap} (c : Says w h K) : ∃ fd, FunD K "plains" "Shape.plains" (defArgs s_Shape_plains) (defBody s_Shape_plains) (defScope s_Shape_plains) [] [] (Vk.gAd K "Shape" "plains") fd := c.p.get 2 (d := pd "Shape" "plains" "Shape.plains" s_Shape_plains) rfl
theorem df_HeldWorlds___init__ {K : PySem.W.Frag} {w : World} {h : Heap} (c : Says w h K) : ∃ fd, Sup.FunS K "__init__" "HeldWorlds.__init__" s_HeldWorlds___init__ (He.ga K "HeldWorlds") (He.fAd K ("HeldWorlds", some "__init__")) fd := Sup.SaysS.get c (He.ba (He.ba (He.ba (He.ba (He.ba (He.ba (He.ba (He.ba (He.ba (He.ba (He.ba (He.ba c.p.more).2).2).2).2).2).1).1).1).1).1).1).2 0 rfl
theorem run (w : World) : HandSHeadRun.RunEq R (PySem.W.view R.prog [133]) hk ob 20000 loose w := Ux.run_of (run_look w) (run_seen w) (Sup.obsS_of (Vk.obsL_of (Vk.obsD_app (run_obs0 w) (Vk.obsD_app (run_obs1 w) (Vk.obsD_app (run_obs2 w) (Vk.obsD_app (run_obs3 w) (Vk.obsD_app (run_obs4 w) (run_obs5 w)))))) (run_ex w)) (run_sup w))
end Lx
namespace Lx
open PySem PySem.Spec PyProof.Rows L2 Ub Ur
section
variable {P : Program} {w : World} {K : PySem.W.Frag} {mg : Str → Option Value} {base : Heap}
theorem sc_law_draw : FnScope ["_law_state", "_law_many", "_law_great", "_law_lesser", "_law_whole", "_law_own", "_law_turned", "_law_square"] ["_law_state", "_law_many"] (defScope s_law_draw) := ⟨rfl, rfl, rfl, by decide +kernel, rfl, by decide +kernel, by decide +kernel⟩
def sp_draw2 : Sp := fun vs H Q _ => ∃ st g l m, vs = [.ref st, .int m] ∧ 0 < m ∧ m ≤ 10000000000000000000000000000000 ∧ StAt H st g l ∧ spDraw st g l m H Q
theorem m103 {x m : Int} (h : 0 < m) (h2 : m ≤ 10000000000000000000000000000000) : CDivW x m := by
  have e : (2 : Nat) ^ 110 = 1298074214633706907132624082305024 := by decide
  exact wide_div (b := 110) h (by omega) (by decide) (by decide)
theorem ok_law_draw2 {f : Addr} {fd : FuncData} {k : Nat} (F : FunD K "_law_draw" "_law_draw" (defArgs s_law_draw) (defBody s_law_draw) (defScope s_law_draw) [] [] f fd) (T : Tx K mg) : FnOk P w K mg base CX0 (k + 1) f fd ["_law_state", "_law_many"] sp_draw2 := by
  refine F.ok sc_law_draw (fun vs H Q E h => ?_) (fun cdv A outer s H vs Q E hr h => ?_)
  · obtain ⟨st, g, l, m, rfl, _⟩ := h
    rfl
  · obtain ⟨st, g, l, m, rfl, m0, m1, S, q⟩ := h
    have hu := hu_of hr
    refine ⟨_, PSs.nox (pss_cons (ps_asg (pe_op op_add (pe_ix (ix_listK K) (pv 0) pe_int (fun _ _ => rfl)) pe_int) (pg_sub (pv 0) pe_int set_list))
      (pss_cons (ps_par (i := 2) (j := 3) (by rfl) sc_law_draw.nd rfl rfl (by decide) rfl rfl (pa_cons (pe_ix (ix_listK K) (pv 0) pe_int (fun _ _ => rfl)) (pa_cons (pe_ix (ix_listK K) (pv 0) pe_int (fun _ _ => rfl)) pa_nil)) (by rfl))
      (pss_cons (ps_while PassesOwn.never (PW.pt (pw_and (pt_truthK K (pv 2) (by intro _; rfl)) (pw_and1 (pt_cmpR op_eq (pe_ix (ix_listK K) (pv 2) pe_int (fun _ _ => rfl)) pe_int (nomark _)))))
        (pss_one (ps_expr (pe_bmK K PySem.F.plainAttrs_list PySem.F.slot_list_pop PySem.F.type_list_pop mt_popAt (pv 2) (pa_cons pe_int pa_nil)))))
      (pss_cons (ps_if (pt_truthK K (pv 2) (by intro _; rfl))
        (pss_cons (ps_set (i := 4) sc_law_draw.nd rfl (by first | exact Or.inl rfl | exact Or.inr rfl) (pe_callTy call_int1 (by rfl) T.int (by decide +kernel) (pa_cons (pe_ix (ix_listK K) (pv 2) pe_int (fun _ _ => rfl)) pa_nil)))
          (pss_cons (ps_asg (pe_op op_fdivW (pv 4) (pv 1)) (pg_sub (pv 2) pe_int set_list))
          (pss_one (ps_ret (pe_op op_mod (pv 4) (pv 1))))))
        pss_nil)
      (pss_cons (ps_set (i := 5) sc_law_draw.nd rfl (by first | exact Or.inl rfl | exact Or.inr rfl) (pe_op op_mod (pe_callTy call_int1 (by rfl) T.int (by decide +kernel) (pa_cons (pe_ix (ix_listK K) (pv 3) (pe_op op_mod (pe_callTy call_int1 (by rfl) T.int (by decide +kernel) (pa_cons (pe_ix (ix_listK K) (pv 0) pe_int (fun _ _ => rfl)) pa_nil)) (pe_callB (call_len_seqK K) (by rfl) T.len (by decide +kernel) (pa_cons (pv 3) pa_nil))) (fun _ _ => rfl)) pa_nil)) pe_int))
      (pss_cons (ps_set (i := 6) sc_law_draw.nd rfl (by first | exact Or.inl rfl | exact Or.inr rfl) (pe_op op_add (pe_op op_add (pe_op op_mul (pe_ix (ix_listK K) (pv 0) pe_int (fun _ _ => rfl)) pe_int) (pe_op op_mul (pv 5) pe_int)) (pe_op op_mul (pe_ix (ix_listK K) (pv 0) pe_int (fun _ _ => rfl)) pe_int)))
      (pss_cons (ps_asg (pe_op op_mod (pe_callTy call_int1 (by rfl) T.int (by decide +kernel) (pa_cons (pe_op op_add (pv 6) pe_int) pa_nil)) pe_int) (pg_sub (pv 0) pe_int set_list))
      (pss_cons (ps_set (i := 7) sc_law_draw.nd rfl (by first | exact Or.inl rfl | exact Or.inr rfl) (pe_op op_mod (pe_callTy call_int1 (by rfl) T.int (by decide +kernel) (pa_cons (pe_op op_add (pe_op op_mul (pe_ix (ix_listK K) (pv 0) pe_int (fun _ _ => rfl)) (pe_ix (ix_listK K) (pv 0) pe_int (fun _ _ => rfl))) (pv 5)) pa_nil)) pe_int))
      (pss_one (ps_ret (pe_op op_mod (pe_callTy call_int1 (by rfl) T.int (by decide +kernel) (pa_cons (pe_op op_fdivW (pv 7) pe_int) pa_nil)) (pv 1)))))))))))), ?_⟩
    obtain ⟨⟨gs, ls, c, a, h1, h2, h3, lg, ll, a0, a1, ln⟩, n1, n2, n3⟩ := S
    -- state[2] = state[2] + 1
    refine ⟨.ref st, rfl, st, _, 2, .int c, rfl, rfl, .inl (.inl h1), rfl, c, 1, rfl, rfl, .ref st, rfl, st, _, 2, 2, rfl, rfl, h1, rfl, ?_⟩
    have e1 : (upd H st (.lst [.ref g, .ref l, .int (c + 1), .int a])) st = some (.lst [.ref g, .ref l, .int (c + 1), .int a]) := upd_same
    -- great, lesser = state[0], state[1]
    refine ⟨.ref st, rfl, st, _, 0, .ref g, rfl, rfl, .inl (.inl e1), rfl, .ref st, rfl, st, _, 1, .ref l, rfl, rfl, .inl (.inl e1), rfl, .ref g, .ref l, rfl, ?_⟩
    -- while great and great[0] == 0
    refine ⟨fun n σ H1 => ∃ gs', n = gs'.length ∧ σ = [some (.ref st), some (.int m), some (.ref g), some (.ref l), none, none, none, none] ∧ DrI H H1 st g l gs' ls (c + 1) a, ⟨_, gs, rfl, rfl, e1, ?_, ?_, lg, ?_⟩, ?_⟩
    · rw [upd_ne n1.symm]; exact h2
    · rw [upd_ne n2.symm]; exact h3
    · intro b o e b1 _ _; rw [upd_ne b1]; exact e
    rintro n σ H1 ⟨gs', rfl, rfl, I⟩
    cases gs' with
    | nil =>
      refine ⟨.ref g, rfl, false, .inl ⟨_, .inl (.inl I.h2), rfl⟩, ?_⟩
      refine iteF ?_
      refine iteF ?_
      -- if great
      refine ⟨.ref g, rfl, false, .inl ⟨_, .inl (.inl I.h2), rfl⟩, iteF ?_⟩
      -- own
      dsimp only [tNext]
      cases ls with
      | nil => exact absurd rfl ln
      | cons y ys =>
        have h0 : (0 : Int) < (((y :: ys).map V.int).length : Int) := by rw [List.length_map, List.length_cons]; omega
        have h5 := Int.emod_nonneg (c + 1) (Int.ne_of_gt h0)
        have h6 := Int.emod_lt_of_pos (c + 1) h0
        obtain ⟨j, hj⟩ : ∃ j : Nat, (c + 1) % (((y :: ys).map V.int).length : Int) = (j : Int) := ⟨_, (Int.toNat_of_nonneg h5).symm⟩
        have hlt : j < (y :: ys).length := by
          rw [hj, List.length_map] at h6
          omega
        have hget : ((y :: ys).map V.int)[j]? = some (.int (y :: ys)[j]) := by
          rw [List.getElem?_map, List.getElem?_eq_getElem hlt]
          rfl
        refine ⟨.ref l, rfl, .ref st, rfl, st, _, 2, .int (c + 1), rfl, rfl, .inl (.inl I.h1), rfl, .inl ⟨_, rfl, .ref l, rfl, l, _, rfl, .inl (.inl (.inl I.h3)), _, _, rfl, rfl, h0, l, _, _, .int (y :: ys)[j], rfl, rfl, .inl (.inl I.h3), at_of hj hget, .inl ⟨_, rfl, _, _, rfl, rfl, by show (0 : Int) < 2147483629; decide, ?_⟩⟩⟩
        dsimp only [gName]
        -- turned
        refine ⟨.ref st, rfl, st, _, 3, .int a, rfl, rfl, .inl (.inl I.h1), rfl, a, 48271, rfl, rfl, mulR (by decide), _, rfl, _, 69621, rfl, rfl, mulR (by decide), _, _, rfl, rfl, .ref st, rfl, st, _, 2, .int (c + 1), rfl, rfl, .inl (.inl I.h1), rfl, _, _, rfl, rfl, mulR (by decide), _, _, rfl, rfl, ?_⟩
        dsimp only [gName]
        -- state[3] = ..
        refine ⟨_, rfl, _, _, rfl, rfl, .inl ⟨_, rfl, _, _, rfl, rfl, by show (0 : Int) < 2305843009213693951; decide, ?_⟩⟩
        dsimp only
        generalize ha' : (a * 48271 + (y :: ys)[j] % 2147483629 * 69621 + (c + 1) * 16807 + 3) % 2305843009213693951 = a'
        have b0 : 0 ≤ a' := by rw [← ha']; exact Int.emod_nonneg _ (by decide)
        have b1 : a' < 2305843009213693951 := by rw [← ha']; exact Int.emod_lt_of_pos _ (by decide)
        refine ⟨.ref st, rfl, st, _, 3, 3, rfl, rfl, I.h1, rfl, ?_⟩
        have e2 : (upd H1 st (.lst [.ref g, .ref l, .int (c + 1), .int a'])) st = some (.lst [.ref g, .ref l, .int (c + 1), .int a']) := upd_same
        -- square
        refine ⟨.ref st, rfl, st, _, 3, .int a', rfl, rfl, .inl (.inl e2), rfl, .ref st, rfl, st, _, 3, .int a', rfl, rfl, .inl (.inl e2), rfl, a', a', rfl, rfl, mulR (by omega), _, rfl, _, _, rfl, rfl, .inl ⟨_, rfl, _, _, rfl, rfl, by show (0 : Int) < 1000000000000000003; decide, ?_⟩⟩
        -- return
        refine ⟨_, rfl, _, _, rfl, rfl, m100 (by decide) (by decide), .inl ⟨_, rfl, .int m, rfl, _, _, rfl, rfl, m0, ?_⟩⟩
        refine q _ _ (Int.emod_nonneg _ (Int.ne_of_gt m0)) (Int.emod_lt_of_pos _ m0) ⟨⟨[], y :: ys, c + 1, a', e2, ?_, ?_, by decide, ll, b0, by omega, ln⟩, n1, n2, n3⟩ ?_
        · rw [upd_ne n1.symm]; exact I.h2
        · rw [upd_ne n2.symm]; exact I.h3
        · intro b o e b1 b2 b3; rw [upd_ne b1]; exact I.kp b o e b1 b2 b3
    | cons z r =>
      refine ⟨.ref g, rfl, true, .inl ⟨_, .inl (.inl I.h2), rfl⟩, ?_⟩
      refine iteT ?_
      refine ⟨.ref g, rfl, g, _, 0, .int z, rfl, rfl, .inl (.inl I.h2), at0, rfl, _, rfl, ite2 (fun e => ?_) (fun e => ?_)⟩
      · -- great.pop(0)
        refine ⟨fun σ' H' => σ' = [some (.ref st), some (.int m), some (.ref g), some (.ref l), none, none, none, none] ∧ DrI H H' st g l r ls (c + 1) a, ?_, ?_⟩
        · rintro σ' H' ⟨rfl, I'⟩
          exact ⟨r.length, Nat.lt_succ_self _, r, rfl, rfl, I'⟩
        · refine ⟨.ref g, rfl, .inl ⟨rfl, _, .inl (.inl I.h2)⟩, g, _, 0, 0, .int z, rfl, rfl, I.h2, by decide, by decide, ?_, rfl, rfl, ⟨?_, ?_, ?_, ?_, ?_⟩⟩
          · show seqIndex? 0 ((z :: r).map V.int).length = some 0
            unfold seqIndex?
            simp
          · rw [upd_ne n1]; exact I.h1
          · exact upd_same
          · rw [upd_ne n3.symm]; exact I.h3
          · have := I.lg; rw [List.length_cons] at this; omega
          · intro b o e b1 b2 b3; rw [upd_ne b2]; exact I.kp b o e b1 b2 b3
      · -- if great
        refine ⟨.ref g, rfl, true, .inl ⟨_, .inl (.inl I.h2), rfl⟩, iteT ?_⟩
        refine ⟨.ref g, rfl, g, _, 0, .int z, rfl, rfl, .inl (.inl I.h2), at0, .inl ⟨_, rfl, ?_⟩⟩
        dsimp only [gName]
        refine ⟨.int z, rfl, .int m, rfl, _, _, rfl, rfl, m103 m0 m1, .ref g, rfl, g, _, 0, 0, rfl, rfl, I.h2, ix0, ?_⟩
        refine ⟨.int z, rfl, .int m, rfl, _, _, rfl, rfl, m0, ?_⟩
        refine q _ _ (Int.emod_nonneg _ (Int.ne_of_gt m0)) (Int.emod_lt_of_pos _ m0) ⟨⟨(z / m) :: r, ls, c + 1, a, ?_, upd_same, ?_, I.lg, ll, a0, a1, ln⟩, n1, n2, n3⟩ ?_
        · rw [upd_ne n1]; exact I.h1
        · rw [upd_ne n3.symm]; exact I.h3
        · intro b o e b1 b2 b3; rw [upd_ne b2]; exact I.kp b o e b1 b2 b3
theorem ok_law_draw {f : Addr} {fd : FuncData} {k : Nat} (F : FunD K "_law_draw" "_law_draw" (defArgs s_law_draw) (defBody s_law_draw) (defScope s_law_draw) [] [] f fd) (T : Tx K mg) : FnOk P w K mg base CX0 (k + 1) f fd ["_law_state", "_law_many"] sp_draw :=
  (ok_law_draw2 F T).imp fun vs H Q E h => by
    obtain ⟨st, g, l, m, e, m0, m1, h⟩ := h
    exact ⟨st, g, l, m, e, m0, by omega, h⟩
theorem sc_law_start : FnScope ["_law_script", "_law_cells", "_law_great", "_law_lesser", "_law_cell"] ["_law_script"] (defScope s_law_start) := ⟨rfl, rfl, rfl, by decide +kernel, rfl, by decide +kernel, by decide +kernel⟩
theorem ok_law_start {f : Addr} {fd : FuncData} {k : Nat} (F : FunD K "_law_start" "_law_start" (defArgs s_law_start) (defBody s_law_start) (defScope s_law_start) [] [] f fd) (T : Tx K mg) : FnOk P w K mg base CX0 (k + 1) f fd ["_law_script"] (sp_start K) := by
  refine F.ok sc_law_start (fun vs H Q E h => ?_) (fun cdv A outer s H vs Q E hr h => ?_)
  · obtain ⟨a, ns, rfl, _⟩ := h
    rfl
  · obtain ⟨a, ns, rfl, hS, hl, q⟩ := h
    refine ⟨_, PSs.nox (pss_cons (ps_setLc (i := 1) (own := [("_law_cell", 4)]) (by rfl) sc_law_start.nd rfl rfl (sw_true rfl rfl rfl (by decide +kernel)) (pi_listK K (pe_slice (sl_listK K) (pv 0) po_none (po_some pe_int))) (blkOk_by (N := ["_law_script", "_law_cells", "_law_great", "_law_lesser", "_law_cell"]) (sc := (defScope s_law_start)) (by decide +kernel)) (fun _ _ _ _ _ => (pg_name (i := 4) sc_law_start.nd rfl (by first | exact Or.inl rfl | exact Or.inr rfl))) (fun _ _ _ _ _ => pts_nil) (fun _ _ _ _ _ => (pe_callB call_abs (by rfl) T.abs (by decide +kernel) (pa_cons (pe_callTy call_int1 (by rfl) T.int (by decide +kernel) (pa_cons (pv 4) pa_nil)) pa_nil))))
      (pss_cons (ps_setLc (i := 2) (own := [("_law_cell", 4)]) (by rfl) sc_law_start.nd rfl rfl (sw_true rfl rfl rfl (by decide +kernel)) (pi_listK K (pv 1)) (blkOk_by (N := ["_law_script", "_law_cells", "_law_great", "_law_lesser", "_law_cell"]) (sc := (defScope s_law_start)) (by decide +kernel)) (fun _ _ _ _ _ => (pg_name (i := 4) sc_law_start.nd rfl (by first | exact Or.inl rfl | exact Or.inr rfl))) (fun _ _ _ _ _ => pts_one (pt_cmpR op_ge (pv 4) (pe_op op_pow pe_int pe_int) (nomark _))) (fun _ _ _ _ _ => (pv 4)))
      (pss_cons (ps_setLc (i := 3) (own := [("_law_cell", 4)]) (by rfl) sc_law_start.nd rfl rfl (sw_true rfl rfl rfl (by decide +kernel)) (pi_listK K (pv 1)) (blkOk_by (N := ["_law_script", "_law_cells", "_law_great", "_law_lesser", "_law_cell"]) (sc := (defScope s_law_start)) (by decide +kernel)) (fun _ _ _ _ _ => (pg_name (i := 4) sc_law_start.nd rfl (by first | exact Or.inl rfl | exact Or.inr rfl))) (fun _ _ _ _ _ => pts_one (pt_cmpR op_lt (pv 4) (pe_op op_pow pe_int pe_int) (nomark _))) (fun _ _ _ _ _ => (pv 4)))
      (pss_one (ps_ret (pe_lst (pa_cons (pv 2) (pa_cons (pe_op op_cat (pv 3) (pe_lst (pa_cons pe_int pa_nil))) (pa_cons pe_int (pa_cons (pe_op op_add pe_int (pe_callB (call_len_seqK K) (by rfl) T.len (by decide +kernel) (pa_cons (pv 1) pa_nil))) pa_nil)))))))))), ?_⟩
    obtain ⟨ms, lm, _, em⟩ := cutV_ints ns none (some 63)
    -- cells
    refine ⟨.ref a, rfl, 63, rfl, a, _, rfl, hS, fun p hp => ?_⟩
    rw [em]
    have s0 := same_upd (o := .lst (ms.map V.int)) hp
    refine ⟨p, rfl, ⟨ms.map V.int, .inl (.inl upd_same)⟩, fun C hC => ?_⟩
    refine lcW (walk_list (xs := ms.map V.int)) (liftI fun i => some (absI i)) (fun H s => s.seq (.inl (.inl upd_same))) (small63 (by rw [List.length_map]; omega)) hC (fun i x H' hx s' => ?_) (fun H1 s1 d1 => ?_)
    · obtain ⟨z, hz, rfl⟩ := List.mem_map.mp (List.mem_of_getElem? hx)
      intro Q1 Q0 h1 h0
      exact ⟨rfl, _, rfl, .inl ⟨_, rfl, z, rfl, h1 _ _ rfl (Same.refl _)⟩⟩
    rw [fm_lift] at d1
    generalize hcs : (ms.filterMap fun i => some (absI i)) = cs at d1
    have lc : cs.length ≤ 63 := by
      have := List.length_filterMap_le (fun i : Int => some (absI i)) ms
      rw [← hcs]; omega
    -- great
    refine ⟨_, rfl, C, rfl, ⟨_, .inl (.inl d1)⟩, fun g hg => ?_⟩
    refine lcW (walk_list (xs := cs.map V.int)) (liftI fun i => if (1000000000000000000 : Int) ≤ i then some i else none) (fun H s => s.seq (.inl (.inl d1))) (small63 (by rw [List.length_map]; omega)) hg (fun i x H' hx s' => ?_) (fun H2 s2 d2 => ?_)
    · obtain ⟨z, hz, rfl⟩ := List.mem_map.mp (List.mem_of_getElem? hx)
      intro Q1 Q0 h1 h0
      refine ⟨rfl, _, rfl, 10, 18, rfl, rfl, ⟨by decide, by decide, by decide⟩, _, _, rfl, rfl, _, rfl, ?_⟩
      by_cases hge : (1000000000000000000 : Int) ≤ z
      · refine ite2 (fun _ => ?_) (fun e => ?_)
        · exact ⟨_, rfl, h1 _ _ (by show (if (1000000000000000000 : Int) ≤ z then some z else none).map V.int = _; rw [if_pos hge]; rfl) (Same.refl _)⟩
        · exact absurd (decide_eq_true hge) e
      · refine ite2 (fun e => ?_) (fun e => ?_)
        · exact absurd (of_decide_eq_true e) hge
        · exact h0 _ (by show (if (1000000000000000000 : Int) ≤ z then some z else none).map V.int = _; rw [if_neg hge]; rfl) (Same.refl _)
    rw [fm_lift] at d2
    generalize hgs : (cs.filterMap fun i => if (1000000000000000000 : Int) ≤ i then some i else none) = gs at d2
    have lg : gs.length ≤ 63 := by
      have := List.length_filterMap_le (fun i : Int => if (1000000000000000000 : Int) ≤ i then some i else none) cs
      rw [← hgs]; omega
    -- lesser
    refine ⟨_, rfl, C, rfl, ⟨_, .inl (.inl (s2 _ _ d1))⟩, fun l0 hl' => ?_⟩
    refine lcW (walk_list (xs := cs.map V.int)) (liftI fun i => if i < (1000000000000000000 : Int) then some i else none) (fun H s => s.seq (.inl (.inl (s2 _ _ d1)))) (small63 (by rw [List.length_map]; omega)) hl' (fun i x H' hx s' => ?_) (fun H3 s3 d3 => ?_)
    · obtain ⟨z, hz, rfl⟩ := List.mem_map.mp (List.mem_of_getElem? hx)
      intro Q1 Q0 h1 h0
      refine ⟨rfl, _, rfl, 10, 18, rfl, rfl, ⟨by decide, by decide, by decide⟩, _, _, rfl, rfl, _, rfl, ?_⟩
      by_cases hge : z < (1000000000000000000 : Int)
      · refine ite2 (fun _ => ?_) (fun e => ?_)
        · exact ⟨_, rfl, h1 _ _ (by show (if z < (1000000000000000000 : Int) then some z else none).map V.int = _; rw [if_pos hge]; rfl) (Same.refl _)⟩
        · exact absurd (decide_eq_true hge) e
      · refine ite2 (fun e => ?_) (fun e => ?_)
        · exact absurd (of_decide_eq_true e) hge
        · exact h0 _ (by show (if z < (1000000000000000000 : Int) then some z else none).map V.int = _; rw [if_neg hge]; rfl) (Same.refl _)
    rw [fm_lift] at d3
    generalize hls : (cs.filterMap fun i => if i < (1000000000000000000 : Int) then some i else none) = ls at d3
    have ll : ls.length ≤ 63 := by
      have := List.length_filterMap_le (fun i : Int => if i < (1000000000000000000 : Int) then some i else none) cs
      rw [← hls]; omega
    -- return
    dsimp only [gName]
    refine ⟨_, rfl, _, rfl, by decide, fun e11 ne11 => ?_⟩
    have se := same_upd (o := .lst [.int 11]) ne11
    refine ⟨l0, e11, _, _, rfl, rfl, se _ _ d3, upd_same, (by rw [List.length_map]; exact Nat.le_trans (show ls.length + 1 ≤ 64 by omega) (by decide)), fun l nl => ?_⟩
    have sl := same_upd (o := .lst (ls.map V.int ++ [.int 11])) nl
    have el : (upd (upd H3 e11 (.lst [.int 11])) l (.lst (ls.map V.int ++ [.int 11]))) l = some (.lst ((ls ++ [11]).map V.int)) := by rw [upd_same, List.map_append]; rfl
    have s4 := se.trans sl
    generalize upd (upd H3 e11 (.lst [.int 11])) l (.lst (ls.map V.int ++ [.int 11])) = H4 at *
    refine ⟨_, rfl, C, _, rfl, .inl (.inl (.inl (s4 _ _ (s3 _ _ (s2 _ _ d1))))), _, _, rfl, rfl, (by show 4 ≤ sizeLine; decide), fun st hst => ?_⟩
    have d2' := s4 _ _ (s3 _ _ d2)
    have f3 := s4.free hst
    refine q st g l _ (s0.free (s1.free (s2.free (s3.free f3)))) (s0.free (s1.free hg)) (s0.free (s1.free (s2.free (s3.free (se.free nl))))) ⟨⟨gs, ls ++ [11], 0, _, upd_same, ?_, ?_, lg, by rw [List.length_append]; show ls.length + 1 ≤ 64; omega, ?_, ?_, by simp⟩, (ne_of_none d2' hst).symm, (ne_of_none el hst).symm, fun z => ?_⟩ ?_
    · rw [upd_ne (ne_of_none d2' hst)]; exact d2'
    · rw [upd_ne (ne_of_none el hst)]; exact el
    · show (0 : Int) ≤ 29 + ((cs.map V.int).length : Int); omega
    · show (29 : Int) + ((cs.map V.int).length : Int) < 4611686018427387904; rw [List.length_map]; omega
    · have := se.free nl
      rw [← z, s3 _ _ d2] at this
      cases this
    · exact ((((s0.trans s1).trans s2).trans s3).trans s4).trans (same_upd hst)
theorem sc_law_of : FnScope ["_law_state", "_law_some"] ["_law_state", "_law_some"] (defScope s_law_of) := ⟨rfl, rfl, rfl, by decide +kernel, rfl, by decide +kernel, by decide +kernel⟩
theorem ok_law_of {f : Addr} {fd : FuncData} (F : FunD K "_law_of" "_law_of" (defArgs s_law_of) (defBody s_law_of) (defScope s_law_of) [] [] f fd) (T : Tx K mg) (c_law_draw : Cal P w K mg base 1 "_law_draw" ["_law_state", "_law_many"] sp_draw) : FnOk P w K mg base CX0 2 f fd ["_law_state", "_law_some"] sp_of := by
  refine F.ok sc_law_of (fun vs H Q E h => ?_) (fun cdv A outer s H vs Q E hr h => ?_)
  · obtain ⟨st, g, l, p, xs, rfl, _⟩ := h
    rfl
  · obtain ⟨st, g, l, p, xs, rfl, hp, n1, n2, n3, h0, hz, S, q⟩ := h
    refine ⟨_, PSs.nox (pss_one (ps_ret (pe_ix (ix_listK K) (pv 1) (pe_cal c_law_draw (hr.mono (by omega)) (by rfl) (pa_cons (pv 0) (pa_cons (pe_callB (call_len_seqK K) (by rfl) T.len (by decide +kernel) (pa_cons (pv 1) pa_nil)) pa_nil))) (fun _ _ => rfl)))), ?_⟩
    refine ⟨_, rfl, _, rfl, _, rfl, p, xs, rfl, .inl (.inl (.inl hp)), st, g, l, _, rfl, ?_, ?_, S, fun d H' d0 d1 S' k => ?_⟩
    · have : 0 < xs.length := List.length_pos_iff.mpr h0
      omega
    · omega
    · have hp' := k _ _ hp n1 n2 n3
      obtain ⟨j, rfl⟩ : ∃ j : Nat, d = (j : Int) := ⟨d.toNat, by omega⟩
      have hj : j < xs.length := by omega
      exact ixl hp' (atI_nat (List.getElem?_eq_getElem hj)) (q _ _ (List.getElem_mem hj) S' k)
end
end Lx
namespace Ub
open PySem PySem.Spec PyProof.Rows L2 Ur
def szV (t : Tr) : HO := .tup [.int (t.recs : Nat), .int (t.plains : Nat), .int (t.depth : Nat)]
def sp_size (d : Nat) : Sp := fun vs H Q _ => ∃ t v, vs = [v] ∧ TrAt H t v ∧ t.depth < d ∧ t.size ≤ 1000 ∧ ∀ p H', Same H H' → H' p = some (szV t) → Q (.ref p) H'
/-- the sizes of some trees -/
def SzsAt (H : Hp) (l : List (Str × Tr)) (ps : List V) : Prop := ps.length = l.length ∧ ∀ (i : Nat) (m : Str × Tr), l[i]? = some m → ∃ p : Addr, ps[i]? = some (.ref p) ∧ H p = some (szV m.2)
theorem SzsAt.same {H H' : Hp} {l : List (Str × Tr)} {ps : List V} (s : Same H H') (h : SzsAt H l ps) : SzsAt H' l ps := ⟨h.1, fun i m e => (h.2 i m e).imp fun p hp => ⟨hp.1, s _ _ hp.2⟩⟩
theorem SzsAt.snoc {H : Hp} {l : List (Str × Tr)} {ps : List V} {m : Str × Tr} {p : Addr} (h : SzsAt H l ps) (hp : H p = some (szV m.2)) : SzsAt H (l ++ [m]) (ps ++ [.ref p]) := by
  refine ⟨by rw [List.length_append, List.length_append, h.1]; rfl, fun i m' e => ?_⟩
  by_cases c : i < l.length
  · rw [List.getElem?_append_left c] at e
    rw [List.getElem?_append_left (by rw [h.1]; exact c)]
    exact h.2 i m' e
  · rw [List.getElem?_append_right (by omega)] at e
    rw [List.getElem?_append_right (by rw [h.1]; omega), h.1]
    cases e2 : i - l.length with
    | zero =>
      rw [e2] at e
      cases e
      exact ⟨p, rfl, hp⟩
    | succ n => rw [e2] at e; simp at e
theorem recs_fs {t : Tr} (h : t.isNil = false) : t.recs = 1 + (t.fields.map fun p => p.2.recs).sum := by
  unfold Tr.recs
  rw [h, Tr.srec_eq]
  rfl
theorem plains_fs {t : Tr} (h : t.isNil = false) : t.plains = (t.fields.map fun p => p.2.plains).sum := by
  unfold Tr.plains
  rw [h, Tr.spla_eq]
  rfl
theorem sdep_fs : ∀ t : Tr, t.sdep = (t.fields.map fun p => p.2.depth).foldl max 0
  | .nil => rfl
  | .cons w t r => by
    have h : ∀ (l : List Nat) (a : Nat), l.foldl max a = max a (l.foldl max 0) := by
      intro l
      induction l with
      | nil => intro a; simp
      | cons x l ih =>
        intro a
        rw [List.foldl_cons, List.foldl_cons, ih, ih (max 0 x)]
        omega
    show max t.depth r.sdep = (t.depth :: r.fields.map fun p => p.2.depth).foldl max 0
    rw [List.foldl_cons, h, sdep_fs r]
    omega
theorem depth_fs {t : Tr} (h : t.isNil = false) : t.depth = 1 + (t.fields.map fun p => p.2.depth).foldl max 0 := by
  unfold Tr.depth
  rw [h, sdep_fs]
  rfl
theorem sum_castF (f : Tr → Nat) : ∀ l : List (Str × Tr), (l.map fun m => ((f m.2 : Nat) : Int)).sum = ((l.map fun m => f m.2).sum : Nat)
  | [] => rfl
  | m :: l => by
    rw [List.map_cons, List.sum_cons, List.map_cons, List.sum_cons, sum_castF f l]
    omega
theorem max_le : ∀ (l : List Nat) (a : Nat), a ≤ l.foldl max a ∧ ∀ x ∈ l, x ≤ l.foldl max a
  | [], a => ⟨Nat.le_refl _, fun _ h => nomatch h⟩
  | x :: l, a => by
    obtain ⟨h1, h2⟩ := max_le l (max a x)
    refine ⟨by rw [List.foldl_cons]; omega, fun y hy => ?_⟩
    rw [List.foldl_cons]
    rcases List.mem_cons.mp hy with rfl | hy
    · omega
    · exact h2 y hy
theorem max_in : ∀ (l : List Nat) (a : Nat), l.foldl max a = a ∨ l.foldl max a ∈ l
  | [], a => .inl rfl
  | x :: l, a => by
    rw [List.foldl_cons]
    rcases max_in l (max a x) with h | h
    · rw [h]
      by_cases c : a ≤ x
      · rw [Nat.max_eq_right c]; exact .inr (List.mem_cons_self ..)
      · rw [Nat.max_eq_left (by omega)]; exact .inl rfl
    · exact .inr (List.mem_cons_of_mem _ h)
theorem max_of {l : List Nat} {m : Int} (h0 : 0 < l.length) (hm : m ∈ l.map fun n => ((n : Nat) : Int)) (hl : ∀ y ∈ l.map (fun n => ((n : Nat) : Int)), y ≤ m) : m = ((l.foldl max 0 : Nat) : Int) := by
  obtain ⟨k, hk, rfl⟩ := List.mem_map.mp hm
  obtain ⟨h1, h2⟩ := max_le l 0
  have h3 := h2 k hk
  rcases max_in l 0 with h | h
  · omega
  · have := hl _ (List.mem_map.mpr ⟨_, h, rfl⟩)
    omega
end Ub
namespace Ub
open PySem PySem.Spec PyProof.Rows L2 Ur Up Ve Va Pt
def iSq (K : PySem.W.Frag) (tl : TE) : TI := fun σ H R => iList K tl σ H R ∨ iTup K tl σ H R
theorem pi_sqK (K : PySem.W.Frag) {X : Cx} {tg l : Expr} {tl : TE} (hl : PE X l tl) (e : X.K = K := by rfl) : PI X tg l (iSq K tl) :=
  ⟨fun pins s σ H R I h => h.elim ((pi_listK K hl e).run pins s σ H R I) ((pi_tupK K hl e).run pins s σ H R I)⟩
def sp_fields (d : Nat) : Sp := fun vs H Q _ => ∃ (t : Tr) (a : Addr) (ps : List V), vs = [.ref a] ∧ (H a = some (.lst ps) ∨ H a = some (.tup ps)) ∧ FsAt H t ps ∧ t.sdep < d ∧ t.size ≤ 1000 ∧ t.short ∧ ∀ H', Same H H' → Q (.str (Str.join ", " t.pieces)) H'
/-- pairs of a path's words and the tree there -/
def WpAt (H : Hp) (v : V) (m : List Str × Tr) : Prop := ∃ (p ws : Addr) (tv : V), v = .ref p ∧ H p = some (.tup [.ref ws, tv]) ∧ H ws = some (.tup (m.1.map V.str)) ∧ TrAt H m.2 tv
def WpsAt (H : Hp) (l : List (List Str × Tr)) (ps : List V) : Prop := ps.length = l.length ∧ ∀ (i : Nat) (v : V) (m : List Str × Tr), ps[i]? = some v → l[i]? = some m → WpAt H v m
theorem WpAt.tups {H H' : Hp} {v : V} {m : List Str × Tr} (k : ∀ c xs, H c = some (.tup xs) → H' c = some (.tup xs)) (h : WpAt H v m) : WpAt H' v m := by
  obtain ⟨p, ws, tv, e, h1, h2, h3⟩ := h
  exact ⟨p, ws, tv, e, k _ _ h1, k _ _ h2, h3.tups k⟩
theorem WpsAt.tups {H H' : Hp} {l : List (List Str × Tr)} {ps : List V} (k : ∀ c xs, H c = some (.tup xs) → H' c = some (.tup xs)) (h : WpsAt H l ps) : WpsAt H' l ps := ⟨h.1, fun i v m a b => (h.2 i v m a b).tups k⟩
theorem WpsAt.get {H : Hp} {l : List (List Str × Tr)} {ps : List V} (h : WpsAt H l ps) {i : Nat} {v : V} (e : ps[i]? = some v) : ∃ m, l[i]? = some m ∧ WpAt H v m := by
  have hi := (List.getElem?_eq_some_iff.mp e).1
  rw [h.1] at hi
  exact ⟨_, List.getElem?_eq_getElem hi, h.2 i v _ e (List.getElem?_eq_getElem hi)⟩
theorem WpsAt.mem {H : Hp} {l : List (List Str × Tr)} {ps : List V} (h : WpsAt H l ps) {v : V} (e : v ∈ ps) : ∃ m ∈ l, WpAt H v m := by
  obtain ⟨i, hi⟩ := List.getElem?_of_mem e
  obtain ⟨m, h1, h2⟩ := h.get hi
  exact ⟨m, List.mem_of_getElem? h1, h2⟩
theorem WpsAt.snoc {H : Hp} {l : List (List Str × Tr)} {ps : List V} {m : List Str × Tr} {v : V} (h : WpsAt H l ps) (h2 : WpAt H v m) : WpsAt H (l ++ [m]) (ps ++ [v]) := by
  refine ⟨by rw [List.length_append, List.length_append, h.1]; rfl, fun i w p a b => ?_⟩
  by_cases c : i < ps.length
  · rw [List.getElem?_append_left c] at a
    rw [List.getElem?_append_left (by rw [← h.1]; exact c)] at b
    exact h.2 i w p a b
  · rw [List.getElem?_append_right (by omega)] at a
    rw [List.getElem?_append_right (by rw [← h.1]; omega), ← h.1] at b
    cases e : i - ps.length with
    | zero =>
      rw [e] at a b
      cases a
      cases b
      exact h2
    | succ n => rw [e] at a; simp at a
theorem WpsAt.nil {H : Hp} : WpsAt H [] [] := ⟨rfl, fun i v m h => by simp at h⟩
def sp_wpaths3 (d : Nat) : Sp := fun vs H Q _ => ∃ t v, vs = [v] ∧ TrAt H t v ∧ t.depth < d ∧ good t ∧ ∀ D ps H', Same H H' → H D = none → H' D = some (.lst ps) → WpsAt H' (wpaths t) ps → Q (.ref D) H'
theorem no_wpaths3 {P : Program} {w : World} {K : PySem.W.Frag} {mg : Str → Option Value} {base : Heap} {k : Nat} {f : Addr} {fd : FuncData} {x : Str} : FnOk P w K mg base CX0 k f fd [x] (sp_wpaths3 0) :=
  ⟨fun vs H Q E h => by obtain ⟨t, v, rfl, _⟩ := h; rfl, fun A outer s H args us vs Q E _ _ _ _ h => by
    obtain ⟨t, v, _, _, h, _⟩ := h
    exact absurd h (Nat.not_lt_zero _)⟩
/-- the paths below the first fields -/
def uptoW (t : Tr) (i : Nat) : List (List Str × Tr) := ([], t) :: (t.fields.take i).flatMap fun f => (wpaths f.2).map fun m => (f.1 :: m.1, m.2)
theorem wfp_fs : ∀ t : Tr, wfp t = t.fields.flatMap fun f => (wpaths f.2).map fun m => (f.1 :: m.1, m.2)
  | .nil => rfl
  | .cons w t r => by
    show (([], t) :: wfp t).map (fun m => (w :: m.1, m.2)) ++ wfp r = _
    rw [wfp_fs r]
    rfl
theorem uptoW_all (t : Tr) : uptoW t t.fields.length = wpaths t := by
  show ([], t) :: _ = ([], t) :: wfp t
  rw [List.take_length, wfp_fs]
theorem uptoW_succ {t : Tr} {i : Nat} {f : Str × Tr} (h : t.fields[i]? = some f) : uptoW t (i + 1) = uptoW t i ++ (wpaths f.2).map fun m => (f.1 :: m.1, m.2) := by
  unfold uptoW
  rw [List.take_add_one, h, List.flatMap_append]
  show _ = ([], t) :: (_ ++ _)
  congr 2
  exact List.flatMap_singleton ..
theorem wp_len {t : Tr} : (wpaths t).length = 1 + t.size := by
  have h : ∀ t : Tr, (wfp t).length = t.size := by
    intro t
    induction t with
    | nil => rfl
    | cons w t r h1 h2 =>
      show ((([], t) :: wfp t).map (fun m => (w :: m.1, m.2)) ++ wfp r).length = 1 + t.size + r.size
      rw [List.length_append, List.length_map, List.length_cons, h1, h2]
      omega
  unfold wpaths
  rw [List.length_cons, h]
  omega
theorem uptoW_le (t : Tr) (i : Nat) : (uptoW t i).length ≤ 1 + t.size := by
  have h : (uptoW t i).length ≤ (uptoW t t.fields.length).length := by
    unfold uptoW
    rw [List.length_cons, List.length_cons, List.take_length]
    have e : t.fields = t.fields.take i ++ t.fields.drop i := (List.take_append_drop ..).symm
    conv => rhs; rw [e]
    rw [List.flatMap_append, List.length_append]
    omega
  rw [uptoW_all, wp_len] at h
  exact h
def sp_wpath : Sp := fun vs H Q _ => ∃ (a : Addr) (ws : List Str), vs = [.ref a] ∧ H a = some (.tup (ws.map V.str)) ∧ (∀ z ∈ ws, isWord z = true) ∧ ws.length ≤ 10 ∧ ∀ H', Same H H' → Q (.str (ptext ws)) H'
end Ub
namespace Gk
theorem sum_le8 : ∀ {l : List Nat}, (∀ x ∈ l, x ≤ 8) → l.sum ≤ l.length * 8
  | [], _ => Nat.le_refl _
  | x :: l, h => by
    have h1 := h x (List.mem_cons_self ..)
    have h2 := sum_le8 fun y hy => h y (List.mem_cons_of_mem _ hy)
    rw [List.sum_cons, List.length_cons]
    omega
end Gk
namespace Ub
open PySem PySem.Spec PyProof.Rows L2 Ur Ug Ue Up Uo Ve Va Vk Pt
theorem rec_ok {t : Tr} {ts : List Tr} {d : Nat} (e : t.fields.map (·.2) = ts) (hw : ∀ m ∈ t.fields, isWord m.1 = true) (nd : (t.fields.map (·.1)).Nodup) (h0 : ts ≠ []) (l3 : ts.length ≤ 3) (hf : ∀ x ∈ ts, Fine d x) : Fine (d + 1) t ∧ t.isNil = false ∧ t.recs = 1 + (ts.map Tr.recs).sum ∧ t.plains = (ts.map Tr.plains).sum := by
  have hl : t.fields.length = ts.length := by rw [← e, List.length_map]
  have hne : t.fields ≠ [] := fun z => h0 (by rw [← e, z]; rfl)
  have hn : t.isNil = false := by
    cases t with
    | nil => exact absurd rfl hne
    | cons _ _ _ => rfl
  refine ⟨?_, hn, ?_, ?_⟩
  · have := fineF_of (fine := Fine d) t.fields 3 [] hne (by omega) (fun m hm => ⟨hf _ (by rw [← e]; exact List.mem_map.mpr ⟨m, hm, rfl⟩), hw m hm, fun z => nomatch z⟩) nd
    rw [Tr.of_fields] at this
    exact .inr this
  · rw [recs_fs hn, ← e, List.map_map]
    rfl
  · rw [plains_fs hn, ← e, List.map_map]
    rfl
theorem seq_split3 {t u : TS} {D : Ends} {σ : L2.St} {H : Hp} (P : L2.St → Hp → Prop) (h1 : ∀ Dx : Ends, (∀ σ' H', P σ' H' → Dx.nx σ' H') → t Dx σ H) (h2 : ∀ σ' H', P σ' H' → u D σ' H') : tSeq t u D σ H := h1 _ h2
end Ub
namespace Rw
open PySem PySem.Spec PyProof.Rows L2 Ub Ur Ug Ue Up Uo
def TupF (H : Hp) (a : Addr) (xs : List V) : Prop := ∃ o : Obj, H a = some (.frz o (.tup xs)) ∧ o.dict = none
theorem TupF.keep {H H' : Hp} {a : Addr} {xs : List V} (h : TupF H a xs) (k : ∀ o, H a = some o → H' a = some o) : TupF H' a xs := by
  obtain ⟨o, h, d⟩ := h
  exact ⟨o, k _ h, d⟩
theorem TupF.ne_ins {H : Hp} {a b C dx : Addr} {xs : List V} {fs : List (Str × V)} (h : TupF H a xs) (h' : H b = some (.ins C dx fs)) : a ≠ b := by
  obtain ⟨o, h, _⟩ := h
  exact ne_of h h' (by intro z; cases z)
end Rw
namespace Rw
open PySem PySem.Spec PyProof.Rows L2 Ub Ur Ug Ue Up Uo Ve Va Vk
abbrev Prs := List (Str × Str)
abbrev parsD (ps : Prs) : PyData := .tuple (ps.map Up.pairD)
def srcM (term : Str) : Option (Str × Str) :=
  if (Txt.partition term " ").2.1 = "" then some ("present", term)
  else if (Txt.partition term " ").1 = "old" ∨ (Txt.partition term " ").1 = "copy" then some ((Txt.partition term " ").1, (Txt.partition term " ").2.2) else none
def atM (t : Tr) (p : Str) : Option Tr := if p = "." then none else (paths t).lookup p
def pathM (t : Tr) (s p : Str) : Option (Str × Str × Str) := match atM t p with
  | none => none
  | some u => if s = "copy" ∧ u.isNil = true then none else some (s, p, u.text)
def givenM : Prs → Str → Option (Str × Str × Str)
  | [], _ => none
  | p :: r, z => if p.1 = z then some ("given", p.1, p.2) else givenM r z
def termM (t : Tr) (ps : Prs) (z : Str) : Option (Str × Str × Str) := match givenM ps z with
  | some r => some r
  | none => match srcM z with
    | none => none
    | some q => pathM t q.1 q.2
def marks : List Str := ["set", "new", "edit", "merge"]
abbrev headM (row : Str) : Str := (Txt.partition row " = ").1
def rowM (t : Tr) (ps : Prs) (row : Str) : Option (Str × Str × Str × Str) :=
  if (Txt.partition row " = ").2.1 = "" then none
  else if (Txt.partition (headM row) " ").1 ∉ marks then none
  else match atM t (Txt.partition (headM row) " ").2.2 with
    | none => none
    | some u => match termM t ps (Txt.partition row " = ").2.2 with
      | none => none
      | some r => if r.2.2 = u.text then some ((Txt.partition (headM row) " ").1, (Txt.partition (headM row) " ").2.2, r.1, r.2.1) else none
/-- the class of a row, by its mark -/
def clsM (m : Str) : Str := if m = "set" then "SetRow" else if m = "new" then "NewRow" else if m = "edit" then "EditRow" else "MergeRow"
def RowAt (K : PySem.W.Frag) (H : Hp) (x : Addr) (r : Str × Str × Str × Str) : Prop := ∃ dx, H x = some (.ins (He.ga K (clsM r.1)) dx [("path", .str r.2.1), ("source", .str r.2.2.1), ("word", .str r.2.2.2)])
def thensM (rs : List Str) : Nat := (rs.filter fun z : Str => decide (z = ("then" : Str))).length
def fitsM (t : Tr) (ps : Prs) (rs : List Str) (row : Str) : Bool :=
  if row = "then" then decide (thensM rs < 3) else decide (rs.length - thensM rs < 8) && (rowM t ps row).isSome
def sp_made (K : PySem.W.Frag) : Sp := fun vs H Q _ => ∃ (r : Str × Str × Str × Str), vs = [.str r.1, .str r.2.1, .str r.2.2.1, .str r.2.2.2] ∧ ∀ x H', Same H H' → RowAt K H' x r → Q (.ref x) H'
def fitsV (t : Tr) (ps : Prs) (rs : List Str) (o : Option Str) : Bool := match o with
  | some z => fitsM t ps rs z
  | none => false
/-- a row whose == with "then" is served: flat, or data that is no text -/
def RowC (H : Hp) (v : V) (o : Option Str) : Prop := (scal v (.str "then") = true ∧ (o = none → v ≠ .str "then")) ∨ (o = none ∧ ∃ d, DtV [] H v d ∧ SeqAt.shaped d = true ∧ ∀ z, d ≠ .str z)
theorem RowC.ne {H : Hp} {v : V} {o : Option Str} (h : RowC H v o) (e : o = none) : v ≠ .str "then" := by
  rcases h with h | ⟨_, d, h1, _, h3⟩
  · exact h.2 e
  · rintro rfl
    cases h1
    exact h3 _ rfl
/-- the places of "then" among the first n rows -/
def thAt (zs : List Str) (n : Nat) : List Nat := (List.range n).filter fun i => decide (zs[i]? = some ("then" : Str))
def endsM (zs : List Str) : List Nat := thAt zs zs.length ++ [zs.length]
def startsM (zs : List Str) : List Nat := 0 :: (thAt zs zs.length).map (· + 1)
def secsM (zs : List Str) : List (List Str) := ((startsM zs).zip (endsM zs)).map fun m => (zs.drop m.1).take (m.2 - m.1)
/-- the first row that does not fit: behind the rows rs, the rest's numbers begin at i -/
def badAt (t : Tr) (ps : Prs) : List Str → List (Option Str) → Nat → Option Nat
  | _, [], _ => none
  | rs, o :: r, i => if fitsV t ps rs o = true then badAt t ps (rs ++ [o.getD Str.empty]) r (i + 1) else some i
def KindsAt (Z : Addr → Prop) (C : Addr) (H : Hp) (ks : Addr) (ps : Prs) : Prop := Z ks ∧ ∃ qs : List Addr, H ks = some (.lst (qs.map V.ref)) ∧ qs.length = ps.length ∧ ∀ (i : Nat) (m : Str × Str), ps[i]? = some m → ∃ (q x : Addr) (g : Sg), qs[i]? = some q ∧ H q = some (.tup [.str m.1, .ref x]) ∧ ShG Z C H x g ∧ g.tr.text = m.2 ∧ good g.tr
/-- what stands for a row: an object, or None -/
def RowVal (K : PySem.W.Frag) (H : Hp) (v : V) : Option (Str × Str × Str × Str) → Prop
  | none => v = .non
  | some r => ∃ x, v = .ref x ∧ RowAt K H x r
def SecAt (Z : Addr → Prop) (K : PySem.W.Frag) (H : Hp) (c : Addr) (t : Tr) (ps : Prs) (r : List Str) : Prop := Z c ∧ ∃ xs : List V, H c = some (.lst xs) ∧ xs.length = r.length ∧ ∀ (i : Nat) (z : Str), r[i]? = some z → ∃ v, xs[i]? = some v ∧ RowVal K H v (rowM t ps z)
def WritAt (Z : Addr → Prop) (K : PySem.W.Frag) (H : Hp) (ws : Addr) (t : Tr) (ps : Prs) (rs : List (List Str)) : Prop := Z ws ∧ ∃ cs : List Addr, H ws = some (.lst (cs.map V.ref)) ∧ cs.length = rs.length ∧ ∀ (i : Nat) (r : List Str), rs[i]? = some r → ∃ c, cs[i]? = some c ∧ SecAt Z K H c t ps r
theorem RowAt.keep {K : PySem.W.Frag} {H H' : Hp} {x : Addr} {r : Str × Str × Str × Str} (k : ∀ b C dx fs, H b = some (.ins C dx fs) → fs.length = 3 → H' b = some (.ins C dx fs)) (h : RowAt K H x r) : RowAt K H' x r := by
  obtain ⟨dx, h⟩ := h
  exact ⟨dx, k _ _ _ _ h rfl⟩
theorem RowVal.keep {K : PySem.W.Frag} {H H' : Hp} {v : V} {o : Option (Str × Str × Str × Str)} (k : ∀ b C dx fs, H b = some (.ins C dx fs) → fs.length = 3 → H' b = some (.ins C dx fs)) (h : RowVal K H v o) : RowVal K H' v o := by
  cases o with
  | none => exact h
  | some r =>
    obtain ⟨x, e, h⟩ := h
    exact ⟨x, e, h.keep k⟩
theorem SecAt.keep {Z Z' : Addr → Prop} {K : PySem.W.Frag} {H H' : Hp} {c : Addr} {t : Tr} {ps : Prs} {r : List Str} (k : ∀ b C dx fs, H b = some (.ins C dx fs) → fs.length = 3 → H' b = some (.ins C dx fs)) (kl : ∀ b xs, H b = some (.lst xs) → Z b → H' b = some (.lst xs)) (kz : ∀ b, Z b → H b ≠ none → Z' b) (h : SecAt Z K H c t ps r) : SecAt Z' K H' c t ps r := by
  obtain ⟨z, xs, h1, h2, h3⟩ := h
  exact ⟨kz _ z (by rw [h1]; simp), xs, kl _ _ h1 z, h2, fun i y hy => by
    obtain ⟨v, e, hv⟩ := h3 i y hy
    exact ⟨v, e, hv.keep k⟩⟩
theorem WritAt.keep {Z Z' : Addr → Prop} {K : PySem.W.Frag} {H H' : Hp} {c : Addr} {t : Tr} {ps : Prs} {rs : List (List Str)} (k : ∀ b C dx fs, H b = some (.ins C dx fs) → fs.length = 3 → H' b = some (.ins C dx fs)) (kl : ∀ b xs, H b = some (.lst xs) → Z b → H' b = some (.lst xs)) (kz : ∀ b, Z b → H b ≠ none → Z' b) (h : WritAt Z K H c t ps rs) : WritAt Z' K H' c t ps rs := by
  obtain ⟨z, xs, h1, h2, h3⟩ := h
  exact ⟨kz _ z (by rw [h1]; simp), xs, kl _ _ h1 z, h2, fun i y hy => by
    obtain ⟨v, e, hv⟩ := h3 i y hy
    exact ⟨v, e, hv.keep k kl kz⟩⟩
abbrev upF (sh : Addr) (pv : V) (rs ks ws : Addr) : List (Str × V) := [("shape", .ref sh), ("parameters", pv), ("rows", .ref rs), ("kinds", .ref ks), ("writings", .ref ws)]
theorem sh1_off {Z : Addr → Prop} {C : Addr} {H : Hp} {x y C' dy : Addr} {fs : List (Str × V)} {g : Sg} (hy : H y = some (.ins C' dy fs)) (hf : fs.length ≠ 5) (h : Sh1 Z C H x g) : Sh1 (fun b => Z b ∧ b ≠ y) C H x g := by
  obtain ⟨dx, tv, na, fa, sa, h1, h2, h3, h4, h5, z1, z2, z3⟩ := h
  exact ⟨dx, tv, na, fa, sa, h1, h2, h3, h4, h5, ⟨z1, ne_of h1 hy (by intro z; injection z with _ _ e; rw [← e] at hf; exact hf rfl)⟩, ⟨z2, ne_of h4 hy (by intro z; cases z)⟩, ⟨z3, ne_of h5 hy (by intro z; cases z)⟩⟩
theorem shl_off {Z : Addr → Prop} {C : Addr} {H : Hp} {y C' dy : Addr} {fs : List (Str × V)} (hy : H y = some (.ins C' dy fs)) (hf : fs.length ≠ 5) : ∀ {g : Sg}, ShL Z C H g → ShL (fun b => Z b ∧ b ≠ y) C H g
  | .nil, _ => trivial
  | .cons _ _ _ _, ⟨a, b, c⟩ => ⟨sh1_off hy hf a, shl_off hy hf b, shl_off hy hf c⟩
theorem shg_off {Z : Addr → Prop} {C : Addr} {H : Hp} {x y C' dy : Addr} {fs : List (Str × V)} {g : Sg} (hy : H y = some (.ins C' dy fs)) (hf : fs.length ≠ 5) (h : ShG Z C H x g) : ShG (fun b => Z b ∧ b ≠ y) C H x g := ⟨sh1_off hy hf h.1, shl_off hy hf h.2⟩
/-- through a making that changes the new object alone -/
theorem shg_through {Z : Addr → Prop} {C : Addr} {H H' : Hp} {x y C' dy : Addr} {fs : List (Str × V)} {g : Sg} (hy : H y = some (.ins C' dy fs)) (hf : fs.length ≠ 5) (k : ∀ b o, H b = some o → b ≠ y → H' b = some o) (h : ShG Z C H x g) : ShG (fun b => Z b ∧ b ≠ y) C H' x g :=
  (shg_off hy hf h).kz fun b o hb _ hz => k b o hb (by
    rcases hz with hz | ⟨xs, rfl⟩
    · exact hz.2
    · exact ne_of hb hy (by intro z; cases z))
mutual
theorem keepO {N : List Addr} {H H' : Hp} (k : ∀ b o, H b = some o → (∃ xs, o = .lst xs ∨ o = .tup xs) → b ∉ N → H' b = some o) : ∀ {v : V} {d : PyData}, DtV N H v d → DtV N H' v d
  | _, _, .non => .non
  | _, _, .bl b => .bl b
  | _, _, .int i => .int i
  | _, _, .str z => .str z
  | _, _, .lst h n r => .lst (k _ _ h ⟨_, .inl rfl⟩ n) n (keepOs k r)
  | _, _, .tup h n r => .tup (k _ _ h ⟨_, .inr rfl⟩ n) n (keepOs k r)
theorem keepOs {N : List Addr} {H H' : Hp} (k : ∀ b o, H b = some o → (∃ xs, o = .lst xs ∨ o = .tup xs) → b ∉ N → H' b = some o) : ∀ {xs : List V} {ds : List PyData}, DtVs N H xs ds → DtVs N H' xs ds
  | _, _, .nil => .nil
  | _, _, .cons h r => .cons (keepO k h) (keepOs k r)
end
theorem dt_through {N : List Addr} {H H' : Hp} {y C' dy : Addr} {fs : List (Str × V)} {v : V} {d : PyData} (hy : H y = some (.ins C' dy fs)) (k : ∀ b o, H b = some o → b ≠ y → H' b = some o) (h : DtV N H v d) : DtV N H' v d :=
  keepO (fun b o hb ho _ => k b o hb (ne_of hb hy (by intro z; rw [z] at ho; rcases ho with ⟨xs, ho | ho⟩ <;> cases ho))) h
def Hold (N : List Addr) (H : Hp) (P : Hp → Prop) : Prop := ∀ H', Kn N H H' → P H'
section
variable {N M : List Addr} {H H' : Hp} {P Q : Hp → Prop}
theorem hold_sh {C x : Addr} {g : Sg} (h : ShG (fun b => b ∉ N) C H x g) (tu : ∀ b xs, H b = some (.tup xs) → b ∉ N) : Hold N H fun J => ShG (fun b => b ∉ N) C J x g := fun J kj => h.kz fun b o e _ hz => kj b o e (by
  rcases hz with hz | ⟨xs, rfl⟩
  · exact hz
  · exact tu _ _ e)
end
theorem pa_starK (K : PySem.W.Frag) {X : Cx} {e : Expr} {es : List Expr} {te : TE} {t : TA} {p : Pos} (he : PE X e te) (hr : PA X es t) (hs : starEach (.Starred e p :: es) X.env = (true, eval e X.env) :: starEach es X.env := by rfl) (eK : X.K = K := by rfl) : PA X (.Starred e p :: es) (StX.tStar K te t) := eK ▸ StX.pa_star he hr hs
/-- places whose things may change: lists and dicts -/
def LsN (N : List Addr) (H : Hp) : Prop := ∀ n ∈ N, ∃ o, H n = some o ∧ ((∃ xs, o = .lst xs) ∨ ∃ kvs, o = .dK kvs)
theorem LsN.tup {N : List Addr} {H : Hp} (l : LsN N H) : ∀ b xs, H b = some (.tup xs) → b ∉ N := fun b xs e n => by
  obtain ⟨o, h, k⟩ := l b n
  rw [e] at h
  cases h
  rcases k with ⟨_, k⟩ | ⟨_, k⟩ <;> cases k
theorem LsN.ins {N : List Addr} {H : Hp} (l : LsN N H) : ∀ b C dx fs, H b = some (.ins C dx fs) → b ∉ N := fun b C dx fs e n => by
  obtain ⟨o, h, k⟩ := l b n
  rw [e] at h
  cases h
  rcases k with ⟨_, k⟩ | ⟨_, k⟩ <;> cases k
theorem LsN.new {N : List Addr} {H : Hp} (l : LsN N H) {b : Addr} (h : H b = none) : b ∉ N := fun n => by
  obtain ⟨o, e, _⟩ := l b n
  rw [h] at e
  cases e
theorem LsN.same {N : List Addr} {H H' : Hp} (l : LsN N H) (s : Same H H') : LsN N H' := fun n hn => by
  obtain ⟨o, e, k⟩ := l n hn
  exact ⟨o, s _ _ e, k⟩
def UpAt (N : List Addr) (K : PySem.W.Frag) (H : Hp) (u sh : Addr) (g : Sg) (ps : Prs) (zs : List Str) : Prop := ∃ (dx : Addr) (pv : V) (rs ks ws : Addr), H u = some (.ins (He.ga K "Update") dx (upF sh pv rs ks ws)) ∧ u ∉ N ∧ DtV N H pv (parsD ps) ∧ TupF H rs (zs.map V.str) ∧ rs ∉ N ∧
  KindsAt (fun b => b ∉ N) (He.ga K "Shape") H ks ps ∧ WritAt (fun b => b ∉ N) K H ws g.tr ps (secsM zs) ∧ ShG (fun b => b ∉ N) (He.ga K "Shape") H sh g ∧ good g.tr ∧ areP (parsD ps) = true ∧ badAt g.tr ps [] (zs.map some) 0 = none
theorem KindsAt.keep {Z Z' : Addr → Prop} {C : Addr} {H H' : Hp} {ks : Addr} {ps : Prs} (k : ∀ b o, H b = some o → (Z b ∨ ∃ xs, o = .tup xs) → H' b = some o) (kz : ∀ b, Z b → H b ≠ none → Z' b) (h : KindsAt Z C H ks ps) : KindsAt Z' C H' ks ps := by
  obtain ⟨z, qs, h1, h2, h3⟩ := h
  refine ⟨kz _ z (by rw [h1]; simp), qs, k _ _ h1 (.inl z), h2, fun i m hm => ?_⟩
  obtain ⟨q, x, g, e1, e2, e3, e4, e5⟩ := h3 i m hm
  exact ⟨q, x, g, e1, k _ _ e2 (.inr ⟨_, rfl⟩), ((e3.imp (Z' := fun b => Z b ∧ H b ≠ none) fun b z h => ⟨z, h⟩).kz fun b o h _ hz => k b o h (hz.imp (fun z => z.1) fun z => z)).imp fun b z _ => kz b z.1 z.2, e4, e5⟩
section
variable {N M : List Addr} {K : PySem.W.Frag} {H H' : Hp} {u sh : Addr} {g : Sg} {ps : Prs} {zs : List Str}
theorem UpAt.kn (h : UpAt N K H u sh g ps zs) (l : LsN N H) (k : Kn N H H') : UpAt N K H' u sh g ps zs := by
  obtain ⟨dx, pv, rs, ks, ws, h1, h2, h3, h4, h5, h6, h7, h8, h9⟩ := h
  have kt : ∀ b o, H b = some o → (b ∉ N ∨ ∃ xs, o = .tup xs) → H' b = some o := fun b o e hz => k b o e (by
    rcases hz with hz | ⟨xs, rfl⟩
    · exact hz
    · exact l.tup _ _ e)
  refine ⟨dx, pv, rs, ks, ws, k _ _ h1 h2, h2, h3.keep k, h4.keep fun o e => k _ _ e h5, h5, h6.keep kt fun _ z _ => z, ?_, h8.kz fun b o e _ hz => kt b o e hz, h9⟩
  exact h7.keep (Z' := fun b => b ∉ N) (fun b C dx fs e _ => k b _ e (l.ins _ _ _ _ e)) (fun b xs e n => k b _ e n) fun _ z _ => z
end
theorem pi_enumK (K : PySem.W.Frag) {X : Cx} {e : Expr} {ta : TA} {p pos tpos : Pos} {elts : List Expr} {kk : Nat} (hg : Gl X "enumerate") (hm : X.mg "enumerate" = none) (ha : PA X [e] ta) (hs : starEach [e] X.env = [(false, eval e X.env)] := by rfl) (eK : X.K = K := by rfl) :
    PI X (.Tuple elts kk tpos) (.Call (.Name "enumerate" p) [e] [] pos) (iEnum K ta) := eK ▸ pi_enum hg hm ha hs
theorem noPart {σ : L2.St} {H : Hp} {R : Option Int → Hp → Prop} (h : R none H) : tNoPart σ H R := h
def marksM (zs : List Str) : List Str := (zs.filter fun z : Str => decide (z ≠ ("then" : Str))).map fun z => (Txt.partition z " ").1
/-- drawn parameters: words and trees -/
structure PsOk (l : List (Str × Tr)) : Prop where
  len : l.length ≤ 3
  pl : (l.map fun m => m.2.plains).sum ≤ 3
  ok : ∀ m ∈ l, isWord m.1 = true ∧ good m.2
  nd : (l.map (·.1)).Nodup
def txts (l : List (Str × Tr)) : Prs := l.map fun m => (m.1, m.2.text)
def WayOk (t : Tr) (r : List (Str × Tr)) (u : Tr) (q : Str × Str) : Prop := (q.1 = "given" ∧ (q.2, u) ∈ r) ∨ ((q.1 = "present" ∨ q.1 = "old" ∨ (q.1 = "copy" ∧ u.isNil = false)) ∧ (q.2, u) ∈ fp t)
def RowOk (t : Tr) (r : List (Str × Tr)) (q : Str × Str × Str × Str) : Prop := q.1 ∈ marks ∧ ∃ u, (q.2.1, u) ∈ fp t ∧ WayOk t r u (q.2.2.1, q.2.2.2)
abbrev rowH (q : Str × Str × Str × Str) : HO := .tup [.str q.1, .str q.2.1, .str q.2.2.1, .str q.2.2.2]
def eqT (a b : Tr) : Bool := PyData.eqv (trD a) (trD b)
theorem eqT_iff (a b : Tr) : eqT a b = true ↔ a = b := trD_eq a b
theorem eqT_self (a : Tr) : eqT a a = true := (eqT_iff a a).mpr rfl
theorem tree_eq {K : PySem.W.Frag} {H : Hp} {a b : Tr} {x y : V} {Q : VK} (ga : good a) (gb : good b) (ha : TrAt H a x) (hb : TrAt H b y) (q : Q (.bl (eqT a b)) H) : rEqD K x y H Q :=
  ⟨trD a, trD b, tr_dp ha, tr_dp hb, trD_shaped ga, trD_shaped gb, q⟩
theorem tree_ne {K : PySem.W.Frag} {H : Hp} {a b : Tr} {x y : V} {Q : VK} (ga : good a) (gb : good b) (ha : TrAt H a x) (hb : TrAt H b y) (q : Q (.bl (!eqT a b)) H) : rNeD K x y H Q :=
  ⟨trD a, trD b, tr_dp ha, tr_dp hb, trD_shaped ga, trD_shaped gb, q⟩
/-- a row drawn, or "then" -/
inductive DRow (t : Tr) (r : List (Str × Tr)) (H : Hp) : V → Str → Prop
  | then_ : DRow t r H (.str "then") "then"
  | row {p : Addr} {q : Str × Str × Str × Str} : H p = some (rowH q) → RowOk t r q → DRow t r H (.ref p) (q.1 ++ " " ++ q.2.1 ++ " = " ++ (if q.2.2.1 = "old" ∨ q.2.2.1 = "copy" then q.2.2.1 ++ " " else "") ++ q.2.2.2)
theorem starts_app (a b : Str) : Txt.startswith (a ++ b) a = true := by
  unfold Txt.startswith
  rw [PySem.StrLaws.subAt_eq, Bool.and_eq_true]
  refine ⟨decide_eq_true (by rw [len_app]; omega), ?_⟩
  show ((cs (a ++ b)).drop 0).take a.length == cs a
  rw [List.drop_zero, cs_app, ← cs_len a, List.take_left]
  exact beq_self_eq_true _
theorem cut_tail {a b : Str} {i : Int} (hi : i = (a.length : Int)) : cutS (a ++ b) (some i) none = b := by
  apply str_inj
  have e1 : HT.sIx (a ++ b).length 0 (some i) = a.length := by rw [hi, HT.sIx_nat, len_app]; omega
  unfold cutS
  rw [e1, HT.sIx_none]
  show ((cs (a ++ b)).drop a.length).take ((a ++ b).length - a.length) = cs b
  rw [cs_app, ← cs_len a, List.drop_left, len_app, cs_len, Nat.add_sub_cancel_left, ← cs_len b, List.take_length]
def pairsT (ps : Prs) : Str := Str.join ", " (ps.map fun m => m.1 ++ ": " ++ m.2)
/-- the first line of an update's text -/
def headT (nm : Str) (ps : Prs) : Str := "update " ++ nm ++ "(" ++ pairsT ps ++ "):"
def Nl (z : Str) : Prop := 10 ∉ cs z
theorem Nl.app {a b : Str} (h : Nl a) (k : Nl b) : Nl (a ++ b) := fun hc => by
  rw [cs_app] at hc
  rcases List.mem_append.mp hc with hc | hc
  · exact h hc
  · exact k hc
theorem nl_word {w : Str} (h : isWord w = true) : Nl w := fun hc => by
  have := isWord_low h 10 hc
  exact absurd this (by decide +kernel)
theorem nl_of {z : Str} (h : (cs z).contains 10 = false) : Nl z := by
  intro hc
  have : (cs z).contains 10 = true := by simpa using hc
  rw [this] at h
  cases h
theorem fcs_nl : ∀ {t : Tr}, Tr.lows t → 10 ∉ fcs t ∧ 10 ∉ tcs t
  | .nil, _ => ⟨(fun hc => nomatch hc), fun hc => by
    have e : (10 : Nat) = 46 := by simpa [tcs, Tr.isNil] using hc
    omega⟩
  | .cons w t r, ⟨h1, h2, h3⟩ => by
    obtain ⟨_, a2⟩ := fcs_nl h2
    obtain ⟨b1, _⟩ := fcs_nl h3
    have hw := nl_word h1
    have k : 10 ∉ fcs (.cons w t r) := fun hc => by
      rw [fcs_cons, List.mem_append, List.mem_cons, List.mem_cons, List.mem_append] at hc
      rcases hc with hc | hc | hc | hc | hc
      · exact hw hc
      · omega
      · omega
      · exact a2 hc
      · by_cases hr : r.isNil = true
        · rw [if_pos hr] at hc
          exact nomatch hc
        · rw [if_neg hr, List.mem_cons, List.mem_cons] at hc
          rcases hc with hc | hc | hc
          · omega
          · omega
          · exact b1 hc
    refine ⟨k, fun hc => ?_⟩
    have e : tcs (.cons w t r) = 123 :: (fcs (.cons w t r) ++ [125]) := rfl
    rw [e, List.mem_cons, List.mem_append] at hc
    rcases hc with hc | hc | hc
    · omega
    · exact k hc
    · have : (10 : Nat) = 125 := by simpa using hc
      omega
theorem text_nl {f : Nat} {t : Tr} (h : Fine f t) : Nl t.text := fun hc => by
  rw [cs_text] at hc
  exact (fcs_nl (fine_lows h)).2 hc
def lineT (z : Str) : Str := "    " ++ z
theorem split_lines {parts : List Str} (hne : parts ≠ []) (h : ∀ p ∈ parts, Nl p) : Txt.split (Str.join "\n" parts) "\n" = parts := by
  rw [← TL.join_eq]
  exact TL.split_join (s := 10) (S := []) (by decide +kernel) (by decide +kernel) hne h
theorem LsN.st {H : Hp} {st g l : Addr} (S : StAt H st g l) : LsN [st, g, l] H := fun n hn => by
  obtain ⟨⟨gs, ls, c, a, h1, h2, h3, _⟩, _⟩ := S
  simp only [List.mem_cons, List.not_mem_nil, or_false] at hn
  rcases hn with rfl | rfl | rfl
  · exact ⟨_, h1, .inl ⟨_, rfl⟩⟩
  · exact ⟨_, h2, .inl ⟨_, rfl⟩⟩
  · exact ⟨_, h3, .inl ⟨_, rfl⟩⟩
theorem ShN.kn {N : List Addr} {H H' : Hp} {C x : Addr} {g : Sg} (h : ShG (fun b => b ∉ N) C H x g) (l : LsN N H) (k : Kn N H H') : ShG (fun b => b ∉ N) C H' x g := hold_sh h l.tup H' k
structure Blk where
  nm : Str
  ps : List (Str × Tr)
  rows : List Str
structure BlkOk (t : Tr) (b : Blk) : Prop where
  w : isWord b.nm = true
  ps : PsOk b.ps
  th : thensM b.rows ≤ 3
  ln : b.rows.length ≤ thensM b.rows + 8
/-- a block at its place; its lists are none of N -/
def BlkAt (N : List Addr) (t : Tr) (H : Hp) (v : V) (b : Blk) : Prop := ∃ (p Dw Dr : Addr) (qs : List V) (po : List (V × Str)), v = .ref p ∧ H p = some (.tup [.str b.nm, .ref Dw, .ref Dr]) ∧ H Dw = some (.lst qs) ∧ FsAt H (.ofFields b.ps) qs ∧ H Dr = some (.lst (po.map (·.1))) ∧ po.map (·.2) = b.rows ∧ (∀ m ∈ po, DRow t b.ps H m.1 m.2) ∧ Dw ∉ N ∧ Dr ∉ N
def blkLs (b : Blk) : List Str := headT b.nm (txts b.ps) :: b.rows.map lineT
def bookLs (t : Tr) (bs : List Blk) : List Str := ("document " ++ t.text) :: (bs.map blkLs).flatten
def wrN (b : Blk) : Nat := b.rows.length - thensM b.rows
theorem pg_unlK (K : PySem.W.Frag) {X : Cx} {es : List Expr} {k : Nat} {t : TGs} {n : Nat} {pos : Pos} (hc : X.calm = true) (h : PGs X es t) (hn : (assignEach es X.env).length = n := by rfl) (hst : (assignEach es X.env).findIdx? (·.1) = none := by rfl) (e : X.K = K := by rfl) : PG X (.Tuple es k pos) (gUnl K n t) := by
  subst e
  exact pg_unl hc h hn hst
/-- the paths and parameters of the law, as they lie -/
structure LawAt (H : Hp) (Pt Wt : Addr) (t : Tr) (us qs : List V) (r : List (Str × Tr)) : Prop where
  hP : H Pt = some (.lst us)
  hf : FsAt H (.ofFields (paths t)) us
  gd : good t
  hW : H Wt = some (.lst qs)
  hr : FsAt H (.ofFields r) qs
  ok : PsOk r
theorem mut_tupsK {H : Hp} {D : Addr} {l : List (Key × V)} {o : HO} (h : H D = some (.dK l)) : ∀ c xs, H c = some (.tup xs) → (upd H D o) c = some (.tup xs) := fun c xs e => by
  rw [upd_ne (fun k => by rw [k, h] at e; cases e)]
  exact e
def bnd3 (z : Str) : List Str := [z, z, z, "then", z, z, z, "then", z, "then", z]
structure L10 (K : PySem.W.Frag) (H : Hp) (st g l Dp Dw x pt : Addr) (gg : Sg) (us qs : List V) (r : List (Str × Tr)) : Prop where
  S : StAt H st g l
  la : LawAt H Dp Dw gg.tr us qs r
  sh : ShG (fun b => b ∉ [st, g, l]) (He.ga K "Shape") H x gg
  hp : DtV [st, g, l] H (.ref pt) (parsD (txts r))
  nP : Dp ≠ st ∧ Dp ≠ g ∧ Dp ≠ l
  nW : Dw ≠ st ∧ Dw ≠ g ∧ Dw ≠ l
abbrev UB := Str × Prs × List Str
def wr1 (b : UB) : Nat := b.2.2.length - thensM b.2.2
def wrM (bs : List UB) : Nat := (bs.map wr1).sum
/-- blocks of a book -/
structure BOk (t : Tr) (bs : List UB) : Prop where
  len : bs.length ≤ 4
  nd : (bs.map (·.1)).Nodup
  ok : ∀ b ∈ bs, isWord b.1 = true ∧ areP (parsD b.2.1) = true ∧ badAt t b.2.1 [] (b.2.2.map some) 0 = none
  wr : wrM bs ≤ 8
theorem BOk.nil (t : Tr) : BOk t [] := ⟨Nat.zero_le _, List.nodup_nil, (fun _ h => nomatch h), Nat.zero_le _⟩
theorem pe_makeRV {X : Cx} {k : Nat} {x : Str} {C : Addr} {sp : Sp} {e : Expr} {es : List Expr} {p pos : Pos} {t : TA} {E : L2.St → XK} (c : CalR X.prog X.w X.K X.mg X.base k x C sp) (hx : ∀ σ, PassesAt (L2.CX X.prog X.w) X σ (E σ)) (hr : Room (k + 1) X.A) (hg : Gl X x)
    (ha : PA X (e :: es) t) (hdb : (x == ("__debug__" : Str)) = false := by decide) (he : starEach (e :: es) X.env = (false, eval e X.env) :: starEach es X.env := by rfl) (hpl : (backTo pos (starEach es X.env)).any (·.1) = true := by rfl) :
    PE X (.Call (.Name x p) (e :: es) [] pos) (tMakeT C sp E t) := by
  obtain ⟨f, M, F, hm⟩ := c.ex
  refine ⟨fun pins s σ H Q I h => wpAny_Call_Name_kw (ld_glob I hg hm ?_ hdb)⟩
  refine PySem.W.callWith_S2 (h₀ := X.base) I.ok.mod.kin M.kp (thn (ha.run pos pins s σ H _ I h) fun us s1 ⟨vs, H1, J, rv, q⟩ => ⟨J.kIn, ?_⟩) he hpl
  have z := q (s1.heap.objs.size + 1) s1.heap.objs.size (J.hok.fresh (Nat.le_succ _)) (J.hok.fresh (Nat.le_refl _)) (Nat.ne_of_lt (Nat.lt_succ_self _))
  have J2 := Inv.made (C := C) J
  have r2 : Vals (V.ref (s1.heap.objs.size + 1) :: vs) (Value.ref (s1.heap.objs.size + 1) :: us) := .cons rfl rv
  refine wpAny_call (make_map (f := f) J.kIn M.makes M.init (beq_iff_eq.mp M.fn) (codeAny_mono (F _ X.stack _ _ (Value.ref (s1.heap.objs.size + 1) :: us) _ _ (E σ) (hr.make C us []) (J2.env0.make C us []) r2 z) fun r s2 hq => ?_))
  match r, hq with
  | .error e, hq => exact hx σ pins _ _ e s2 J2 hq
  | .ok (.ret u), hq =>
    obtain ⟨v, H2, J3, r3, ev, q3⟩ := J2.after hq
    subst ev
    exact ⟨r3, .ref _, H2, J3, rfl, q3⟩
theorem dc_it {J : It} {n : Nat} {G : Hp → Prop} {Y : Nat → Hp → V → Hp → Prop} (w : Walk J n G Y) {g : TG} {tt : TT} {tk tv : TE} {vs : List Nat} {σ : L2.St} {H1 : Hp} {D : Addr} {Qd : Hp → Prop} (Pv : Nat → Hp → Prop) (h0 : Pv 0 (upd H1 D (.dK []))) (hG : ∀ i H, i ≤ n → Pv i H → G H)
    (hs : ∀ i x H H', i < n → Pv i H → Y i H x H' → g x (wipe σ vs) H' fun σ2 H2 => wipe σ2 vs = wipe σ vs ∧ tt σ2 H2 fun b H3 =>
      if b = true then tk σ2 H3 fun y H4 => tv σ2 H4 fun z H5 => ∃ kvs k, y = kV k ∧ H5 D = some (.dK kvs) ∧ kvs.length < sizeLine ∧ Pv (i + 1) (upd H5 D (.dK (putK kvs k z))) else Pv (i + 1) H3) (hd : ∀ H, Pv n H → Qd H) :
    ∃ W : Nat → Nat → Hp → Prop, (∃ m, W 0 m (upd H1 D (.dK []))) ∧ ∀ i m H, W i m H →
      (J.stop i H ∧ Qd H) ∨ (J.go i H ∧ ∃ Nx : Hp → Prop, (∀ H', Nx H' → ∃ m', m' < m ∧ W (i + 1) m' H') ∧ ∀ x H', J.yld i H x H' → g x (wipe σ vs) H' fun σ2 H2 => wipe σ2 vs = wipe σ vs ∧ tt σ2 H2 fun b H3 =>
        if b = true then tk σ2 H3 fun y H4 => tv σ2 H4 fun z H5 => ∃ kvs k, y = kV k ∧ H5 D = some (.dK kvs) ∧ kvs.length < sizeLine ∧ Nx (upd H5 D (.dK (putK kvs k z))) else Nx H3) := by
  refine ⟨fun i m H => m = n - i ∧ i ≤ n ∧ Pv i H, ⟨n, by simp, Nat.zero_le _, h0⟩, ?_⟩
  rintro i m H ⟨rfl, hi, p⟩
  have q := hG i H hi p
  by_cases hlt : i < n
  · refine .inr ⟨w.goes i H hlt q, Pv (i + 1), fun H' p' => ⟨n - (i + 1), by omega, rfl, hlt, p'⟩, fun x H' y => hs i x H H' hlt p (w.yields i H x H' hlt q y)⟩
  · have e : i = n := by omega
    subst e
    exact .inl ⟨w.stops H q, hd H p⟩
def UdL (R : UB → V → Prop) : List (Key × V) → List UB → Prop
  | [], [] => True
  | kv :: ks, b :: bs => kv.1 = .inr b.1 ∧ R b kv.2 ∧ UdL R ks bs
  | _, _ => False
theorem UdL.imp {R R' : UB → V → Prop} (i : ∀ b v, R b v → R' b v) : ∀ {ks : List (Key × V)} {bs : List UB}, UdL R ks bs → UdL R' ks bs
  | [], [], _ => trivial
  | _ :: _, _ :: _, h => ⟨h.1, i _ _ h.2.1, UdL.imp i h.2.2⟩
  | [], _ :: _, h => h.elim
  | _ :: _, [], h => h.elim
abbrev bookF (z : Str) (sh nt ud : Addr) : List (Str × V) := [("text", .str z), ("shape", .ref sh), ("names", .ref nt), ("updates", .ref ud)]
def UpR (N : List Addr) (K : PySem.W.Frag) (H : Hp) (sh : Addr) (g : Sg) (b : UB) (v : V) : Prop := ∃ u, v = .ref u ∧ UpAt N K H u sh g b.2.1 b.2.2
def BookAt (N : List Addr) (K : PySem.W.Frag) (H : Hp) (bk : Addr) (z : Str) (g : Sg) (bs : List UB) : Prop := ∃ (dx sh nt ud : Addr) (ks : List (Key × V)), H bk = some (.ins (He.ga K "Book") dx (bookF z sh nt ud)) ∧ bk ∉ N ∧ H nt = some (.tup (bs.map fun b => V.str b.1)) ∧ H ud = some (.dK ks) ∧ ud ∉ N ∧
  UdL (UpR N K H sh g) ks bs ∧ ShG (fun b => b ∉ N) (He.ga K "Shape") H sh g ∧ good g.tr ∧ BOk g.tr bs
theorem BookAt.kn {N : List Addr} {K : PySem.W.Frag} {H H' : Hp} {bk : Addr} {z : Str} {g : Sg} {bs : List UB} (h : BookAt N K H bk z g bs) (l : LsN N H) (k : Kn N H H') : BookAt N K H' bk z g bs := by
  obtain ⟨dx, sh, nt, ud, ks, h1, h2, h3, h4, h5, h6, h7, h8, h9⟩ := h
  exact ⟨dx, sh, nt, ud, ks, k _ _ h1 h2, h2, k _ _ h3 (l.tup _ _ h3), k _ _ h4 h5, h5, h6.imp fun b v ⟨u, e, hu⟩ => ⟨u, e, hu.kn l k⟩, ShN.kn h7 l k, h8, h9⟩
theorem BookAt.same {N : List Addr} {K : PySem.W.Frag} {H H' : Hp} {bk : Addr} {z : Str} {g : Sg} {bs : List UB} (h : BookAt N K H bk z g bs) (l : LsN N H) (s : Same H H') : BookAt N K H' bk z g bs := h.kn l (Kn.of s)
section
variable {K : PySem.W.Frag} {H H' : Hp} {x0 C0 d0 : Addr} {fs0 : List (Str × V)}
theorem RowAt.off (h0 : H x0 = some (.ins C0 d0 fs0)) (nf : fs0.lookup ("path" : Str) = none) (k : ∀ b o, H b = some o → b ≠ x0 → H' b = some o) {x : Addr} {r : Str × Str × Str × Str} (h : RowAt K H x r) : RowAt K H' x r := by
  obtain ⟨dx, h⟩ := h
  refine ⟨dx, k _ _ h fun e => ?_⟩
  rw [e, h0] at h
  injection h with h
  injection h with _ _ h
  rw [h] at nf
  cases nf
theorem SecAt.off {Z : Addr → Prop} (h0 : H x0 = some (.ins C0 d0 fs0)) (nf : fs0.lookup ("path" : Str) = none) (k : ∀ b o, H b = some o → b ≠ x0 → H' b = some o) {c : Addr} {t : Tr} {ps : Prs} {r : List Str} (h : SecAt Z K H c t ps r) : SecAt Z K H' c t ps r := by
  obtain ⟨z, xs, h1, h2, h3⟩ := h
  refine ⟨z, xs, k _ _ h1 (ne_of h1 h0 (by intro z; cases z)), h2, fun i y hy => ?_⟩
  obtain ⟨v, e, hv⟩ := h3 i y hy
  refine ⟨v, e, ?_⟩
  revert hv
  cases rowM t ps y with
  | none => exact fun h => h
  | some r => exact fun ⟨x, e, h⟩ => ⟨x, e, h.off h0 nf k⟩
theorem WritAt.off {Z : Addr → Prop} (h0 : H x0 = some (.ins C0 d0 fs0)) (nf : fs0.lookup ("path" : Str) = none) (k : ∀ b o, H b = some o → b ≠ x0 → H' b = some o) {c : Addr} {t : Tr} {ps : Prs} {rs : List (List Str)} (h : WritAt Z K H c t ps rs) : WritAt Z K H' c t ps rs := by
  obtain ⟨z, cs, h1, h2, h3⟩ := h
  refine ⟨z, cs, k _ _ h1 (ne_of h1 h0 (by intro z; cases z)), h2, fun i r hr => ?_⟩
  obtain ⟨c, e, hc⟩ := h3 i r hr
  exact ⟨c, e, hc.off h0 nf k⟩
theorem KindsAt.off {Z : Addr → Prop} {C : Addr} (h0 : H x0 = some (.ins C0 d0 fs0)) (n5 : fs0.length ≠ 5) (k : ∀ b o, H b = some o → b ≠ x0 → H' b = some o) {ks : Addr} {ps : Prs} (h : KindsAt Z C H ks ps) : KindsAt Z C H' ks ps := by
  obtain ⟨z, qs, h1, h2, h3⟩ := h
  refine ⟨z, qs, k _ _ h1 (ne_of h1 h0 (by intro z; cases z)), h2, fun i m hm => ?_⟩
  obtain ⟨q, y, g, e1, e2, e3, e4⟩ := h3 i m hm
  exact ⟨q, y, g, e1, k _ _ e2 (ne_of e2 h0 (by intro z; cases z)), (shg_through h0 n5 k e3).imp fun b hb _ => hb.1, e4⟩
theorem UpAt.off {N : List Addr} (h0 : H x0 = some (.ins C0 d0 fs0)) (nf : fs0.lookup ("path" : Str) = none) (n5 : fs0.length ≠ 5) (k : ∀ b o, H b = some o → b ≠ x0 → H' b = some o) {u sh : Addr} {g : Sg} {ps : Prs} {zs : List Str} (h : UpAt N K H u sh g ps zs) : UpAt N K H' u sh g ps zs := by
  obtain ⟨dx, pv, rs, ks, ws, h1, h2, h3, h4, h5, h6, h7, h8, h9⟩ := h
  refine ⟨dx, pv, rs, ks, ws, k _ _ h1 fun e => ?_, h2, dt_through h0 k h3, h4.keep fun o e => k _ _ e (h4.ne_ins h0), h5, h6.off h0 n5 k, h7.off h0 nf k, (shg_through h0 n5 k h8).imp fun b hb _ => hb.1, h9⟩
  rw [e, h0] at h1
  injection h1 with h1
  injection h1 with _ _ h1
  exact n5 (by rw [h1]; rfl)
end
def b0 (w : Str) : UB := (w, [], [])
def ubOf (b : Blk) : UB := (b.nm, txts b.ps, b.rows)
end Rw
namespace Rw
open PySem PySem.Spec PyProof.Rows L2 Ub Ur Ug Ue Up Uo Ve Vk
open AutoSeq1
end Rw
namespace Rw
open PySem PySem.Spec PyProof.Rows L2 Ub Ur Ug Ue Up Uo Ve Va Vk
end Rw
namespace Gr
open PySem PySem.Spec PyProof.Rows L2 Ub Ur Ug Ue Up Uo Vk Ve Pt
end Gr
namespace Gr
open PySem PySem.Spec PyProof.Rows L2 Ub Ur Ug Ue Up Uo Vk Ve Pt Rw
abbrev Row4 : Type := Str × Str × Str × Str
/-- the class of a row, as it is read -/
structure RowC (K : PySem.W.Frag) (C : Addr) : Prop where
  cls : Cls K C
  path : NoAttr K C "path"
  source : NoAttr K C "source"
  word : NoAttr K C "word"
def plantN : Tr → Nat → List Int → Option (List (Str × GC) × GG × List Int)
  | .nil, _, vs => some ([], [], vs)
  | .cons w t r, n, vs => if t.isNil then (match vs with
      | [] => none
      | v :: vs => match plantN r n vs with
        | none => none
        | some o => some ((w, .int v) :: o.1, o.2.1, o.2.2))
    else match plantN t (n + 1) vs with
      | none => none
      | some o1 => match plantN r (n + 1 + o1.2.1.length) o1.2.2 with
        | none => none
        | some o2 => some ((w, .node n) :: o2.1, ⟨t, o1.1⟩ :: o1.2.1 ++ o2.2.1, o2.2.2)
def wordsP (z : Str) : List Str := (Txt.split z ".").filter fun w => decide (w ≠ "")
structure Ev (C : Cp3) (Z : Addr → Prop) (H H' : Hp) (M M' : Pg) : Prop where
  ok : PgOk C Z H' M'
  keep : ∀ b o, H b = some o → NotCd M b → H' b = some o
  old : ∀ p n, M p = some n → ∃ n', M' p = some n' ∧ n'.g = n.g ∧ n'.x = n.x ∧ n'.cd = n.cd ∧ n'.tk = n.tk
  new : ∀ p n, M' p = some n → (∃ m, M p = some m ∧ n.cd = m.cd) ∨ (H p = none ∧ H n.cd = none)
  tkn : ∀ p n, M' p = some n → M p = none → H n.tk = none
section
variable {C : Cp3} {Z : Addr → Prop} {H H' H1 H2 : Hp} {M M' M1 M2 : Pg}
/-- what is no dict stays -/
theorem Ev.nd (ok : PgOk C Z H M) (E : Ev C Z H H' M M') {b : Addr} {o : HO} (e : H b = some o) (hn : ∀ l, o ≠ .dK l) : H' b = some o := E.keep b o e fun p n e1 e2 => by
  have := (ok.nd p n e1).cells
  rw [e2, e] at this
  cases this
  exact hn _ rfl
end
end Gr
namespace Gr
open PySem PySem.Spec PyProof.Rows L2 Ub Ur Ug Ue Up Uo Vk Ve Pt Rw
open PySem.Builtin.Str (lastOccurrence subAt strSub)
end Gr
namespace Gr
open PySem PySem.Spec PyProof.Rows L2 Ub Ur Ug Ue Up Uo Vk Ve Pt Rw
end Gr
namespace Pt
open PySem PySem.Spec PyProof.Rows L2 Ub Ur Ug Ue Up Uo Vk Ve Wb
theorem canLay_ints : ∀ is : List Int, PyData.canLayAll0 (is.map PyData.int) = true
  | [] => by simp [PyData.canLayAll0]
  | i :: is => by simp [PyData.canLayAll0, PyData.canLay0, canLay_ints is]
theorem dep_ints : ∀ is : List Int, PyData.depthAll (is.map PyData.int) = 0
  | [] => by simp [PyData.depthAll]
  | i :: is => by simp [PyData.depthAll, PyData.depth, dep_ints is]
theorem ints_shaped (is : List Int) : SeqAt.shaped (intsD is) = true := by
  unfold SeqAt.shaped intsD
  rw [show PyData.canLay0 (.tuple (is.map PyData.int)) = PyData.canLayAll0 (is.map PyData.int) by simp [PyData.canLay0], canLay_ints, show PyData.depth (.tuple (is.map PyData.int)) = PyData.depthAll (is.map PyData.int) + 1 by simp [PyData.depth], dep_ints]
  rfl
theorem eqvAll_ints : ∀ is js : List Int, PyData.eqvAll (is.map PyData.int) (js.map PyData.int) = decide (is = js)
  | [], [] => by simp [PyData.eqvAll]
  | [], _ :: _ => by simp [PyData.eqvAll]
  | _ :: _, [] => by simp [PyData.eqvAll]
  | i :: is, j :: js => by
    simp only [List.map_cons, PyData.eqvAll, PyData.eqv, eqvAll_ints is js]
    by_cases e : i = j
    · by_cases e2 : is = js <;> simp [e, e2]
    · simp [e]
theorem ints_eqv (is js : List Int) : PyData.eqv (intsD is) (intsD js) = decide (is = js) := by
  unfold intsD
  rw [show PyData.eqv (.tuple (is.map PyData.int)) (.tuple (js.map PyData.int)) = PyData.eqvAll (is.map PyData.int) (js.map PyData.int) by simp [PyData.eqv]]
  exact eqvAll_ints is js
theorem dp_ints {K : PySem.W.Frag} {H : Hp} {p : Addr} {is : List Int} (h : H p = some (.tup (is.map V.int))) : Dp K H (.ref p) (intsD is) := (DtV.tup (N := []) h (by simp) (dtvs_int is)).dp
theorem units65 {k : Nat} {A : Around} (r : Room k A) : A.units + 65 < cLine := by have := r.un; omega
end Pt
namespace Gr
open PySem PySem.Spec PyProof.Rows L2 Ub Ur Ug Ue Up Uo Vk Ve Pt Rw
def PlAt (H : Hp) (M : Pg) (ps : List Addr) (u : V) : Prop := ∃ (a q : Addr) (m : Nd) (k : Nat), u = .ref a ∧ H a = some (.tup [.ref q, .int (k : Nat)]) ∧ M q = some m ∧ ps[k]? = some q
end Gr
namespace Pt
open PySem PySem.Spec PyProof.Rows L2 Ub Ur Ug Ue Up Uo Vk Ve Wb
end Pt
namespace Gr
open PySem PySem.Spec PyProof.Rows L2 Ub Ur Ug Ue Up Uo Vk Ve Pt Rw
theorem mt_indexK (K : PySem.W.Frag) {X : Cx} (e : X.K = K := by rfl) : MtR X "list.index" (rIndex K) := e ▸ mt_index
end Gr
namespace Gr
open PySem PySem.Spec PyProof.Rows L2 Ub Ur Ug Ue Up Uo Ve Va Vk Wb Pt Sb
open Rw
section
variable {K : PySem.W.Frag} {N N' : List Addr} {H H' : Hp} {u sh : Addr} {gs : Sg} {v : V}
/-- what stands for a row of a drawn update -/
def RwV (H : Hp) (t : Tr) (r : List (Str × Tr)) : Option Row4 → V → Prop
  | none, v => v = .str "then"
  | some q, v => ∃ p, v = .ref p ∧ H p = some (rowH q) ∧ RowOk t r q ∧ q.1 ∈ marks
end
end Gr
namespace Sup
open PySem PySem.Spec L2 NdefX
open PyProof.Rows hiding wpAt wpAt_mono wpAt_bind
end Sup
namespace Gr
open PySem PySem.Spec PyProof.Rows L2 Ub Ur Ug Ue Up Uo Vk Ve Pt Rw
end Gr
namespace Wt
open PySem PySem.Spec PyProof.Rows L2 Ub Ur Ug Ue Up Uo Ve Va Vk Wb Pt Gr Sb Rw
/-- a watcher's fields -/
abbrev wFs (z : Str) (r : V) : List (Str × V) := [("path", .str z), ("remembered", r)]
def WkC (K : PySem.W.Frag) (C : Addr) : Prop := Cls K C ∧ NoAttr K C "path" ∧ NoAttr K C "remembered"
def sp_winit (K : PySem.W.Frag) : Sp := fun vs H Q _ => ∃ (D x dx : Addr) (ws : List Str), vs = [.ref x, .str (ptext ws)] ∧ H x = some (.ins D dx []) ∧ WkC K D ∧ (∀ z ∈ ws, isWord z = true) ∧ (ptext ws).length ≤ 1000 ∧ ∀ H', Kn [x] H H' → H' x = some (.ins D dx (wFs (ptext ws) .non)) → Q .non H'
end Wt
namespace Bt
open PySem PySem.Spec PyProof.Rows L2 Ub Ur Ug Ue Up Uo Ve Va Vk Wb Pt Gr Sb Rw Wt
structure SR where
  s : Addr
  dx : Addr
  bk : Addr
  wl : Addr
  kl : Addr
  tl : Addr
structure WR where
  w : Addr
  dx : Addr
  k : Nat
  z : Str
abbrev WS : Type := List (WR × Option Cell)
/-- what stands at a path -/
def stand (M : Pg) (p : Addr) (z : Str) : Option Cell := walk M (.part p) (wordsP z)
def standD (M : Pg) (p : Addr) (z : Str) : Cell := (stand M p z).getD (.int 0)
def seenW (M : Pg) (p : Addr) (xs : WS) : WS := xs.map fun x => (x.1, some (standD M p x.1.z))
end Bt
namespace Sup
open PySem PySem.Spec L2 NdefX
open PyProof.Rows hiding wpAt wpAt_mono wpAt_bind
end Sup
namespace Wt
open PySem PySem.Spec PyProof.Rows L2 Ub Ur Ug Ue Up Uo Ve Va Vk Wb Pt Gr Sb Rw
def nodeKv (k : Nat) (tv : V) (cd : Addr) : List (Key × V) := [(.inr "mine", .int ((k + 1 : Nat) : Int)), (.inr "tree", tv), (.inr "cells", .ref cd)]
/-- what is new beside a table of c nodes -/
structure NewN (H H' : Hp) (c : Nat) (ns : GG) (as cds : List Addr) : Prop where
  l1 : as.length = ns.length
  l2 : cds.length = ns.length
  nd : (as ++ cds).Nodup
  fr : ∀ b ∈ as ++ cds, H b = none
  at_ : ∀ L : List Addr, (∀ (i : Nat) (a : Addr), as[i]? = some a → L[c + i]? = some a) → ∀ (i : Nat) (n : GN), ns[i]? = some n → ∃ (a cd : Addr) (tv : V) (cs : List (Str × Cell)), as[i]? = some a ∧ cds[i]? = some cd ∧ H' a = some (.dK (nodeKv (c + i) tv cd)) ∧ TrAt H' n.tr tv ∧ H' cd = some (.dK (kvs cs)) ∧ CsR L n.cs cs
structure Mk (H1 : Hp) (cnt cd : Addr) (c : Nat) (is : List Int) (fs : List (Str × Tr)) (i : Nat) (HH : Hp) (gcs : List (Str × GC)) (ns : GG) (rest : List Int) (cs : List (Str × Cell)) (as cds : List Addr) : Prop where
  pl : plantN (.ofFields (fs.take i)) (c + 1) is = some (gcs, ns, rest)
  kn : Kn [cnt, cd] H1 HH
  hcd : HH cd = some (.dK (kvs cs))
  hcn : HH cnt = some (.lst [.int ((c + 1 + ns.length : Nat) : Int)])
  wd : cs.map (·.1) = (fs.take i).map (·.1)
  cr : ∀ L : List Addr, (∀ (i : Nat) (a : Addr), as[i]? = some a → L[c + 1 + i]? = some a) → CsR L gcs cs
  nn : NewN H1 HH (c + 1) ns as cds
end Wt
namespace Bt
open PySem PySem.Spec PyProof.Rows L2 Ub Ur Ug Ue Up Uo Ve Va Vk Wb Pt Gr Sb Rw Wt
structure SS where
  hd : Addr
  i : Bool
  p : Bool
  xs : WS
  ks : List Addr
  ts : List V
def Like (M : Pg) (t : Tr) (p : Addr) : Prop := ∃ n, M p = some n ∧ n.g.tr = t
end Bt
namespace Rw
open PySem PySem.Spec PyProof.Rows L2 Ub Ur Ug Ue Up Uo Ve Va Vk
def allM (bs : List Blk) : List Str := (bs.map fun b => marksM b.rows).flatten
theorem all_cons (b : Blk) (bs : List Blk) : allM (b :: bs) = marksM b.rows ++ allM bs := rfl
structure Ent where
  bk : Addr
  g : Sg
  BB : Addr
  ms : List (V × Blk)
def Ent.bs (e : Ent) : List Blk := e.ms.map (·.2)
def Ent.us (e : Ent) : List UB := e.ms.map fun m => ubOf m.2
def Ent.txt (t : Tr) (e : Ent) : Str := Str.join "\n" (bookLs t e.bs)
/-- the blocks alone -/
structure BlE (N : List Addr) (H : Hp) (t : Tr) (BB : Addr) (ms : List (V × Blk)) : Prop where
  at_ : H BB = some (.lst (ms.map (·.1)))
  nBB : BB ∉ N
  len : ms.length ≤ 4
  blk : ∀ m ∈ ms, BlkAt N t H m.1 m.2 ∧ BlkOk t m.2
  nd : (ms.map (·.2.nm)).Nodup
  wr : (ms.map fun m => wrN m.2).sum ≤ 8
structure BkE (N : List Addr) (K : PySem.W.Frag) (H : Hp) (t : Tr) (e : Ent) : Prop where
  tr : e.g.tr = t
  B : BookAt N K H e.bk (e.txt t) e.g e.us
  b : BlE N H t e.BB e.ms
structure L11 (K : PySem.W.Frag) (H : Hp) (st g l Lb Le : Addr) (t : Tr) (v : V) (es : List Ent) (bbs : List V) : Prop where
  S : StAt H st g l
  eb : H Lb = some (.lst (es.map fun e => V.ref e.bk))
  ee : H Le = some (.lst bbs)
  nb : Lb ≠ st ∧ Lb ≠ g ∧ Lb ≠ l
  ne : Le ≠ st ∧ Le ≠ g ∧ Le ≠ l
  nn : Lb ≠ Le
  ht : TrAt H t v
  E : ∀ e ∈ es, BkE [st, g, l, Lb, Le] K H t e
/-- the first is less than the next, at each place -/
def ascB : List Int → Bool
  | [] => true
  | [_] => true
  | a :: b :: r => decide (a < b) && ascB (b :: r)
abbrev R4 := Str × Str × Str × Str
abbrev U2 := Str × List (Str × Tr) × List R4
end Rw
namespace Bt
open PySem PySem.Spec PyProof.Rows L2 Ub Ur Ug Ue Up Uo Ve Va Vk Wb Pt Gr Sb Rw Wt
/-- the table of all parts -/
def Tb (M : Pg) (ps : List Addr) : Prop := (∃ g, Iso g ps M) ∧ ∀ p n, M p = some n → p ∈ ps
structure CallR (C : Cp3) (H H' : Hp) (M M' : Pg) (ps ps' : List Addr) (x : Addr) (t : Tr) : Prop where
  ok : PgOk C AllZ H' M'
  keep : ∀ b o, H b = some o → NotCd M b → H' b = some o
  old : ∀ p n, M p = some n → ∃ m, M' p = some m ∧ m.g = n.g ∧ m.cd = n.cd
  new : ∀ p n, M' p = some n → (∃ m, M p = some m ∧ n.cd = m.cd) ∨ (H p = none ∧ H n.cd = none)
  tb : Tb M' ps'
  sub : ∃ qs, ps' = ps ++ qs
  x : Like M' t x
section
variable {K : PySem.W.Frag} {C : Cp3} {H H' H1 : Hp} {M M' : Pg} {Ls ps ps' : List Addr} {bk x : Addr} {z : Str} {gs : Sg} {us : List U2} {r : SR} {s : SS} {t : Tr}
theorem CallR.nd (R : CallR C H H' M M' ps ps' x t) (ok : PgOk C AllZ H M) {b : Addr} {o : HO} (e : H b = some o) (n : ∀ l, o ≠ .dK l) : H' b = some o := R.keep b o e fun p m e1 z => by
  have := (ok.nd p m e1).cells
  rw [z, e] at this
  cases this
  exact n _ rfl
end
end Bt
namespace Kw
open PySem PySem.Spec PyProof.Rows L2 Ub Ur Ug Ue Up Uo Ve Va Vk Rw PySem.W
section
variable {CX : CXT} {P : Program} {w : World} {K : PySem.W.Frag} {mg : Str → Option Value} {base : Heap} {A : Around} {outer : List Env} {s : Shared} {H : Hp}
/-- the dict of the keywords -/
def kwD (ks : List Str) (zs : List V) : List (Key × V) := (ks.map Sum.inr).zip zs
/-- a def with n parameters and **d; own: names that are no keys -/
def FnW (P : Program) (w : World) (K : PySem.W.Frag) (mg : Str → Option Value) (base : Heap) (CX : CXT) (k : Nat) (f : Addr) (own : List Str) (n : Nat) (sp : Sp) : Prop :=
  ∀ (A : Around) (outer : List Env) (s : Shared) (H : Hp) (us ws : List Value) (vs zs : List V) (ks : List Str) (Q : VK) (E : XK), Room k A → Env0 P w K mg base A outer s H → Vals vs us → Vals zs ws → vs.length = n → ks.length = zs.length → ks.Nodup → (∀ x ∈ ks, x ∉ own) → ks.length ≤ sizeLine →
    (∀ d, H d = none → sp (vs ++ [.ref d]) (upd H d (.dK (kwD ks zs))) Q E) → codeAny (model P w) A (.call (.ref f) ⟨us, ks.zip ws⟩) (CR CX outer P w H s Q E) s
end
end Kw
namespace Kw
open PySem PySem.Spec PyProof.Rows L2 Ub Ur Ug Ue Up Uo Ve Va Vk Rw
def tListVals (td : TE) : TE := fun σ H Q => td σ H fun x H1 => ∃ d kvs, x = V.ref d ∧ H1 d = some (.dK kvs) ∧ ∀ q, H1 q = none → Q (.ref q) (upd H1 q (.lst (kvs.map (·.2))))
theorem pe_listVals {X : Cx} {e : Expr} {te : TE} {p pos apos cpos : Pos} (hc : X.calm = true) (he : PE X e te) (hg : Gl X "list") (hm : X.mg "list" = none) (hv : bootBuiltins "list" = some (.type "list")) (hbase : attributeBase e "values" X.env (eval e X.env) = eval e X.env := by rfl) (hline : (apos.endLine == cpos.line) = true := by rfl)
    (hs : starEach [.Call (.Attribute e "values" apos) [] [] cpos] X.env = (false, eval (.Call (.Attribute e "values" apos) [] [] cpos) X.env) :: starEach [] X.env := by rfl) :
    PE X (.Call (.Name "list" p) [.Call (.Attribute e "values" apos) [] [] cpos] [] pos) (tListVals te) := by
  refine ⟨fun pins s σ H Q I hq => ?_⟩
  refine wpAny_Call_Name_kw (ld_blt I hg hm hv ?_)
  refine PyProof.Rows.callWith_type1 ?_ hs rfl
  rw [hs]
  show wpAny _ _ (spliced ((false, eval (.Call (.Attribute e "values" apos) [] [] cpos) X.env) :: backTo pos (starEach [] X.env))) _ _ s
  refine Calls.spliced_cons ?_
  refine wpAny_Call_method (T := "dict") (id := "dict.values") hbase rfl hline F.plainAttrs_dict F.slot_dict_values F.type_dict_values (thn (he.run pins s σ H _ I hq) fun u s1 ⟨x, H1, I1, rx, d, kvs, ex, hd, q⟩ => ?_)
  subst ex
  obtain rfl : u = Value.ref d := rx
  obtain ⟨hz, hs0, vs, kv, hdo⟩ := I1.hok d _ hd
  obtain ⟨ep, hat⟩ := hdo.dictAt
  have lk : kvs.length = vs.length := Paired.length kv
  have I2 : Inv X pins σ H1 { s1 with heap := s1.heap.push { cls := .type "dict_values", data := .fields #[.ref d] } } := I1.kept (t' := s1.toks) fun b ob q => Heap.get?_push_of_some _ q
  refine ⟨hdo.typeIs, hdo.mapOf.noDict, ?_⟩
  show wpAny _ _ (callWith cpos (.builtin "dict.values") [.ref d] [] []) _ X.xe s1
  refine method_meetsIn F.slot_dict_values F.entry_dict_values rfl (PySem.evalArgs_none ⟨rfl, hdo.typeIs, F.args_dict_values_1 _, _, meets_dict_values (mixKind X.prog X.w) d hs0, ⟨vs, hdo⟩, ?_⟩)
  refine Calls.spliced_nil ?_
  refine PySem.W.kdl_call (PySem.W.kdl_values (knd := mixKind X.prog X.w) (kvs := vs) (ep := ep)) (I1.ok.hd hc) ⟨⟨_, Heap.get?_push_size _ rfl, rfl, rfl⟩, hat.push _⟩ (by omega) fun h' tk acc' c' hk hS hacc => ?_
  refine ⟨.ref _, upd H1 _ (.lst (kvs.map (·.2))), I2.laid hk (Nat.le_refl _) (show ObjOk X.prog X.w _ _ _ (.lst (kvs.map (·.2))) from ⟨?_, acc'.toList, c', ?_, ?_⟩), rfl, q _ (I2.hok.fresh (Nat.le_refl _))⟩
  · rw [List.length_map]; exact hz
  · have el : acc'.toList.length = acc'.size := by simp
    refine vals_of_at (by rw [List.length_map, el, hacc.1, lk]) fun j x w h1 h2 => ?_
    obtain ⟨k, hky⟩ := hacc.2 j w (by rw [← Array.getElem?_toList]; exact h2)
    obtain ⟨x', h3, h4⟩ := KV.at' kv hky
    rw [List.getElem?_map, h3] at h1
    cases h1
    exact h4
  · rw [Array.toArray_toList]; exact hS
end Kw
namespace Rw
open PySem PySem.Spec PyProof.Rows L2 Ub Ur Ug Ue Up Uo Ve Va Vk
end Rw
namespace Pk
open PySem PySem.Spec PyProof.Rows L2 Ub
def kp (l : List Int) : Int × List Int := ((l.length : Nat), l)
end Pk
namespace Bt
open PySem PySem.Spec PyProof.Rows L2 Ub Ur Ug Ue Up Uo Ve Va Vk Wb Pt Gr Sb Rw Wt
section
variable {K : PySem.W.Frag} {C : Cp3} {H H' H1 H2 : Hp} {M M' M1 M2 : Pg} {Ls Ls' ps ps' ps1 ps2 : List Addr} {bk x : Addr} {z : Str} {gs : Sg} {us : List U2} {r : SR} {s s' : SS} {t : Tr} {st g l Lp Du : Addr} {ws : List V}
abbrev Fl : Type := (List Str × Tr) × Nat
def wk (x : WR × Option Cell) : Str × Nat := (x.1.z, x.1.k)
def fk (f : Fl) : Str × Nat := (ptext f.1.1, f.2)
def XsOk (M : Pg) (hd : Addr) (xs : WS) (fl : List Fl) : Prop := xs.map wk = fl.map fk ∧ ∀ x ∈ xs, x.2 = some (standD M hd x.1.z)
theorem XsOk.look {hd hd' : Addr} {xs : WS} {fl : List Fl} (h : XsOk M hd xs fl) : XsOk M' hd' (seenW M' hd' xs) fl := by
  refine ⟨by rw [← h.1]; unfold seenW; rw [List.map_map]; rfl, fun y hy => ?_⟩
  obtain ⟨x, _, rfl⟩ := List.mem_map.mp hy
  rfl
def recs (t : Tr) (i : Nat) : List (List Str × Tr) := ((wpaths t).take i).filter fun m => !m.2.isNil
end
end Bt
namespace Ni
open PySem PySem.Spec PyProof.Rows L2 Ub Ur Ug Ue Up Uo Ve Va Vk Wb Pt Gr Sb Rw
abbrev Gi := List (List Int)
def cellsI (G : Gi) (c : Int) : List Int := (G[c.toNat]?).getD []
/-- the content of a record with the fields t and the cells cs -/
def contC (G : Gi) : Tr → List Int → List Int
  | .nil, _ => []
  | .cons _ t r, cs => (if t.isNil then [cs.headD 0] else contC G t (cellsI G (cs.headD 0))) ++ contC G r cs.tail
def contI (G : Gi) (t : Tr) (c : Int) : List Int := if t.isNil then [c] else contC G t (cellsI G c)
def nodC (G : Gi) : Tr → List Int → List Int
  | .nil, _ => []
  | .cons _ t r, cs => (if t.isNil then [] else cs.headD 0 :: nodC G t (cellsI G (cs.headD 0))) ++ nodC G r cs.tail
def nodI (G : Gi) (t : Tr) (c : Int) : List Int := if t.isNil then [] else c :: nodC G t (cellsI G c)
/-- cells of a record: a field that is a record has the number of a node with its tree -/
def CellsT (ts : List Tr) : Tr → List Int → Prop
  | .nil, cs => cs = []
  | .cons _ t r, cs => ∃ c cs', cs = c :: cs' ∧ (t.isNil = false → ∃ m : Nat, c = (m : Nat) ∧ ts[m]? = some t) ∧ CellsT ts r cs'
def NodeT (ts : List Tr) (t : Tr) (c : Int) : Prop := t.isNil = false → ∃ m : Nat, c = (m : Nat) ∧ ts[m]? = some t
structure Ty (ts : List Tr) (G : Gi) : Prop where
  len : G.length = ts.length
  cs : ∀ (n : Nat) (t : Tr) (cs : List Int), ts[n]? = some t → G[n]? = some cs → CellsT ts t cs
theorem CellsT.len {ts : List Tr} : ∀ {t : Tr} {cs : List Int}, CellsT ts t cs → cs.length = t.fields.length
  | .nil, cs, h => by rw [show cs = [] from h]; rfl
  | .cons w t r, cs, ⟨c, cs', e, _, h⟩ => by
    rw [e, List.length_cons, h.len]
    rfl
theorem CellsT.get {ts : List Tr} : ∀ {t : Tr} {cs : List Int} {i : Nat} {f : Str × Tr}, CellsT ts t cs → t.fields[i]? = some f → ∃ c, cs[i]? = some c ∧ NodeT ts f.2 c
  | .nil, _, i, f, _, e => by cases i <;> cases e
  | .cons w t r, cs, 0, f, ⟨c, cs', e, h1, _⟩, ef => by
    have ef : some (w, t) = some f := ef
    cases ef
    exact ⟨c, by rw [e]; rfl, h1⟩
  | .cons w t r, cs, i + 1, f, ⟨c, cs', e, _, h⟩, ef => by
    obtain ⟨d, h1, h2⟩ := h.get (i := i) (f := f) ef
    exact ⟨d, by rw [e]; exact h1, h2⟩
theorem CellsT.mono {ts us : List Tr} : ∀ {t : Tr} {cs : List Int}, CellsT ts t cs → CellsT (ts ++ us) t cs
  | .nil, _, h => h
  | .cons w t r, cs, ⟨c, cs', e, h1, h⟩ => ⟨c, cs', e, fun z => by
    obtain ⟨m, e1, e2⟩ := h1 z
    exact ⟨m, e1, get_app e2⟩, h.mono⟩
theorem NodeT.mono {ts us : List Tr} {t : Tr} {c : Int} (h : NodeT ts t c) : NodeT (ts ++ us) t c := fun z => by
  obtain ⟨m, e1, e2⟩ := h z
  exact ⟨m, e1, get_app e2⟩
theorem CellsT.set {ts : List Tr} : ∀ {t : Tr} {cs : List Int} {i : Nat} {f : Str × Tr} {c : Int}, CellsT ts t cs → t.fields[i]? = some f → NodeT ts f.2 c → CellsT ts t (cs.set i c)
  | .nil, _, i, f, c, _, e, _ => by cases i <;> cases e
  | .cons w t r, cs, 0, f, d, ⟨c, cs', e, h1, h2⟩, ef, hn => by
    have ef : some (w, t) = some f := ef
    cases ef
    exact ⟨d, cs', by rw [e]; rfl, hn, h2⟩
  | .cons w t r, cs, i + 1, f, d, ⟨c, cs', e, h1, h2⟩, ef, hn => ⟨c, cs'.set i d, by rw [e]; rfl, h1, h2.set (i := i) ef hn⟩
/-- content and nodes, field by field -/
theorem contC_fs {G : Gi} : ∀ {t : Tr} {cs : List Int}, cs.length = t.fields.length → contC G t cs = (t.fields.zip cs).flatMap fun m => contI G m.1.2 m.2
  | .nil, cs, h => by
    cases cs with
    | nil => rfl
    | cons c cs => cases h
  | .cons w t r, cs, h => by
    cases cs with
    | nil => cases h
    | cons c cs =>
      have h : cs.length + 1 = r.fields.length + 1 := h
      show (if t.isNil then [c] else contC G t (cellsI G c)) ++ contC G r cs = _
      rw [contC_fs (t := r) (cs := cs) (by omega)]
      rfl
theorem nodC_fs {G : Gi} : ∀ {t : Tr} {cs : List Int}, cs.length = t.fields.length → nodC G t cs = (t.fields.zip cs).flatMap fun m => nodI G m.1.2 m.2
  | .nil, cs, h => by
    cases cs with
    | nil => rfl
    | cons c cs => cases h
  | .cons w t r, cs, h => by
    cases cs with
    | nil => cases h
    | cons c cs =>
      have h : cs.length + 1 = r.fields.length + 1 := h
      show (if t.isNil then [] else c :: nodC G t (cellsI G c)) ++ nodC G r cs = _
      rw [nodC_fs (t := r) (cs := cs) (by omega)]
      rfl
/-- lengths -/
theorem contC_len {G : Gi} : ∀ {t : Tr} {cs : List Int}, (contC G t cs).length = t.spla
  | .nil, _ => rfl
  | .cons w t r, cs => by
    show ((if t.isNil then [cs.headD 0] else contC G t (cellsI G (cs.headD 0))) ++ contC G r cs.tail).length = (Tr.cons w t r).spla
    rw [List.length_append, contC_len (t := r)]
    cases e : t.isNil with
    | true =>
      rw [if_pos rfl, Tr.nil_of e]
      rfl
    | false =>
      rw [if_neg (by simp), contC_len (t := t)]
      show t.spla + r.spla = (if t.isNil then 1 else t.spla) + r.spla
      rw [e]
      rfl
theorem nodC_len {G : Gi} : ∀ {t : Tr} {cs : List Int}, (nodC G t cs).length = t.srec
  | .nil, _ => rfl
  | .cons w t r, cs => by
    show ((if t.isNil then [] else cs.headD 0 :: nodC G t (cellsI G (cs.headD 0))) ++ nodC G r cs.tail).length = (Tr.cons w t r).srec
    rw [List.length_append, nodC_len (t := r)]
    cases e : t.isNil with
    | true =>
      rw [if_pos rfl, Tr.nil_of e]
      rfl
    | false =>
      rw [if_neg (by simp), List.length_cons, nodC_len (t := t)]
      show t.srec + 1 + r.srec = (if t.isNil then 0 else 1 + t.srec) + r.srec
      rw [e, if_neg (by simp)]
      omega
theorem contI_len {G : Gi} {t : Tr} {c : Int} : (contI G t c).length = t.plains := by
  unfold contI Tr.plains
  cases t.isNil with
  | true => rfl
  | false => exact contC_len
theorem nodI_len {G : Gi} {t : Tr} {c : Int} : (nodI G t c).length = t.recs := by
  unfold nodI Tr.recs
  cases t.isNil with
  | true => rfl
  | false =>
    rw [if_neg (by simp), if_neg (by simp), List.length_cons, nodC_len]
    omega
/-- the heap -/
structure HpAt (H : Hp) (hp : Addr) (G : Gi) (as : List Addr) : Prop where
  at_ : H hp = some (.lst (as.map V.ref))
  len : as.length = G.length
  cs : ∀ (i : Nat) (a : Addr) (c : List Int), as[i]? = some a → G[i]? = some c → H a = some (.lst (c.map V.int))
  nd : as.Nodup
  nh : hp ∉ as
theorem HpAt.kn {N : List Addr} {H H' : Hp} {hp : Addr} {G : Gi} {as : List Addr} (h : HpAt H hp G as) (k : Kn N H H') (o : ∀ b ∈ hp :: as, b ∉ N) : HpAt H' hp G as :=
  ⟨k _ _ h.at_ (o _ (List.mem_cons_self ..)), h.len, fun i a c e1 e2 => k _ _ (h.cs i a c e1 e2) (o _ (List.mem_cons_of_mem _ (List.mem_of_getElem? e1))), h.nd, h.nh⟩
theorem HpAt.same {H H' : Hp} {hp : Addr} {G : Gi} {as : List Addr} (h : HpAt H hp G as) (s : Same H H') : HpAt H' hp G as := h.kn (N := []) (.of s) fun _ _ z => nomatch z
theorem HpAt.kp {st g l : Addr} {H H' : Hp} {hp : Addr} {G : Gi} {as : List Addr} (h : HpAt H hp G as) (k : Kp st g l H H') (o : ∀ b ∈ hp :: as, b ∉ [st, g, l]) : HpAt H' hp G as := h.kn (Kn.kp k (by simp) (by simp) (by simp)) o
/-- a node of the heap -/
theorem HpAt.node {H : Hp} {hp : Addr} {G : Gi} {as : List Addr} {ts : List Tr} (h : HpAt H hp G as) (T : Ty ts G) {t : Tr} {c : Int} (n : NodeT ts t c) (e : t.isNil = false) : ∃ (m : Nat) (a : Addr) (cs : List Int), c = (m : Nat) ∧ ts[m]? = some t ∧ as[m]? = some a ∧ G[m]? = some cs ∧ H a = some (.lst (cs.map V.int)) ∧ CellsT ts t cs ∧ cellsI G c = cs := by
  obtain ⟨m, rfl, hm⟩ := n e
  have l1 : m < ts.length := (List.getElem?_eq_some_iff.mp hm).1
  obtain ⟨cs, hc⟩ : ∃ cs, G[m]? = some cs := ⟨_, List.getElem?_eq_getElem (by rw [T.len]; exact l1)⟩
  obtain ⟨a, ha⟩ : ∃ a, as[m]? = some a := ⟨_, List.getElem?_eq_getElem (by rw [h.len, T.len]; exact l1)⟩
  refine ⟨m, a, cs, rfl, hm, ha, hc, h.cs m a cs ha hc, T.cs m t cs hm hc, ?_⟩
  unfold cellsI
  rw [Int.toNat_natCast, hc]
  rfl
/-- the first place of a value -/
def ixF {α : Type} [DecidableEq α] (x : α) : List α → Nat
  | [] => 0
  | y :: ys => if y = x then 0 else 1 + ixF x ys
section
variable {α : Type} [DecidableEq α] {x : α}
theorem ixF_at : ∀ {l : List α}, x ∈ l → l[ixF x l]? = some x
  | y :: l, h => by
    unfold ixF
    split
    · rename_i e
      rw [e]
      rfl
    · rename_i e
      rw [Nat.add_comm]
      exact ixF_at ((List.mem_cons.mp h).resolve_left fun z => e z.symm)
theorem ixF_ne : ∀ {l : List α} {m : Nat} {z : α}, m < ixF x l → l[m]? = some z → z ≠ x
  | y :: l, m, z, h, e => by
    unfold ixF at h
    split at h
    · exact absurd h (Nat.not_lt_zero _)
    · rename_i c
      cases m with
      | zero =>
        cases e
        exact c
      | succ m => exact ixF_ne (l := l) (m := m) (by omega) e
theorem ixF_app {l r : List α} (h : x ∈ l) : ixF x (l ++ r) = ixF x l := by
  induction l with
  | nil => cases h
  | cons y l ih =>
    show (if y = x then 0 else 1 + ixF x (l ++ r)) = if y = x then 0 else 1 + ixF x l
    split
    · rfl
    · rename_i c
      rw [ih ((List.mem_cons.mp h).resolve_left fun z => c z.symm)]
theorem ixF_inj {l : List α} {y : α} (hx : x ∈ l) (hy : y ∈ l) (e : ixF x l = ixF y l) : x = y := by
  have h1 := ixF_at hx
  rw [e, ixF_at hy] at h1
  exact (Option.some.inj h1).symm
theorem ixF_lt {l : List α} (h : x ∈ l) : ixF x l < l.length := (List.getElem?_eq_some_iff.mp (ixF_at h)).1
theorem ixF_new {l : List α} (h : x ∉ l) : ixF x (l ++ [x]) = l.length := by
  induction l with
  | nil => show (if x = x then 0 else _) = 0; rw [if_pos rfl]
  | cons y l ih =>
    show (if y = x then 0 else 1 + ixF x (l ++ [x])) = l.length + 1
    rw [if_neg fun z => h (by rw [z]; exact List.mem_cons_self ..), ih fun z => h (List.mem_cons_of_mem _ z)]
    omega
end
theorem ixS_any {K : PySem.W.Frag} {H : Hp} {D : Addr} {ws : List Str} {w : Str} {Q : VK} (e : H D = some (.lst (ws.map V.str))) (h : w ∈ ws) (q : Q (.int (ixF w ws : Nat)) H) : rIndex K (.ref D) [.str w] H Q := by
  refine ⟨D, _, .str w, ixF w ws, .str w, rfl, rfl, .inl (.inl e), rfl, ?_, by rw [List.getElem?_map, ixF_at h]; rfl, ?_, fun m z hm hz => ?_, q⟩
  · rw [List.all_map]
    exact List.all_eq_true.mpr fun _ _ => rfl
  · exact decide_eq_true rfl
  · rw [List.getElem?_map] at hz
    obtain ⟨y, hy, rfl⟩ := Option.map_eq_some_iff.mp hz
    exact decide_eq_false (ixF_ne hm hy)
theorem ixI_any {K : PySem.W.Frag} {H : Hp} {D : Addr} {ws : List Int} {w : Int} {Q : VK} (e : H D = some (.lst (ws.map V.int))) (h : w ∈ ws) (q : Q (.int (ixF w ws : Nat)) H) : rIndex K (.ref D) [.int w] H Q := by
  refine ⟨D, _, .int w, ixF w ws, .int w, rfl, rfl, .inl (.inl e), rfl, ?_, by rw [List.getElem?_map, ixF_at h]; rfl, ?_, fun m z hm hz => ?_, q⟩
  · rw [List.all_map]
    exact List.all_eq_true.mpr fun _ _ => rfl
  · exact decide_eq_true rfl
  · rw [List.getElem?_map] at hz
    obtain ⟨y, hy, rfl⟩ := Option.map_eq_some_iff.mp hz
    exact decide_eq_false (ixF_ne hm hy)
/-- the first field of a word -/
def ixW (t : Tr) (w : Str) : Nat := ixF w (t.fields.map (·.1))
def sp_at : Sp := fun vs H Q _ => ∃ (t : Tr) (v : V) (w : Str), vs = [v, .str w] ∧ TrAt H t v ∧ t.fields.length ≤ 1000 ∧ w ∈ t.fields.map (·.1) ∧ ∀ H', Same H H' → Q (.int (ixW t w : Nat)) H'
/-- the tree below some words -/
theorem wfp_fs2 {w : Str} {ws : List Str} {s : Tr} : ∀ {t : Tr}, (w :: ws, s) ∈ wfp t → ∃ f, f ∈ t.fields ∧ f.1 = w ∧ (ws, s) ∈ wpaths f.2
  | .nil, h => nomatch h
  | .cons v t r, h => by
    rcases List.mem_append.mp h with h | h
    · obtain ⟨m, hm, e⟩ := List.mem_map.mp h
      cases e
      exact ⟨(w, t), List.mem_cons_self .., rfl, hm⟩
    · obtain ⟨f, h1, h2⟩ := wfp_fs2 h
      exact ⟨f, List.mem_cons_of_mem _ h1, h2⟩
theorem below_fs {t : Tr} {w : Str} {ws : List Str} {s : Tr} (h : (w :: ws, s) ∈ wpaths t) : ∃ f, f ∈ t.fields ∧ f.1 = w ∧ (ws, s) ∈ wpaths f.2 := by
  rcases List.mem_cons.mp h with h | h
  · cases h
  · exact wfp_fs2 h
theorem nd_fst : ∀ {l : List (Str × Tr)} {a b : Str × Tr}, (l.map (·.1)).Nodup → a ∈ l → b ∈ l → a.1 = b.1 → a = b
  | x :: l, a, b, nd, ha, hb, e => by
    obtain ⟨n1, n2⟩ := List.nodup_cons.mp nd
    rcases List.mem_cons.mp ha with h1 | h1
    · rcases List.mem_cons.mp hb with h2 | h2
      · rw [h1, h2]
      · exact (n1 (List.mem_map.mpr ⟨b, h2, by rw [← e, h1]⟩)).elim
    · rcases List.mem_cons.mp hb with h2 | h2
      · exact (n1 (List.mem_map.mpr ⟨a, h1, by rw [e, h2]⟩)).elim
      · exact nd_fst n2 h1 h2 e
/-- the field at its word's first place -/
theorem ixW_fs {t : Tr} (g : good t) {f : Str × Tr} (h : f ∈ t.fields) : t.fields[ixW t f.1]? = some f := by
  have hm : f.1 ∈ t.fields.map (·.1) := List.mem_map.mpr ⟨f, h, rfl⟩
  have h1 := ixF_at hm
  rw [List.getElem?_map] at h1
  obtain ⟨f2, h2, h3⟩ := Option.map_eq_some_iff.mp h1
  rw [show t.fields[ixW t f.1]? = some f2 from h2]
  rw [nd_fst (good_fields g).2 (List.mem_of_getElem? h2) h h3]
theorem drop_cons {α : Type} {l : List α} {j : Nat} {x : α} (h : l[j]? = some x) : l.drop j = x :: l.drop (j + 1) := by
  obtain ⟨h1, rfl⟩ := List.getElem?_eq_some_iff.mp h
  exact List.drop_eq_getElem_cons h1
theorem wfp_ne {s : Tr} : ∀ {t : Tr}, ([], s) ∉ wfp t
  | .nil, h => nomatch h
  | .cons w t r, h => by
    rcases List.mem_append.mp h with h | h
    · obtain ⟨m, _, e⟩ := List.mem_map.mp h
      cases e
    · exact wfp_ne h
theorem wp_nil2 {s t : Tr} (h : ([], s) ∈ wpaths t) : s = t := by
  rcases List.mem_cons.mp h with h | h
  · injection h
  · exact absurd h wfp_ne
theorem fs_wfp {f : Str × Tr} {ws : List Str} {s : Tr} : ∀ {t : Tr}, f ∈ t.fields → (ws, s) ∈ wpaths f.2 → (f.1 :: ws, s) ∈ wfp t
  | .nil, h, _ => nomatch h
  | .cons w t r, h, h2 => by
    rcases List.mem_cons.mp (show f ∈ (w, t) :: r.fields from h) with h | h
    · subst h
      exact List.mem_append_left _ (List.mem_map.mpr ⟨(ws, s), h2, rfl⟩)
    · exact List.mem_append_right _ (fs_wfp h h2)
theorem one_path {t : Tr} {f : Str × Tr} (h : f ∈ t.fields) : ([f.1], f.2) ∈ wpaths t := List.mem_cons_of_mem _ (fs_wfp h (List.mem_cons_self ..))
theorem snoc_path {s : Tr} {w : Str} : ∀ {ws : List Str} {t : Tr}, (ws ++ [w], s) ∈ wpaths t → ∃ u f, (ws, u) ∈ wpaths t ∧ f ∈ u.fields ∧ f.1 = w ∧ f.2 = s
  | [], t, h => by
    obtain ⟨f, h1, h2, h3⟩ := below_fs h
    exact ⟨t, f, List.mem_cons_self .., h1, h2, (wp_nil2 h3).symm⟩
  | x :: ws, t, h => by
    obtain ⟨f, h1, h2, h3⟩ := below_fs (ws := ws ++ [w]) h
    obtain ⟨u, g, k1, k2⟩ := snoc_path h3
    refine ⟨u, g, ?_, k2⟩
    rw [← h2]
    exact List.mem_cons_of_mem _ (fs_wfp h1 k1)
theorem lenF {t : Tr} (g : good t) : t.fields.length ≤ 1000 := by
  have h1 := (good_has g).2.1
  have h2 := t.fields_len
  omega
theorem isNil_fs {t : Tr} {f : Str × Tr} (h : f ∈ t.fields) : t.isNil = false := by
  cases t with
  | nil => cases h
  | cons _ _ _ => rfl
/-- one cell changes -/
theorem Ty.set {ts : List Tr} {G : Gi} (T : Ty ts G) {m i : Nat} {t : Tr} {cs : List Int} {f : Str × Tr} {c : Int} (ht : ts[m]? = some t) (hc : G[m]? = some cs) (hf : t.fields[i]? = some f) (hn : NodeT ts f.2 c) : Ty ts (G.set m (cs.set i c)) := by
  refine ⟨by rw [List.length_set]; exact T.len, fun n u ds e1 e2 => ?_⟩
  rw [List.getElem?_set] at e2
  split at e2
  · rename_i e
    subst e
    rw [e1] at ht
    cases ht
    split at e2
    · cases e2
      exact (T.cs _ _ cs e1 hc).set hf hn
    · cases e2
  · exact T.cs n u ds e1 e2
theorem HpAt.set {H : Hp} {hp : Addr} {G : Gi} {as : List Addr} (h : HpAt H hp G as) {m : Nat} {a : Addr} {cs : List Int} (ha : as[m]? = some a) : HpAt (upd H a (.lst (cs.map V.int))) hp (G.set m cs) as := by
  refine ⟨by rw [upd_ne fun z => h.nh (by rw [z]; exact List.mem_of_getElem? ha)]; exact h.at_, by rw [List.length_set]; exact h.len, fun i b ds e1 e2 => ?_, h.nd, h.nh⟩
  rw [List.getElem?_set] at e2
  split at e2
  · rename_i e
    subst e
    rw [e1] at ha
    cases ha
    split at e2
    · cases e2
      exact upd_same
    · cases e2
  · rename_i e
    have ne : b ≠ a := fun z => by
      subst z
      exact e (nd_inj h.nd ha e1)
    rw [upd_ne ne]
    exact h.cs i b ds e1 e2
theorem ixN_nat {n k : Nat} (h : k < n) : ixN n ((k : Nat) : Int) = some k := by
  unfold ixN
  rw [if_pos (Int.natCast_nonneg k), if_pos (by omega), Int.toNat_natCast]
/-- numbers as they come -/
def ext1 (l : List Int) (k : Int) : List Int := if k ∈ l then l else l ++ [k]
def extI (known keys : List Int) : List Int := keys.foldl ext1 known
theorem ext1_mem {l : List Int} {k : Int} : k ∈ ext1 l k := by
  unfold ext1
  split
  · assumption
  · simp
theorem ext1_sub {l : List Int} {k x : Int} (h : x ∈ l) : x ∈ ext1 l k ∧ ixF x (ext1 l k) = ixF x l := by
  unfold ext1
  split
  · exact ⟨h, rfl⟩
  · exact ⟨List.mem_append_left _ h, ixF_app h⟩
theorem extI_snoc {known keys : List Int} {k : Int} : extI known (keys ++ [k]) = ext1 (extI known keys) k := by
  unfold extI
  rw [List.foldl_append]
  rfl
theorem extI_sub : ∀ {keys known : List Int} {x : Int}, x ∈ known → x ∈ extI known keys ∧ ixF x (extI known keys) = ixF x known
  | [], _, _, h => ⟨h, rfl⟩
  | k :: keys, known, x, h => by
    obtain ⟨h1, h2⟩ := ext1_sub (k := k) h
    obtain ⟨h3, h4⟩ := extI_sub (keys := keys) h1
    exact ⟨h3, h4.trans h2⟩
theorem extI_mem {keys known : List Int} {x : Int} : x ∈ keys → x ∈ extI known keys := by
  induction keys generalizing known with
  | nil => exact fun h => nomatch h
  | cons k keys ih =>
    intro h
    rcases List.mem_cons.mp h with h | h
    · rw [h]
      exact (extI_sub (keys := keys) (ext1_mem (l := known))).1
    · exact ih h
theorem extI_len {keys known : List Int} : (extI known keys).length ≤ known.length + keys.length := by
  induction keys generalizing known with
  | nil => exact Nat.le_refl _
  | cons k keys ih =>
    have h := ih (known := ext1 known k)
    have h2 : (ext1 known k).length ≤ known.length + 1 := by
      unfold ext1
      split
      · omega
      · rw [List.length_append]; exact Nat.le_refl _
    show (extI (ext1 known k) keys).length ≤ _
    rw [List.length_cons]
    omega
def rowI (known keys : List Int) : List Int := keys.map fun k => ((ixF k (extI known keys) : Nat) : Int)
theorem rowI_snoc {known keys : List Int} {k : Int} : rowI known (keys ++ [k]) = rowI known keys ++ [((ixF k (extI known (keys ++ [k])) : Nat) : Int)] := by
  unfold rowI
  rw [List.map_append]
  congr 1
  refine List.map_congr_left fun x hx => ?_
  rw [extI_snoc, (ext1_sub (extI_mem hx)).2]
theorem inV_int (z : Int) : ∀ ws : List Int, inV (.int z) (ws.map V.int) = decide (z ∈ ws)
  | [] => by rw [decide_eq_false List.not_mem_nil]; rfl
  | w :: ws => by
    show (eqV (.int w) (.int z) || inV (.int z) (ws.map V.int)) = _
    rw [inV_int z ws]
    show (decide (w = z) || decide (z ∈ ws)) = _
    by_cases c : w = z
    · rw [decide_eq_true c, Bool.true_or, decide_eq_true (by rw [c]; exact List.mem_cons_self ..)]
    · rw [decide_eq_false c, Bool.false_or]
      by_cases d : z ∈ ws
      · rw [decide_eq_true d, decide_eq_true (List.mem_cons_of_mem _ d)]
      · rw [decide_eq_false d, decide_eq_false fun h => ((List.mem_cons.mp h).elim (fun e => c e.symm) d)]
def sp_numbers : Sp := fun vs H Q _ => ∃ (ka kn : Addr) (keys known : List Int), vs = [.ref ka, .ref kn] ∧ H ka = some (.lst (keys.map V.int)) ∧ H kn = some (.lst (known.map V.int)) ∧ ka ≠ kn ∧ keys.length ≤ 50 ∧ known.length ≤ 200 ∧ ∀ p H', Kn [kn] H H' → H p = none → H' p = some (.tup ((rowI known keys).map V.int)) → H' kn = some (.lst ((extI known keys).map V.int)) → Q (.ref p) H'
def sp_walk (f : Gi → Tr → Int → List Int) (d : Nat) : Sp := fun vs H Q _ => ∃ (hp : Addr) (t : Tr) (v : V) (c : Int) (G : Gi) (as : List Addr) (ts : List Tr), vs = [.ref hp, v, .int c] ∧ HpAt H hp G as ∧ Ty ts G ∧ Ub.TrAt H t v ∧ good t ∧ t.depth < d ∧ NodeT ts t c ∧ ∀ D H', Same H H' → H D = none → H' D = some (.lst ((f G t c).map V.int)) → Q (.ref D) H'
theorem zip_succ {α β : Type} {l : List α} {m : List β} {j : Nat} {x : α} {y : β} (hx : l[j]? = some x) (hy : m[j]? = some y) : (l.zip m).take (j + 1) = (l.zip m).take j ++ [(x, y)] := by
  rw [List.take_add_one]
  congr 1
  rw [(List.getElem?_zip_eq_some (z := (x, y))).mpr ⟨hx, hy⟩]
  rfl
theorem fm_snoc {α β : Type} {l : List α} {f : α → List β} {x : α} : (l ++ [x]).flatMap f = l.flatMap f ++ f x := by
  rw [List.flatMap_append]
  congr 1
  exact List.append_nil _
theorem fm_le {α β : Type} {l : List α} {f : α → List β} {j : Nat} : ((l.take j).flatMap f).length ≤ (l.flatMap f).length := by
  conv => rhs; rw [← List.take_append_drop j l, List.flatMap_append, List.length_append]
  omega
def sp_form : Sp := fun vs H Q _ => ∃ (hp : Addr) (t : Tr) (v : V) (c : Int) (G : Gi) (as : List Addr) (ts : List Tr), vs = [.ref hp, v, .int c] ∧ HpAt H hp G as ∧ Ty ts G ∧ Ub.TrAt H t v ∧ good t ∧ NodeT ts t c ∧ ∀ p a b H', Same H H' → H' p = some (.tup [.ref a, .ref b]) → H' a = some (.tup ((rowI [] (nodI G t c)).map V.int)) → H' b = some (.tup ((rowI [] (contI G t c)).map V.int)) → Q (.ref p) H'
def sp_hform : Sp := fun vs H Q _ => ∃ (hp sn : Addr) (t u : Tr) (v vu : V) (c x : Int) (seen : List Int) (G : Gi) (as : List Addr) (ts : List Tr), vs = [.ref hp, v, .int c, vu, .int x, .ref sn] ∧ HpAt H hp G as ∧ Ty ts G ∧ Ub.TrAt H t v ∧ good t ∧ NodeT ts t c ∧ Ub.TrAt H u vu ∧ good u ∧ NodeT ts u x ∧ H sn = some (.lst (seen.map V.int)) ∧ seen.length ≤ 5 ∧ ∀ p a b d e f H', Same H H' → H' p = some (.tup [.ref a, .ref b, .ref d, .ref e, .ref f]) → H' a = some (.tup ((rowI [] (nodI G t c)).map V.int)) → H' b = some (.tup ((rowI [] (contI G t c)).map V.int)) → H' d = some (.tup ((rowI (extI [] (nodI G t c)) (nodI G u x)).map V.int)) → H' e = some (.tup ((rowI (extI [] (contI G t c)) (contI G u x)).map V.int)) → H' f = some (.tup ((rowI (extI (extI [] (contI G t c)) (contI G u x)) seen).map V.int)) → Q (.ref p) H'
def sp_made (d : Nat) : Sp := fun vs H Q _ => ∃ (hp vl : Addr) (t : Tr) (v : V) (G : Gi) (as : List Addr) (ts : List Tr) (is : List Int), vs = [.ref hp, v, .ref vl] ∧ HpAt H hp G as ∧ Ty ts G ∧ Ub.TrAt H t v ∧ good t ∧ t.depth < d ∧ t.isNil = false ∧ H vl = some (.lst (is.map V.int)) ∧ t.spla ≤ is.length ∧ is.length ≤ 50 ∧ vl ∉ hp :: as ∧ G.length + t.recs ≤ 100 ∧ ∀ (G2 : Gi) (ts2 : List Tr) (as2 : List Addr) (n : Nat) H', HpAt H' hp (G ++ G2) (as ++ as2) → Ty (ts ++ ts2) (G ++ G2) → (ts ++ ts2)[n]? = some t → H' vl = some (.lst ((is.drop t.spla).map V.int)) → (∀ b ∈ as2, H b = none) → Kn [hp, vl] H H' → G2.length ≤ t.recs → Q (.int n) H'
theorem no_new {H : Hp} {G : Gi} {hp : Addr} {as : List Addr} (h : HpAt H hp G as) {D : Addr} (n : H D = none) : D ∉ hp :: as := fun z => by
  rcases List.mem_cons.mp z with z | z
  · rw [z, h.at_] at n; cases n
  · obtain ⟨i, hi⟩ := List.getElem?_of_mem z
    obtain ⟨c, hc⟩ : ∃ c, G[i]? = some c := ⟨_, List.getElem?_eq_getElem (by rw [← h.len]; exact (List.getElem?_eq_some_iff.mp hi).1)⟩
    rw [h.cs i D c hi hc] at n
    cases n
theorem HpAt.push {H : Hp} {hp D : Addr} {G : Gi} {as : List Addr} {cs : List Int} (h : HpAt H hp G as) (hD : H D = some (.lst (cs.map V.int))) (n : D ∉ hp :: as) : HpAt (upd H hp (.lst (as.map V.ref ++ [.ref D]))) hp (G ++ [cs]) (as ++ [D]) := by
  have nh : ∀ b ∈ as, b ≠ hp := fun b hb z => h.nh (by rw [← z]; exact hb)
  have nD : D ≠ hp := fun z => n (by rw [z]; exact List.mem_cons_self ..)
  refine ⟨by rw [upd_same, List.map_append]; rfl, by rw [List.length_append, List.length_append, h.len]; rfl, fun i a c e1 e2 => ?_, ?_, ?_⟩
  · rcases Nat.lt_or_ge i as.length with l | l
    · rw [List.getElem?_append_left l] at e1
      rw [List.getElem?_append_left (by rw [← h.len]; exact l)] at e2
      rw [upd_ne (nh _ (List.mem_of_getElem? e1))]
      exact h.cs i a c e1 e2
    · rw [List.getElem?_append_right l] at e1
      rw [List.getElem?_append_right (by rw [← h.len]; exact l), ← h.len] at e2
      cases e3 : i - as.length with
      | zero =>
        rw [e3] at e1 e2
        cases e1
        cases e2
        rw [upd_ne nD]
        exact hD
      | succ k => rw [e3] at e1; cases e1
  · rw [List.nodup_append]
    refine ⟨h.nd, List.nodup_cons.mpr ⟨List.not_mem_nil, List.nodup_nil⟩, fun a ha b hb z => ?_⟩
    rw [List.mem_singleton.mp hb] at z
    exact n (List.mem_cons_of_mem _ (by rw [← z]; exact ha))
  · intro z
    rcases List.mem_append.mp z with z | z
    · exact h.nh z
    · exact nD (List.mem_singleton.mp z).symm
theorem CellsT.of {ts : List Tr} : ∀ {t : Tr} {cs : List Int}, cs.length = t.fields.length → (∀ (i : Nat) (f : Str × Tr), t.fields[i]? = some f → ∃ c, cs[i]? = some c ∧ NodeT ts f.2 c) → CellsT ts t cs
  | .nil, cs, h, _ => by
    cases cs with
    | nil => rfl
    | cons c cs => cases h
  | .cons w t r, cs, h, h2 => by
    cases cs with
    | nil => cases h
    | cons c cs =>
      obtain ⟨c', e1, e2⟩ := h2 0 (w, t) rfl
      cases e1
      exact ⟨c, cs, rfl, e2, CellsT.of (t := r) (Nat.succ.inj h) fun i f e => h2 (i + 1) f e⟩
theorem Ty.push {ts : List Tr} {G : Gi} (T : Ty ts G) {t : Tr} {cs : List Int} (h : CellsT ts t cs) : Ty (ts ++ [t]) (G ++ [cs]) := by
  refine ⟨by rw [List.length_append, List.length_append, T.len]; rfl, fun n u ds e1 e2 => ?_⟩
  rcases Nat.lt_or_ge n ts.length with l | l
  · rw [List.getElem?_append_left l] at e1
    rw [List.getElem?_append_left (by rw [T.len]; exact l)] at e2
    exact (T.cs n u ds e1 e2).mono
  · rw [List.getElem?_append_right l] at e1
    rw [List.getElem?_append_right (by rw [T.len]; exact l), T.len] at e2
    cases e3 : n - ts.length with
    | zero =>
      rw [e3] at e1 e2
      cases e1
      cases e2
      exact h.mono
    | succ k => rw [e3] at e1; cases e1
theorem take_sum {α : Type} {f : α → Nat} {l : List α} (j : Nat) : ((l.take j).map f).sum ≤ (l.map f).sum := by
  conv => rhs; rw [← List.take_append_drop j l, List.map_append, List.sum_append]
  omega
def sp_get : Sp := fun vs H Q _ => ∃ (hp : Addr) (t : Tr) (v : V) (c : Int) (a : Addr) (ws : List Str) (s : Tr) (G : Gi) (as : List Addr) (ts : List Tr), vs = [.ref hp, v, .int c, .ref a] ∧ HpAt H hp G as ∧ Ty ts G ∧ TrAt H t v ∧ good t ∧ NodeT ts t c ∧ H a = some (.tup (ws.map V.str)) ∧ (ws, s) ∈ wpaths t ∧ ∀ c' H', NodeT ts s c' → Same H H' → Q (.int c') H'
def sp_set : Sp := fun vs H Q _ => ∃ (hp : Addr) (t : Tr) (v : V) (c x : Int) (a : Addr) (ws : List Str) (s : Tr) (G : Gi) (as : List Addr) (ts : List Tr), vs = [.ref hp, v, .int c, .ref a, .int x] ∧ HpAt H hp G as ∧ Ty ts G ∧ TrAt H t v ∧ good t ∧ NodeT ts t c ∧ H a = some (.tup (ws.map V.str)) ∧ ws ≠ [] ∧ (ws, s) ∈ wpaths t ∧ NodeT ts s x ∧ ∀ G' H', HpAt H' hp G' as → Ty ts G' → Kn as H H' → Q .non H'
def sp_below : Sp := fun vs H Q _ => ∃ (t : Tr) (v : V) (x : V) (a : Addr) (ws : List Str) (s : Tr), vs = [v, x] ∧ TrAt H t v ∧ good t ∧ x = .ref a ∧ (H a = some (.lst (ws.map V.str)) ∨ H a = some (.tup (ws.map V.str))) ∧ (ws, s) ∈ wpaths t ∧ ∀ v' H', TrAt H' s v' → Same H H' → Q v' H'
def sp_shared : Sp := fun vs H Q _ => ∃ (st g l hp ra : Addr) (t : Tr) (v : V) (rs : List Int) (G : Gi) (as : List Addr) (ts : List Tr), vs = [.ref st, .ref hp, v, .ref ra] ∧ StAt H st g l ∧ HpAt H hp G as ∧ Ty ts G ∧ Ub.TrAt H t v ∧ good t ∧ t.isNil = false ∧ H ra = some (.lst (rs.map V.int)) ∧ rs ≠ [] ∧ rs.length ≤ 100 ∧ (∀ r ∈ rs, NodeT ts t r) ∧ (∀ b ∈ hp :: as, b ∉ [st, g, l]) ∧ ra ∉ st :: g :: l :: hp :: as ∧ ∀ G' H', HpAt H' hp G' as → Ty ts G' → StAt H' st g l → Kn (st :: g :: l :: as) H H' → Q .non H'
/-- what stands and is no cell -/
theorem shN {H : Hp} {st g l hp : Addr} {G : Gi} {as : List Addr} (S : StAt H st g l) (h : HpAt H hp G as) {b : Addr} (hb : b ∈ st :: g :: l :: as) : ∃ xs, H b = some (.lst xs) := by
  obtain ⟨⟨gs, ls, c, x, h1, h2, h3, _⟩, _⟩ := S
  simp only [List.mem_cons] at hb
  rcases hb with rfl | rfl | rfl | hb
  · exact ⟨_, h1⟩
  · exact ⟨_, h2⟩
  · exact ⟨_, h3⟩
  · obtain ⟨i, hi⟩ := List.getElem?_of_mem hb
    obtain ⟨c, hc⟩ : ∃ c, G[i]? = some c := ⟨_, List.getElem?_eq_getElem (by rw [← h.len]; exact (List.getElem?_eq_some_iff.mp hi).1)⟩
    exact ⟨_, h.cs i b c hi hc⟩
def spF : List Tr → Nat → Nat → List (Tr × Nat × Nat)
  | [], _, _ => []
  | s :: l, r, p => if s.isNil then spF l r (p + 1) else (s, r, p) :: spF l (r + 1) p
def cR : List Tr → Nat
  | [] => 0
  | s :: l => (if s.isNil then 0 else 1) + cR l
def cP : List Tr → Nat
  | [] => 0
  | s :: l => (if s.isNil then 1 else 0) + cP l
theorem cR_app : ∀ {l m : List Tr}, cR (l ++ m) = cR l + cR m
  | [], m => (Nat.zero_add (cR m)).symm
  | s :: l, m => by
    show (if s.isNil then 0 else 1) + cR (l ++ m) = (if s.isNil then 0 else 1) + cR l + cR m
    rw [cR_app]
    omega
theorem cP_app : ∀ {l m : List Tr}, cP (l ++ m) = cP l + cP m
  | [], m => (Nat.zero_add (cP m)).symm
  | s :: l, m => by
    show (if s.isNil then 1 else 0) + cP (l ++ m) = (if s.isNil then 1 else 0) + cP l + cP m
    rw [cP_app]
    omega
theorem spF_app : ∀ {l m : List Tr} {r p : Nat}, spF (l ++ m) r p = spF l r p ++ spF m (r + cR l) (p + cP l)
  | [], _, _, _ => rfl
  | s :: l, m, r, p => by
    show (if s.isNil then spF (l ++ m) r (p + 1) else (s, r, p) :: spF (l ++ m) (r + 1) p) = (if s.isNil then spF l r (p + 1) else (s, r, p) :: spF l (r + 1) p) ++ spF m (r + ((if s.isNil then 0 else 1) + cR l)) (p + ((if s.isNil then 1 else 0) + cP l))
    cases s.isNil with
    | true =>
      rw [if_pos rfl, if_pos rfl, if_pos rfl, if_pos rfl, spF_app, Nat.zero_add, show p + 1 + cP l = p + (1 + cP l) by omega]
    | false =>
      rw [if_neg (by simp), if_neg (by simp), if_neg (by simp), if_neg (by simp), spF_app, Nat.zero_add, show r + 1 + cR l = r + (1 + cR l) by omega]
      rfl
theorem spF_len : ∀ {l : List Tr} {r p : Nat}, (spF l r p).length ≤ l.length
  | [], _, _ => Nat.le_refl _
  | s :: l, r, p => by
    show (if s.isNil then spF l r (p + 1) else (s, r, p) :: spF l (r + 1) p).length ≤ _
    split
    · have := spF_len (l := l) (r := r) (p := p + 1); rw [List.length_cons]; omega
    · have := spF_len (l := l) (r := r + 1) (p := p); rw [List.length_cons, List.length_cons]; omega
theorem cRP_len : ∀ l : List Tr, cR l + cP l = l.length
  | [] => rfl
  | s :: l => by
    have h := cRP_len l
    show (if s.isNil then 0 else 1) + cR l + ((if s.isNil then 1 else 0) + cP l) = l.length + 1
    cases s.isNil with
    | true => rw [if_pos rfl, if_pos rfl]; omega
    | false => rw [if_neg (by simp), if_neg (by simp)]; omega
abbrev Span := Tr × Nat × Nat
/-- the spans of a tree -/
def spT (t : Tr) : List Span := spF ((paths t).map (·.2)) 0 0
def SpanAt (H : Hp) (v : V) (m : Span) : Prop := ∃ b, v = .ref b ∧ H b = some (.tup [.str m.1.text, .int (m.2.1 : Nat), .int (m.2.1 + m.1.recs : Nat), .int (m.2.2 : Nat), .int (m.2.2 + m.1.plains : Nat)])
def SpansAt (H : Hp) (l : List Span) (vs : List V) : Prop := vs.length = l.length ∧ ∀ (i : Nat) (v : V) (m : Span), vs[i]? = some v → l[i]? = some m → SpanAt H v m
theorem SpansAt.tups {H H' : Hp} {l : List Span} {vs : List V} (k : ∀ c xs, H c = some (.tup xs) → H' c = some (.tup xs)) (h : SpansAt H l vs) : SpansAt H' l vs := ⟨h.1, fun i v m a b => (h.2 i v m a b).imp fun c d => ⟨d.1, k _ _ d.2⟩⟩
theorem SpansAt.snoc {H : Hp} {l : List Span} {vs : List V} {m : Span} {v : V} (h : SpansAt H l vs) (h2 : SpanAt H v m) : SpansAt H (l ++ [m]) (vs ++ [v]) := by
  refine ⟨by rw [List.length_append, List.length_append, h.1]; rfl, fun i w n e1 e2 => ?_⟩
  rcases Nat.lt_or_ge i vs.length with c | c
  · rw [List.getElem?_append_left c] at e1
    rw [List.getElem?_append_left (by rw [← h.1]; exact c)] at e2
    exact h.2 i w n e1 e2
  · rw [List.getElem?_append_right c] at e1
    rw [List.getElem?_append_right (by rw [← h.1]; exact c), ← h.1] at e2
    cases e3 : i - vs.length with
    | zero =>
      rw [e3] at e1 e2
      cases e1
      cases e2
      exact h2
    | succ k => rw [e3] at e1; cases e1
def sp_spans (C : Addr) : Sp := fun vs H Q _ => ∃ (Z : Addr → Prop) (x : Addr) (g : Sg), vs = [.ref x] ∧ ShG Z C H x g ∧ good g.tr ∧ ∀ D ws H', Same H H' → H D = none → H' D = some (.lst ws) → SpansAt H' (spT g.tr) ws → Q (.ref D) H'
/-- the parts of a form at the record paths -/
def plF : Tr → List Int → List Int → List (Tr × List Int × List Int)
  | .nil, _, _ => []
  | .cons _ t r, rs, is => (if t.isNil then [] else (t, rs.take t.recs, is.take t.plains) :: plF t ((rs.take t.recs).drop 1) (is.take t.plains)) ++ plF r (rs.drop t.recs) (is.drop t.plains)
def plT (t : Tr) (rs is : List Int) : List (Tr × List Int × List Int) := if t.isNil then [] else (t, rs, is) :: plF t (rs.drop 1) is
def cutI (rs is : List Int) (m : Span) : Tr × List Int × List Int := (m.1, (rs.drop m.2.1).take m.1.recs, (is.drop m.2.2).take m.1.plains)
theorem paths_trees (t : Tr) : (paths t).map (·.2) = t :: (wfp t).map (·.2) := by
  rw [← wpaths_text, List.map_map]
  rfl
theorem cR_wfp : ∀ t : Tr, cR ((wfp t).map (·.2)) = t.srec
  | .nil => rfl
  | .cons w t r => by
    show cR (((([], t) :: wfp t).map (fun m => (w :: m.1, m.2)) ++ wfp r).map (·.2)) = _
    rw [List.map_append, cR_app, cR_wfp r, List.map_map]
    show cR (t :: (wfp t).map (·.2)) + _ = (if t.isNil then 0 else 1 + t.srec) + r.srec
    show (if t.isNil then 0 else 1) + cR ((wfp t).map (·.2)) + _ = _
    rw [cR_wfp t]
    cases e : t.isNil with
    | true => rw [Tr.nil_of e]; rfl
    | false => rfl
theorem cP_wfp : ∀ t : Tr, cP ((wfp t).map (·.2)) = t.spla
  | .nil => rfl
  | .cons w t r => by
    show cP (((([], t) :: wfp t).map (fun m => (w :: m.1, m.2)) ++ wfp r).map (·.2)) = _
    rw [List.map_append, cP_app, cP_wfp r, List.map_map]
    show (if t.isNil then 1 else 0) + cP ((wfp t).map (·.2)) + _ = (if t.isNil then 1 else t.spla) + r.spla
    rw [cP_wfp t]
    cases e : t.isNil with
    | true => rw [Tr.nil_of e]; rfl
    | false => simp
theorem plF_take : ∀ {t : Tr} {rs is : List Int} {n m : Nat}, t.srec ≤ n → t.spla ≤ m → plF t (rs.take n) (is.take m) = plF t rs is
  | .nil, _, _, _, _, _, _ => rfl
  | .cons w t q, rs, is, n, m, h1, h2 => by
    have e1 : (Tr.cons w t q).srec = t.recs + q.srec := by
      show (if t.isNil then 0 else 1 + t.srec) + q.srec = _
      rfl
    have e2 : (Tr.cons w t q).spla = t.plains + q.spla := by
      show (if t.isNil then 1 else t.spla) + q.spla = _
      rfl
    rw [e1] at h1
    rw [e2] at h2
    show (if t.isNil then [] else (t, (rs.take n).take t.recs, (is.take m).take t.plains) :: plF t (((rs.take n).take t.recs).drop 1) ((is.take m).take t.plains)) ++ plF q ((rs.take n).drop t.recs) ((is.take m).drop t.plains) = (if t.isNil then [] else (t, rs.take t.recs, is.take t.plains) :: plF t ((rs.take t.recs).drop 1) (is.take t.plains)) ++ plF q (rs.drop t.recs) (is.drop t.plains)
    have a1 : (rs.take n).drop t.recs = (rs.drop t.recs).take (n - t.recs) := List.drop_take
    have a2 : (is.take m).drop t.plains = (is.drop t.plains).take (m - t.plains) := List.drop_take
    rw [List.take_take, List.take_take, Nat.min_eq_left (by omega), Nat.min_eq_left (by omega), a1, a2, plF_take (t := q) (by omega) (by omega)]
/-- the spans are the parts -/
theorem spF_plF : ∀ (t : Tr) (r p : Nat) (rs is : List Int), (spF ((wfp t).map (·.2)) r p).map (cutI rs is) = plF t (rs.drop r) (is.drop p)
  | .nil, _, _, _, _ => rfl
  | .cons w t q, r, p, rs, is => by
    show (spF (((([], t) :: wfp t).map (fun m => (w :: m.1, m.2)) ++ wfp q).map (·.2)) r p).map (cutI rs is) = _
    rw [List.map_append, List.map_map, spF_app, List.map_append, spF_plF q]
    show (spF (t :: (wfp t).map (·.2)) r p).map (cutI rs is) ++ plF q (rs.drop (r + cR (t :: (wfp t).map (·.2)))) (is.drop (p + cP (t :: (wfp t).map (·.2)))) = (if t.isNil then [] else (t, (rs.drop r).take t.recs, (is.drop p).take t.plains) :: plF t (((rs.drop r).take t.recs).drop 1) ((is.drop p).take t.plains)) ++ plF q ((rs.drop r).drop t.recs) ((is.drop p).drop t.plains)
    have e1 : cR (t :: (wfp t).map (·.2)) = t.recs := by
      show (if t.isNil then 0 else 1) + cR ((wfp t).map (·.2)) = if t.isNil then 0 else 1 + t.srec
      rw [cR_wfp]
      cases e : t.isNil with
      | true => rw [Tr.nil_of e]; rfl
      | false => rfl
    have e2 : cP (t :: (wfp t).map (·.2)) = t.plains := by
      show (if t.isNil then 1 else 0) + cP ((wfp t).map (·.2)) = if t.isNil then 1 else t.spla
      rw [cP_wfp]
      cases e : t.isNil with
      | true => rw [Tr.nil_of e]; rfl
      | false => simp
    rw [e1, e2, List.drop_drop, List.drop_drop]
    congr 1
    show (if t.isNil then spF ((wfp t).map (·.2)) r (p + 1) else (t, r, p) :: spF ((wfp t).map (·.2)) (r + 1) p).map (cutI rs is) = _
    cases e : t.isNil with
    | true => rw [Tr.nil_of e]; rfl
    | false =>
      rw [if_neg (by simp), if_neg (by simp), List.map_cons, spF_plF t]
      have h1 : t.recs = 1 + t.srec := by unfold Tr.recs; rw [e]; rfl
      have h2 : t.plains = t.spla := by unfold Tr.plains; rw [e]; rfl
      show cutI rs is (t, r, p) :: plF t (rs.drop (r + 1)) (is.drop p) = (t, (rs.drop r).take t.recs, (is.drop p).take t.plains) :: plF t (((rs.drop r).take t.recs).drop 1) ((is.drop p).take t.plains)
      rw [List.drop_take, List.drop_drop, plF_take (by omega) (by omega)]
      rfl
theorem spT_plT {t : Tr} {rs is : List Int} (h1 : rs.length = t.recs) (h2 : is.length = t.plains) : (spT t).map (cutI rs is) = plT t rs is := by
  unfold spT plT
  rw [paths_trees]
  show (if t.isNil then spF ((wfp t).map (·.2)) 0 (0 + 1) else (t, 0, 0) :: spF ((wfp t).map (·.2)) (0 + 1) 0).map (cutI rs is) = _
  cases e : t.isNil with
  | true => rw [Tr.nil_of e]; rfl
  | false =>
    rw [if_neg (by simp), if_neg (by simp), List.map_cons, spF_plF]
    congr 1
    show (t, (rs.drop 0).take t.recs, (is.drop 0).take t.plains) = _
    rw [List.drop_zero, List.drop_zero, ← h1, ← h2, List.take_length, List.take_length]
abbrev Pl := Tr × List Int × List Int
def PlAt (H : Hp) (v : V) (m : Pl) : Prop := ∃ (p a b : Addr) (tv : V), v = .ref p ∧ H p = some (.tup [tv, .ref a, .ref b]) ∧ Ub.TrAt H m.1 tv ∧ H a = some (.tup (m.2.1.map V.int)) ∧ H b = some (.tup (m.2.2.map V.int))
def PlsAt (H : Hp) (l : List Pl) (vs : List V) : Prop := vs.length = l.length ∧ ∀ (i : Nat) (v : V) (m : Pl), vs[i]? = some v → l[i]? = some m → PlAt H v m
theorem PlAt.tups {H H' : Hp} {v : V} {m : Pl} (k : ∀ c xs, H c = some (.tup xs) → H' c = some (.tup xs)) (h : PlAt H v m) : PlAt H' v m := by
  obtain ⟨p, a, b, tv, e, h1, h2, h3, h4⟩ := h
  exact ⟨p, a, b, tv, e, k _ _ h1, h2.tups k, k _ _ h3, k _ _ h4⟩
theorem PlsAt.tups {H H' : Hp} {l : List Pl} {vs : List V} (k : ∀ c xs, H c = some (.tup xs) → H' c = some (.tup xs)) (h : PlsAt H l vs) : PlsAt H' l vs := ⟨h.1, fun i v m a b => (h.2 i v m a b).tups k⟩
theorem PlsAt.app {H : Hp} {l m : List Pl} {vs ws : List V} (h : PlsAt H l vs) (h2 : PlsAt H m ws) : PlsAt H (l ++ m) (vs ++ ws) := by
  refine ⟨by rw [List.length_append, List.length_append, h.1, h2.1], fun i w n e1 e2 => ?_⟩
  rcases Nat.lt_or_ge i vs.length with c | c
  · rw [List.getElem?_append_left c] at e1
    rw [List.getElem?_append_left (by rw [← h.1]; exact c)] at e2
    exact h.2 i w n e1 e2
  · rw [List.getElem?_append_right c] at e1
    rw [List.getElem?_append_right (by rw [← h.1]; exact c), ← h.1] at e2
    exact h2.2 _ w n e1 e2
def plFs : List (Str × Tr) → List Int → List Int → List Pl
  | [], _, _ => []
  | f :: l, rs, is => plT f.2 (rs.take f.2.recs) (is.take f.2.plains) ++ plFs l (rs.drop f.2.recs) (is.drop f.2.plains)
theorem plF_fs : ∀ {t : Tr} {rs is : List Int}, plF t rs is = plFs t.fields rs is
  | .nil, _, _ => rfl
  | .cons w t q, rs, is => by
    show (if t.isNil then [] else _ :: _) ++ plF q _ _ = plT t _ _ ++ plFs q.fields _ _
    rw [plF_fs (t := q)]
    rfl
theorem plFs_snoc {f : Str × Tr} : ∀ {l : List (Str × Tr)} {rs is : List Int}, plFs (l ++ [f]) rs is = plFs l rs is ++ plT f.2 ((rs.drop (l.map fun p => p.2.recs).sum).take f.2.recs) ((is.drop (l.map fun p => p.2.plains).sum).take f.2.plains)
  | [], rs, is => by
    show plT _ _ _ ++ [] = [] ++ plT _ _ _
    rw [List.append_nil]
    rfl
  | x :: l, rs, is => by
    show plT _ _ _ ++ plFs (l ++ [f]) _ _ = (plT _ _ _ ++ plFs l _ _) ++ _
    rw [plFs_snoc, List.append_assoc, List.drop_drop, List.drop_drop]
    rfl
theorem plT_len {t : Tr} : ∀ {rs is : List Int}, (plT t rs is).length = t.recs ∧ (plF t rs is).length = t.srec := by
  induction t with
  | nil => exact fun {rs is} => ⟨rfl, rfl⟩
  | cons w t q h1 h2 =>
    intro rs is
    have e : (plF (.cons w t q) rs is).length = (Tr.cons w t q).srec := by
      show (plT t (rs.take t.recs) (is.take t.plains) ++ plF q _ _).length = t.recs + q.srec
      rw [List.length_append, h1.1, h2.2]
    refine ⟨?_, e⟩
    show (plF (.cons w t q) (rs.drop 1) is).length + 1 = 1 + (Tr.cons w t q).srec
    have e2 : ∀ rs is, (plF (.cons w t q) rs is).length = (Tr.cons w t q).srec := fun rs is => by
      show (plT t (rs.take t.recs) (is.take t.plains) ++ plF q _ _).length = t.recs + q.srec
      rw [List.length_append, h1.1, h2.2]
    rw [e2]
    omega
def sp_places (d : Nat) : Sp := fun vs H Q _ => ∃ (t : Tr) (v : V) (a b : Addr) (rs is : List Int), vs = [v, .ref a, .ref b] ∧ Ub.TrAt H t v ∧ good t ∧ t.depth < d ∧ H a = some (.tup (rs.map V.int)) ∧ H b = some (.tup (is.map V.int)) ∧ rs.length = t.recs ∧ is.length = t.plains ∧ ∀ D ps H', Same H H' → H D = none → H' D = some (.lst ps) → PlsAt H' (plT t rs is) ps → Q (.ref D) H'
/-- numbers counted from 0 as they come -/
def mostF (m : Nat) (l : List Int) : Nat := l.foldl (fun (m : Nat) (x : Int) => if x = ((m : Nat) : Int) then m + 1 else m) m
def numd : Nat → List Int → Bool
  | _, [] => true
  | m, x :: l => (decide (0 ≤ x) && decide (x ≤ (m : Nat))) && numd (if x = (m : Nat) then m + 1 else m) l
theorem numd_app : ∀ {l r : List Int} {m : Nat}, numd m (l ++ r) = (numd m l && numd (mostF m l) r)
  | [], _, _ => (Bool.true_and _).symm
  | x :: l, r, m => by
    show ((decide (0 ≤ x) && decide (x ≤ (m : Nat))) && numd (if x = (m : Nat) then m + 1 else m) (l ++ r)) = _
    rw [numd_app, ← Bool.and_assoc]
    rfl
theorem mostF_snoc {l : List Int} {x : Int} {m : Nat} : mostF m (l ++ [x]) = if x = (mostF m l : Nat) then mostF m l + 1 else mostF m l := by
  unfold mostF
  rw [List.foldl_append]
  rfl
def RowsAt (H : Hp) (rs : List Addr) (xss : List (List Int)) : Prop := rs.length = xss.length ∧ ∀ (i : Nat) (a : Addr) (xs : List Int), rs[i]? = some a → xss[i]? = some xs → H a = some (.tup (xs.map V.int))
def sp_numd : Sp := fun vs H Q _ => ∃ (D : Addr) (rs : List Addr) (xss : List (List Int)), vs = [.ref D] ∧ H D = some (.lst (rs.map V.ref)) ∧ RowsAt H rs xss ∧ Q (.bl (numd 0 xss.flatten)) H
def sp_counted : Sp := fun vs H Q _ => ∃ (a : Addr) (xs : List Int), vs = [.ref a] ∧ H a = some (.tup (xs.map V.int)) ∧ xs.length ≤ 60 ∧ ∀ H', Same H H' → Q (.bl (numd 0 xs)) H'
/-- as long as they are counted, the numbers so far are those below the most -/
theorem numd_memG : ∀ {l : List Int} {m : Nat}, numd m l = true → ∀ k : Int, (k ∈ l ∨ (0 ≤ k ∧ k < (m : Nat))) ↔ (0 ≤ k ∧ k < (mostF m l : Nat))
  | [], m, _, k => ⟨fun h => h.elim (fun h => nomatch h) id, .inr⟩
  | x :: l, m, h, k => by
    have h : ((decide (0 ≤ x) && decide (x ≤ (m : Nat))) && numd (if x = (m : Nat) then m + 1 else m) l) = true := h
    rw [Bool.and_eq_true, Bool.and_eq_true, decide_eq_true_eq, decide_eq_true_eq] at h
    obtain ⟨⟨h1, h2⟩, h3⟩ := h
    have ih := numd_memG h3 k
    have e : mostF m (x :: l) = mostF (if x = (m : Nat) then m + 1 else m) l := rfl
    rw [e, ← ih, List.mem_cons]
    split
    · rename_i c
      constructor
      · rintro ((a | a) | a)
        · exact .inr (by omega)
        · exact .inl a
        · exact .inr (by omega)
      · rintro (a | a)
        · exact .inl (.inr a)
        · by_cases d : k = x
          · exact .inl (.inl d)
          · exact .inr (by omega)
    · rename_i c
      constructor
      · rintro ((a | a) | a)
        · exact .inr (by omega)
        · exact .inl a
        · exact .inr a
      · rintro (a | a)
        · exact .inl (.inr a)
        · exact .inr a
theorem numd_mem {l : List Int} (h : numd 0 l = true) (k : Int) : k ∈ l ↔ (0 ≤ k ∧ k < (mostF 0 l : Nat)) := by
  rw [← numd_memG h]
  exact ⟨.inl, fun a => a.elim id fun b => by have : k < ((0 : Nat) : Int) := b.2; omega⟩
/-- ascending numbers that are those below m: there are m of them -/
theorem asc_count {ns : List Int} {m : Nat} (p : ns.Pairwise (· < ·)) (h : ∀ k : Int, k ∈ ns ↔ (0 ≤ k ∧ k < (m : Nat))) : ns.length = m := by
  have nd1 : ns.Nodup := p.imp fun h => by omega
  have nd2 : ((List.range m).map fun n => ((n : Nat) : Int)).Nodup := by
    unfold List.Nodup
    rw [List.pairwise_map]
    exact List.nodup_range.imp fun h e => h (by omega)
  have s1 := sub_len ns ((List.range m).map fun n => ((n : Nat) : Int)) nd1 fun k hk => by
    obtain ⟨a, b⟩ := (h k).mp hk
    exact List.mem_map.mpr ⟨k.toNat, List.mem_range.mpr (by omega), by omega⟩
  have s2 := sub_len ((List.range m).map fun n => ((n : Nat) : Int)) ns nd2 fun k hk => by
    obtain ⟨n, hn, rfl⟩ := List.mem_map.mp hk
    have := List.mem_range.mp hn
    exact (h _).mpr ⟨by omega, by omega⟩
  rw [List.length_map, List.length_range] at s1 s2
  omega
instance : DecidableEq Tr := fun a b => decidable_of_iff (eqT a b = true) (eqT_iff a b)
def headI (p : Pl) : Int := p.2.1.headD 0
def Agree (l : List Pl) : Prop := ∀ p ∈ l, ∀ q ∈ l, headI p = headI q → p = q
def findI (known : List Pl) (k : Int) : Option Pl := known.find? fun q => decide (headI q = k)
def consW : List Pl → List Pl → Bool
  | _, [] => true
  | known, p :: l => (match findI known (headI p) with
    | some q => decide (q = p)
    | none => true) && consW (p :: known) l
theorem findI_some {known : List Pl} {k : Int} {q : Pl} (h : findI known k = some q) : q ∈ known ∧ headI q = k := ⟨List.mem_of_find?_eq_some h, by simpa using List.find?_some h⟩
theorem findI_none {known : List Pl} {k : Int} (h : findI known k = none) : ∀ q ∈ known, headI q ≠ k := fun q hq e => by
  have := List.find?_eq_none.mp h q hq
  simp at this
  exact this e
theorem consW_iff : ∀ {l known : List Pl}, Agree known → (consW known l = true ↔ Agree (known ++ l))
  | [], known, h => ⟨fun _ => by rw [List.append_nil]; exact h, fun _ => rfl⟩
  | p :: l, known, h => by
    have up : ∀ {A : Agree (p :: known)}, (consW (p :: known) l = true ↔ Agree ((p :: known) ++ l)) := fun {A} => consW_iff A
    have perm : Agree ((p :: known) ++ l) ↔ Agree (known ++ p :: l) := by
      have hm : ∀ x, x ∈ (p :: known) ++ l ↔ x ∈ known ++ p :: l := fun x => by
        rw [List.cons_append, List.mem_cons, List.mem_append, List.mem_append, List.mem_cons]
        exact or_left_comm
      exact ⟨fun A x hx y hy => A x ((hm x).mpr hx) y ((hm y).mpr hy), fun A x hx y hy => A x ((hm x).mp hx) y ((hm y).mp hy)⟩
    have sub : Agree (known ++ p :: l) → Agree (p :: known) := fun A x hx y hy => by
      have hm : ∀ x ∈ p :: known, x ∈ known ++ p :: l := fun x hx => by
        rcases List.mem_cons.mp hx with h | h
        · rw [h]; exact List.mem_append_right _ (List.mem_cons_self ..)
        · exact List.mem_append_left _ h
      exact A x (hm x hx) y (hm y hy)
    show ((match findI known (headI p) with
      | some q => decide (q = p)
      | none => true) && consW (p :: known) l) = true ↔ _
    cases hf : findI known (headI p) with
    | none =>
      have hn := findI_none hf
      have A : Agree (p :: known) := fun x hx y hy e => by
        rcases List.mem_cons.mp hx with h1 | h1
        · rcases List.mem_cons.mp hy with h2 | h2
          · rw [h1, h2]
          · rw [h1] at e
            exact absurd e.symm (hn y h2)
        · rcases List.mem_cons.mp hy with h2 | h2
          · rw [h2] at e
            exact absurd e (hn x h1)
          · exact h x h1 y h2 e
      rw [Bool.true_and, up (A := A), perm]
    | some q =>
      obtain ⟨hq, eq⟩ := findI_some hf
      by_cases c : q = p
      · have A : Agree (p :: known) := fun x hx y hy e => by
          have hm : ∀ x ∈ p :: known, x ∈ known := fun x hx => by
            rcases List.mem_cons.mp hx with h1 | h1
            · rw [h1, ← c]; exact hq
            · exact h1
          exact h x (hm x hx) y (hm y hy) e
        show (decide (q = p) && _) = true ↔ _
        rw [decide_eq_true c, Bool.true_and, up (A := A), perm]
      · show (decide (q = p) && _) = true ↔ _
        rw [decide_eq_false c, Bool.false_and]
        refine ⟨(fun z => Bool.noConfusion z), fun A => ?_⟩
        exact absurd (A q (List.mem_append_left _ hq) p (by simp) eq) c
def agreeB (l : List Pl) : Bool := l.all fun p => l.all fun q => !(decide (headI p = headI q) && !decide (p = q))
theorem agreeB_iff {l : List Pl} : agreeB l = true ↔ Agree l := by
  unfold agreeB
  rw [List.all_eq_true]
  constructor
  · intro h p hp q hq e
    have h1 := List.all_eq_true.mp (h p hp) q hq
    by_cases c : p = q
    · exact c
    · rw [decide_eq_true e, decide_eq_false c] at h1
      cases h1
  · intro A p hp
    refine List.all_eq_true.mpr fun q hq => ?_
    by_cases e : headI p = headI q
    · rw [decide_eq_true (A p hp q hq e)]
      simp
    · rw [decide_eq_false e]
      rfl
theorem cons_agree (l : List Pl) : consW [] l = agreeB l := by
  have h1 := consW_iff (l := l) (known := []) (fun _ h => nomatch h)
  rw [List.nil_append, ← agreeB_iff] at h1
  cases a : consW [] l with
  | true => exact (h1.mp a).symm
  | false =>
    cases b : agreeB l with
    | true => rw [h1.mpr b] at a; cases a
    | false => rfl
theorem consW_app : ∀ {a b known : List Pl}, consW known (a ++ b) = (consW known a && consW (a.reverse ++ known) b)
  | [], b, known => (Bool.true_and _).symm
  | p :: a, b, known => by
    show ((match findI known (headI p) with
      | some q => decide (q = p)
      | none => true) && consW (p :: known) (a ++ b)) = _
    rw [consW_app, ← Bool.and_assoc, List.reverse_cons, List.append_assoc]
    rfl
/-- as data -/
def plD (m : Pl) : PyData := .tuple [trD m.1, intsD m.2.1, intsD m.2.2]
theorem pl_dp {K : PySem.W.Frag} {H : Hp} {v : V} {m : Pl} (h : PlAt H v m) : Dp K H v (plD m) := by
  obtain ⟨p, a, b, tv, rfl, h1, h2, h3, h4⟩ := h
  exact .tup (.inl (.inl h1)) (.cons (tr_dp h2) (.cons (dp_ints h3) (.cons (dp_ints h4) .nil)))
theorem tup3_shaped {a b c : PyData} (ha : a.canLay0 = true) (hb : b.canLay0 = true) (hc : c.canLay0 = true) (d : max a.depth (max b.depth c.depth) ≤ 20) : SeqAt.shaped (.tuple [a, b, c]) = true := by
  unfold SeqAt.shaped
  rw [show PyData.canLay0 (.tuple [a, b, c]) = true by simp [PyData.canLay0, PyData.canLayAll0, ha, hb, hc]]
  rw [show PyData.depth (.tuple [a, b, c]) = max a.depth (max b.depth (max c.depth 0)) + 1 by simp [PyData.depth, PyData.depthAll]]
  simp only [Bool.true_and, decide_eq_true_eq]
  omega
theorem lay_of {d : PyData} (h : SeqAt.shaped d = true) : d.canLay0 = true := by
  unfold SeqAt.shaped at h
  rw [Bool.and_eq_true] at h
  exact h.1
theorem trD_depth {t : Tr} (h : good t) : (trD t).depth ≤ 20 := by
  have h1 := (good_has h).1
  have h2 := trF_dep t
  have h3 : t.sdep ≤ 3 := by
    cases t with
    | nil => decide
    | cons a b c =>
      have : (Tr.cons a b c).depth = 1 + (Tr.cons a b c).sdep := rfl
      omega
  unfold trD
  rw [show PyData.depth (.tuple (trF t)) = PyData.depthAll (trF t) + 1 by simp [PyData.depth]]
  omega
theorem ints_depth (is : List Int) : (intsD is).depth ≤ 1 := by
  unfold intsD
  rw [show PyData.depth (.tuple (is.map PyData.int)) = PyData.depthAll (is.map PyData.int) + 1 by simp [PyData.depth], dep_ints]
  exact Nat.le_refl _
theorem pl_shaped {m : Pl} (g : good m.1) : SeqAt.shaped (plD m) = true := by
  have h1 := trD_depth g
  have h2 := ints_depth m.2.1
  have h3 := ints_depth m.2.2
  exact tup3_shaped (lay_of (trD_shaped g)) (lay_of (ints_shaped _)) (lay_of (ints_shaped _)) (by omega)
theorem tup3_eqv {a b c a' b' c' : PyData} : PyData.eqv (.tuple [a, b, c]) (.tuple [a', b', c']) = (PyData.eqv a a' && (PyData.eqv b b' && PyData.eqv c c')) := by
  simp [PyData.eqv, PyData.eqvAll]
theorem pl_eqv {p q : Pl} : PyData.eqv (plD p) (plD q) = decide (p = q) := by
  unfold plD
  rw [tup3_eqv, ints_eqv, ints_eqv]
  obtain ⟨t, r, i⟩ := p
  obtain ⟨t', r', i'⟩ := q
  have e := trD_eq t t'
  by_cases c : t = t'
  · rw [e.mpr c]
    by_cases d : r = r'
    · by_cases f : i = i' <;> simp [c, d, f]
    · simp [c, d]
  · rw [show PyData.eqv (trD t) (trD t') = false from Bool.eq_false_iff.mpr fun z => c (e.mp z)]
    simp [c]
/-- as the program keeps them: with the text -/
def BelowAt (H : Hp) (v : V) (m : Pl) : Prop := ∃ (p a b : Addr), v = .ref p ∧ H p = some (.tup [.str m.1.text, .ref a, .ref b]) ∧ H a = some (.tup (m.2.1.map V.int)) ∧ H b = some (.tup (m.2.2.map V.int))
theorem BelowAt.tups {H H' : Hp} {v : V} {m : Pl} (k : ∀ c xs, H c = some (.tup xs) → H' c = some (.tup xs)) (h : BelowAt H v m) : BelowAt H' v m := by
  obtain ⟨p, a, b, e, h1, h3, h4⟩ := h
  exact ⟨p, a, b, e, k _ _ h1, k _ _ h3, k _ _ h4⟩
def belD (m : Pl) : PyData := .tuple [.str m.1.text, intsD m.2.1, intsD m.2.2]
theorem bel_dp {K : PySem.W.Frag} {H : Hp} {v : V} {m : Pl} (h : BelowAt H v m) : Dp K H v (belD m) := by
  obtain ⟨p, a, b, rfl, h1, h3, h4⟩ := h
  exact .tup (.inl (.inl h1)) (.cons (.str _) (.cons (dp_ints h3) (.cons (dp_ints h4) .nil)))
theorem text_tree {t u : Tr} (g : good t) (h : good u) (e : t.text = u.text) : t = u := by
  have h1 := shapeOf_in g
  rw [e, shapeOf_in h] at h1
  exact (Option.some.inj h1).symm
theorem bel_shaped {m : Pl} (g : good m.1) : SeqAt.shaped (belD m) = true := by
  have h2 := ints_depth m.2.1
  have h3 := ints_depth m.2.2
  have ha : Asc m.1.text := text_asc g.1
  exact tup3_shaped (lay_of (shaped_str ha)) (lay_of (ints_shaped _)) (lay_of (ints_shaped _)) (by rw [show PyData.depth (.str m.1.text) = 0 by simp [PyData.depth]]; omega)
theorem bel_eqv {p q : Pl} (g : good p.1) (h : good q.1) : PyData.eqv (belD p) (belD q) = decide (p = q) := by
  unfold belD
  rw [tup3_eqv, ints_eqv, ints_eqv, eqv_strs]
  obtain ⟨t, r, i⟩ := p
  obtain ⟨t', r', i'⟩ := q
  by_cases c : t = t'
  · rw [show (t.text == t'.text) = true by rw [c]; simp]
    by_cases d : r = r'
    · by_cases f : i = i' <;> simp [c, d, f]
    · simp [c, d]
  · rw [show (t.text == t'.text) = false from Bool.eq_false_iff.mpr fun z => c (text_tree g h (by simpa using z))]
    simp [c]
def sp_agree : Sp := fun vs H Q _ => ∃ (D : Addr) (ps : List V) (l : List Pl), vs = [.ref D] ∧ H D = some (.lst ps) ∧ PlsAt H l ps ∧ (∀ p ∈ l, good p.1 ∧ p.2.1 ≠ []) ∧ Q (.bl (agreeB l)) H
theorem agreeB_no {l : List Pl} {p q : Pl} (hp : p ∈ l) (hq : q ∈ l) (e : headI p = headI q) (n : p ≠ q) : agreeB l = false := by
  cases h : agreeB l with
  | false => rfl
  | true => exact absurd (agreeB_iff.mp h p hp q hq e) n
theorem agreeB_yes {l : List Pl} (h : ∀ p ∈ l, ∀ q ∈ l, headI p = headI q → p = q) : agreeB l = true := agreeB_iff.mpr h
theorem PlsAt.mem {H : Hp} {l : List Pl} {ps : List V} (h : PlsAt H l ps) {i : Nat} {v : V} (e : ps[i]? = some v) : ∃ m, l[i]? = some m ∧ PlAt H v m := by
  obtain ⟨m, hm⟩ : ∃ m, l[i]? = some m := ⟨_, List.getElem?_eq_getElem (by rw [← h.1]; exact (List.getElem?_eq_some_iff.mp e).1)⟩
  exact ⟨m, hm, h.2 i v m e hm⟩
end Ni
namespace Lx
open PySem PySem.Spec PyProof.Rows L2 Ub Ur Ug Ue Up Uo Ve Va Vk Wb Pt Gr Sb Rw Ni
section
variable {P : Program} {w : World} {K : PySem.W.Frag} {mg : Str → Option Value} {base : Heap}
theorem sc_law_do_agree : FnScope ["_law_places_here", "_law_one", "_law_other"] ["_law_places_here"] (defScope s_law_do_agree) := ⟨rfl, rfl, rfl, by decide +kernel, rfl, by decide +kernel, by decide +kernel⟩
theorem ok_law_do_agree {f : Addr} {fd : FuncData} (F : FunD K "_law_do_agree" "_law_do_agree" (defArgs s_law_do_agree) (defBody s_law_do_agree) (defScope s_law_do_agree) [] [] f fd) (T : Tx K mg) : FnOk P w K mg base CX0 1 f fd ["_law_places_here"] sp_agree := by
  refine F.ok sc_law_do_agree (fun vs H Q E h => by obtain ⟨_, _, _, rfl, _⟩ := h; rfl) (fun cdv A outer s H vs Q E hr h => ?_)
  obtain ⟨D, ps, l, rfl, hD, hl, gl, q⟩ := h
  refine ⟨_, PSs.nox (pss_cons (ps_for PassesOwn.never rfl (pi_listK K (pv 0)) (pg_name (i := 1) sc_law_do_agree.nd rfl (by first | exact Or.inl rfl | exact Or.inr rfl))
        (pss_one (ps_for PassesOwn.never rfl (pi_listK K (pv 0)) (pg_name (i := 2) sc_law_do_agree.nd rfl (by first | exact Or.inl rfl | exact Or.inr rfl))
            (pss_one (ps_if (PW.pt (pw_and (pt_cmpR op_eq (pe_ix (ix_tupK K) (pe_ix (ix_tupK K) (pv 1) pe_int (fun _ _ => rfl)) pe_int (fun _ _ => rfl)) (pe_ix (ix_tupK K) (pe_ix (ix_tupK K) (pv 2) pe_int (fun _ _ => rfl)) pe_int (fun _ _ => rfl)) (nomark _)) (pw_and1 (pt_cmpR (op_neDK K hr.units) (pv 1) (pv 2) (nomark _)))))
                (pss_one (ps_ret pe_bl))
                pss_nil)))))
      (pss_one (ps_ret pe_bl))), ?_⟩
  refine ⟨_, rfl, D, rfl, ⟨_, .inl (.inl hD)⟩, ?_⟩
  refine for_list (K := K) (a := D) (xs := ps) (fun i σ HX => ∃ (y1 y2 : Option V), σ = [some (.ref D), y1, y2] ∧ HX = H ∧ ∀ p ∈ l.take i, ∀ q ∈ l, headI p = headI q → p = q) ⟨none, none, rfl, rfl, fun _ h => nomatch h⟩ (fun i σ HX _ pp => ?_) (fun i v σ HX hv pp => ?_) (fun σ HX pp => ?_)
  · obtain ⟨_, _, _, rfl, _⟩ := pp
    exact .inl (.inl hD)
  rotate_left
  · obtain ⟨_, _, rfl, rfl, ok⟩ := pp
    rw [hl.1, List.take_length] at ok
    rw [agreeB_yes ok] at q
    exact q
  obtain ⟨y1, y2, rfl, rfl, ok⟩ := pp
  obtain ⟨m, hm, am⟩ := hl.mem hv
  have mm := List.mem_of_getElem? hm
  obtain ⟨gm, nm⟩ := gl m mm
  have ei : l.take (i + 1) = l.take i ++ [m] := by rw [List.take_add_one, hm]; rfl
  dsimp only [gName]
  refine ⟨_, rfl, D, rfl, ⟨_, .inl (.inl hD)⟩, ?_⟩
  refine for_list (K := K) (a := D) (xs := ps) (fun j σ HY => ∃ (y2 : Option V), σ = [some (.ref D), some v, y2] ∧ HY = HX ∧ ∀ q ∈ l.take j, headI m = headI q → m = q) ⟨_, rfl, rfl, fun _ h => nomatch h⟩ (fun j σ HY _ pp => ?_) (fun j u σ HY hu pp => ?_) (fun σ HY pp => ?_)
  · obtain ⟨_, _, rfl, _⟩ := pp
    exact .inl (.inl hD)
  rotate_left
  · obtain ⟨_, rfl, rfl, ok2⟩ := pp
    rw [hl.1, List.take_length] at ok2
    refine ⟨some v, _, rfl, rfl, fun p hp => ?_⟩
    rw [ei] at hp
    rcases List.mem_append.mp hp with h | h
    · exact ok p h
    · rw [List.mem_singleton.mp h]
      exact ok2
  obtain ⟨y3, rfl, rfl, ok2⟩ := pp
  obtain ⟨n, hn, an⟩ := hl.mem hu
  have nn := List.mem_of_getElem? hn
  obtain ⟨gn, nn2⟩ := gl n nn
  have ej : l.take (j + 1) = l.take j ++ [n] := by rw [List.take_add_one, hn]; rfl
  obtain ⟨p1, a1, b1, t1, rfl, u1, u2, u3, u4⟩ := id am
  obtain ⟨p2, a2, b2, t2, rfl, w1, w2, w3, w4⟩ := id an
  have hh : ∀ {m : Pl}, m.2.1 ≠ [] → atI (m.2.1.map V.int) 0 = some (.int (headI m)) := fun {m} h => by
    obtain ⟨t, r, i⟩ := m
    cases r with
    | nil => exact absurd rfl h
    | cons x r => exact at0
  have next : (headI m = headI n → m = n) → ∀ q ∈ l.take (j + 1), headI m = headI q → m = q := fun h q hq => by
    rw [ej] at hq
    rcases List.mem_append.mp hq with z | z
    · exact ok2 q z
    · rw [List.mem_singleton.mp z]; exact h
  dsimp only [gName]
  refine ⟨_, rfl, p1, _, 1, .ref a1, rfl, rfl, .inl (.inl u1), rfl, a1, _, 0, .int (headI m), rfl, rfl, .inl (.inl u3), hh nm, ?_⟩
  refine ⟨_, rfl, p2, _, 1, .ref a2, rfl, rfl, .inl (.inl w1), rfl, a2, _, 0, .int (headI n), rfl, rfl, .inl (.inl w3), hh nn2, rfl, _, rfl, ?_⟩
  by_cases c : headI m = headI n
  · refine iteY (by rw [c]) ?_
    refine ⟨_, rfl, _, rfl, plD m, plD n, pl_dp am, pl_dp an, pl_shaped gm, pl_shaped gn, _, rfl, ?_⟩
    rw [pl_eqv]
    by_cases d : m = n
    · rw [decide_eq_true d]
      refine (if_neg (by simp)).mpr ?_
      exact ⟨_, rfl, rfl, next fun _ => d⟩
    · rw [decide_eq_false d]
      refine (if_pos (by simp)).mpr ?_
      rw [agreeB_no mm nn c d] at q
      exact q
  · refine iteN (fun z => c (V.int.inj z)) ?_
    exact ⟨_, rfl, rfl, next fun e => absurd e c⟩
end
end Lx
namespace Ni
open PySem PySem.Spec PyProof.Rows L2
def rSetOfI (K : PySem.W.Frag) (w : World) : List V → Hp → VK → Prop := fun xs H Q => ∃ (p : Addr) (ns : List Int), xs = [.ref p] ∧ SqT K H p (ns.map V.int) ∧ ns.length ≤ 1000 ∧ ∀ a c, c ≤ ns.length → H a = none → Q (.ref a) (upd H a (SetO w a (fun j => decide (j ∈ ns)) c))
theorem cr_setOfI {X : Cx} (hc : X.calm = true) : CallR X (.type "set") (rSetOfI X.K X.w) := by
  intro pins s σ H xs us Q I r h
  obtain ⟨p0, ns, rfl, hq, hl, q⟩ := h
  cases r with
  | cons r rr =>
    cases rr
    cases r
    obtain ⟨its, rv, pt, hz⟩ := I.tuple hq
    have hi : IntsAre its.toArray.toList ns := ints_of_vals rv
    have hd := I.ok.hd hc
    refine call_set_tupI ns hd (show s.heap.IsTuple p0 its.toArray from pt) hi (by unfold scanBound; omega) fun h' tk c R1 hcn k => ?_
    exact ⟨.ref _, upd H s.heap.objs.size (SetO X.w s.heap.objs.size (fun j => decide (j ∈ ns)) c), I.laid (t' := tk) k (Nat.le_refl _) (setO_new R1), rfl, q _ c hcn (I.hok.fresh (Nat.le_refl _))⟩
theorem cr_setOfIK (K : PySem.W.Frag) (w : World) {X : Cx} (hc : X.calm = true) (e : X.K = K := by rfl) (e2 : X.w = w := by rfl) : CallR X (.type "set") (rSetOfI K w) := e ▸ e2 ▸ cr_setOfI hc
theorem cr_sortedSetW (w : World) {X : Cx} (hc : X.calm = true) (e : X.w = w := by rfl) : CallR X (.builtin "sorted") (rSortedSet w) := e ▸ cr_sortedSet hc
end Ni
namespace Lx
open PySem PySem.Spec PyProof.Rows L2 Ub Ur Ug Ue Up Uo Ve Va Vk Wb Pt Gr Sb Rw Ni
section
variable {P : Program} {w : World} {K : PySem.W.Frag} {mg : Str → Option Value} {base : Heap}
theorem sc_law_is_counted : FnScope ["_law_row", "_law_at_here"] ["_law_row"] (defScope s_law_is_counted) := ⟨rfl, rfl, rfl, by decide +kernel, rfl, by decide +kernel, by decide +kernel⟩
theorem ok_law_is_counted {f : Addr} {fd : FuncData} (F : FunD K "_law_is_counted" "_law_is_counted" (defArgs s_law_is_counted) (defBody s_law_is_counted) (defScope s_law_is_counted) [] [] f fd) (T : Tx K mg) : FnOk P w K mg base CX0 1 f fd ["_law_row"] sp_counted := by
  refine F.ok sc_law_is_counted (fun vs H Q E h => by obtain ⟨_, _, rfl, _⟩ := h; rfl) (fun cdv A outer s H vs Q E hr h => ?_)
  obtain ⟨a, xs, rfl, ha, lx, q⟩ := h
  refine ⟨_, PSs.nox (pss_cons (ps_for PassesOwn.never rfl (pi_range1 (by rfl) T.range (pa_cons (pe_callB (call_len_seqK K) (by rfl) T.len (by decide +kernel) (pa_cons (pv 0) pa_nil)) pa_nil)) (pg_name (i := 1) sc_law_is_counted.nd rfl (by first | exact Or.inl rfl | exact Or.inr rfl))
        (pss_one (ps_if (PW.pt (pw_or (pt_cmpR op_lt (pe_ix (ix_tupK K) (pv 0) (pv 1) (fun _ _ => rfl)) pe_int (nomark _)) (pw_or1 (pt_cmpR op_gt (pe_ix (ix_tupK K) (pv 0) (pv 1) (fun _ _ => rfl)) (pe_callB (call_len_seqK K) (by rfl) T.len (by decide +kernel) (pa_cons (pe_callB (Ni.cr_sortedSetW w rfl) (by rfl) T.sorted (by decide +kernel) (pa_cons (pe_callTy (Ni.cr_setOfIK K w rfl) (by rfl) T.set (by decide +kernel) (pa_cons (pe_slice (sl_tupAK K) (pv 0) po_none (po_some (pv 1))) pa_nil)) pa_nil)) pa_nil)) (nomark _)))))
            (pss_one (ps_ret pe_bl))
            pss_nil)))
      (pss_one (ps_ret pe_bl))), ?_⟩
  refine ⟨_, rfl, a, _, rfl, .inr (.inl (.inl ha)), _, rfl, by omega, by rw [List.length_map]; omega, ?_⟩
  rw [Int.toNat_natCast, List.length_map]
  refine for_range (lo := 0) (n := xs.length) (fun j σ HX => ∃ (y1 : Option V), σ = [some (.ref a), y1] ∧ Same H HX ∧ numd 0 (xs.take j) = true) ⟨none, rfl, fun _ _ e => e, rfl⟩ (fun j σ HX hj pp => ?_) (fun σ HX pp => ?_)
  rotate_left
  · obtain ⟨_, rfl, sX, ok⟩ := pp
    rw [List.take_length] at ok
    rw [ok] at q
    exact q _ sX
  obtain ⟨y1, rfl, sX, ok⟩ := pp
  obtain ⟨x, hx⟩ : ∃ x, xs[j]? = some x := ⟨_, List.getElem?_eq_getElem hj⟩
  have ej : xs.take (j + 1) = xs.take j ++ [x] := by rw [List.take_add_one, hx]; rfl
  have eA : xs = xs.take j ++ (x :: xs.drop (j + 1)) := by
    conv => lhs; rw [← List.take_append_drop (j + 1) xs, ej, List.append_assoc]
    rfl
  have bad : ¬ (0 ≤ x ∧ x ≤ (mostF 0 (xs.take j) : Nat)) → numd 0 xs = false := fun h => by
    rw [eA, numd_app, ok, Bool.true_and]
    show ((decide (0 ≤ x) && decide (x ≤ (mostF 0 (xs.take j) : Nat))) && _) = false
    by_cases a : 0 ≤ x
    · rw [decide_eq_false fun b => h ⟨a, b⟩, Bool.and_false, Bool.false_and]
    · rw [decide_eq_false a, Bool.false_and, Bool.false_and]
  have hat : atI (xs.map V.int) (0 + (j : Int)) = some (.int x) := by rw [Int.zero_add]; exact atI_nat (by rw [List.getElem?_map, hx]; rfl)
  have ha1 := sX _ _ ha
  dsimp only [gName]
  refine ⟨_, rfl, _, rfl, a, _, (0 + (j : Int)), .int x, rfl, rfl, .inl (.inl ha1), hat, ?_⟩
  refine ⟨_, _, rfl, rfl, _, rfl, ?_⟩
  by_cases c1 : x < 0
  · refine iteY c1 ?_
    rw [bad fun h => by omega] at q
    exact q _ sX
  · refine iteN c1 ?_
    refine ⟨_, rfl, _, rfl, a, _, (0 + (j : Int)), .int x, rfl, rfl, .inl (.inl ha1), hat, ?_⟩
    have ecut : cutV (xs.map V.int) none (some (0 + (j : Int))) = (xs.take j).map V.int := by
      rw [Int.zero_add, cut_take (by rw [List.length_map]; omega), List.map_take]
    refine ⟨_, rfl, noPart ⟨_, rfl, _, rfl, sl_any ha1 ecut fun p1 H1 s1 e1 _ => ?_⟩⟩
    refine ⟨p1, xs.take j, rfl, .inl (.inl e1), by rw [List.length_take]; omega, fun b c hc nb => ?_⟩
    rw [List.length_take] at hc
    have sb := same_upd (o := SetO w b (fun k => decide (k ∈ xs.take j)) c) nb
    refine ⟨b, _, c, rfl, upd_same, by omega, fun ns p pw hmem hl np => ?_⟩
    have sp := same_upd (o := .lst (ns.map V.int)) np
    have en : ns.length = mostF 0 (xs.take j) := asc_count pw fun k => by rw [hmem k, decide_eq_true_eq]; exact numd_mem ok k
    refine ⟨p, _, rfl, .inl (.inl (.inl upd_same)), ?_⟩
    rw [List.length_map, en]
    refine ⟨_, _, rfl, rfl, _, rfl, ?_⟩
    have s9 := sX.trans (s1.trans (sb.trans sp))
    by_cases c2 : ((mostF 0 (xs.take j) : Nat) : Int) < x
    · refine iteY c2 ?_
      rw [bad fun h => by omega] at q
      exact q _ s9
    · refine iteN c2 ?_
      dsimp only [tNext]
      refine ⟨_, rfl, s9, ?_⟩
      rw [ej, numd_app, ok, Bool.true_and]
      show ((decide (0 ≤ x) && decide (x ≤ (mostF 0 (xs.take j) : Nat))) && true) = true
      rw [decide_eq_true (by omega), decide_eq_true (by omega)]
      rfl
end
end Lx
namespace Ni
open PySem PySem.Spec PyProof.Rows L2 Ub Ur Ug Ue Up Uo Ve Va Vk Wb Pt Gr Sb Rw
def sp_isw0 : Sp := fun vs H Q _ => ∃ (v : V) (d : PyData), vs = [v] ∧ DtV [] H v d ∧ Q (.bl (isIntD d)) H
end Ni
namespace Lx
open PySem PySem.Spec PyProof.Rows L2 Ub Ur Ug Ue Up Uo Ve Va Vk Wb Pt Gr Sb Rw Ni
section
variable {P : Program} {w : World} {K : PySem.W.Frag} {mg : Str → Option Value} {base : Heap}
theorem sc_is_whole : FnScope ["value"] ["value"] (defScope s_is_whole) := ⟨rfl, rfl, rfl, by decide +kernel, rfl, by decide +kernel, by decide +kernel⟩
theorem ok_is_whole {fd : FuncData} (F : Df K ("is_whole", none) "is_whole" "is_whole" s_is_whole [] fd) (T : Tx K mg) : FnOk P w K mg base CX0 1 (He.ga K "is_whole") fd ["value"] sp_isw0 := by
  refine F.ok sc_is_whole (fun vs H Q E h => by obtain ⟨v, d, rfl, _⟩ := h; rfl) (fun cdv A outer s H vs Q E hr h => ?_)
  obtain ⟨v, d, rfl, hd, q⟩ := h
  refine ⟨_, PSs.nox (pss_one (ps_ret (pe_and (pe_callB (call_isiK' K) (by rfl) T.isinstance (by decide +kernel) (pa_cons (pv 0) (pa_cons (pe_bltn (v := .ty "int") (by rfl) T.int (by decide +kernel) rfl) pa_nil))) (pe_one (pe_not (pe_callB (call_isiK' K) (by rfl) T.isinstance (by decide +kernel) (pa_cons (pv 0) (pa_cons (pe_bltn (v := .ty "bool") (by rfl) T.bool (by decide +kernel) rfl) pa_nil)))))))), ?_⟩
  cases hd with
  | non => exact ⟨_, rfl, _, _, _, _, false, rfl, .ty "int", .base .non, kit_ty (by decide +kernel), false, rfl, iteF q⟩
  | str z => exact ⟨_, rfl, _, _, _, _, false, rfl, .ty "int", .base (.str z), kit_ty (by decide +kernel), false, rfl, iteF q⟩
  | lst h1 => exact ⟨_, rfl, _, _, _, _, false, rfl, .ty "int", .base (.lst h1), kit_ty (by decide +kernel), false, rfl, iteF q⟩
  | tup h1 => exact ⟨_, rfl, _, _, _, _, false, rfl, .ty "int", .base (.tup h1), kit_ty (by decide +kernel), false, rfl, iteF q⟩
  | bl b => exact ⟨_, rfl, _, _, _, _, true, rfl, .ty "int", .base (.bl b), kit_ty (by decide +kernel), true, rfl, iteT ⟨_, rfl, _, _, _, _, true, rfl, .ty "bool", .base (.bl b), kit_ty (by decide +kernel), true, rfl, q⟩⟩
  | int i => exact ⟨_, rfl, _, _, _, _, true, rfl, .ty "int", .base (.int i), kit_ty (by decide +kernel), true, rfl, iteT ⟨_, rfl, _, _, _, _, false, rfl, .ty "bool", .base (.int i), kit_ty (by decide +kernel), false, rfl, q⟩⟩
theorem sc_are_wholes : FnScope ["values", "many", "value"] ["values", "many"] (defScope s_are_wholes) := ⟨rfl, rfl, rfl, by decide +kernel, rfl, by decide +kernel, by decide +kernel⟩
theorem ok_are_wholes {fd : FuncData} (F : Df K ("are_wholes", none) "are_wholes" "are_wholes" s_are_wholes [] fd) (T : Tx K mg) (c_is_whole : Cal P w K mg base 1 "is_whole" ["value"] sp_isw0) : FnOk P w K mg base CX0 2 (He.ga K "are_wholes") fd ["values", "many"] sp_wholes := by
  refine F.ok sc_are_wholes (fun vs H Q E h => by obtain ⟨v, d, n, rfl, _⟩ := h; rfl) (fun cdv A outer s H vs Q E hr h => ?_)
  obtain ⟨v, d, n, rfl, hd, hl, q⟩ := h
  refine ⟨_, PSs.nox (pss_one (ps_ret (pe_and (pe_callB (call_isiK' K) (by rfl) T.isinstance (by decide +kernel) (pa_cons (pv 0) (pa_cons (pe_bltn (v := .ty "tuple") (by rfl) T.tuple (by decide +kernel) rfl) pa_nil))) (pe_and (pe_cmpR op_eq (pe_callB (call_len_seqK K) (by rfl) T.len (by decide +kernel) (pa_cons (pv 0) pa_nil)) (pv 1) (nomark _)) (pe_one (pe_callB (cr_allK K rfl) (by rfl) T.all (by decide +kernel) (pa_cons (pe_lc (own := [("value", 2)]) (by rfl) sc_are_wholes.nd (pi_tupK K (pv 0)) (blkOk_by (N := ["values", "many", "value"]) (sc := (defScope s_are_wholes)) (by decide +kernel)) (fun _ _ _ _ _ => (pg_name (i := 2) sc_are_wholes.nd rfl (by first | exact Or.inl rfl | exact Or.inr rfl))) (fun _ _ _ _ _ => pts_nil) (fun _ _ _ _ _ => (pe_cal c_is_whole (hr.mono (by omega)) (by rfl) (pa_cons (pv 2) pa_nil)))) pa_nil))))))), ?_⟩
  obtain ⟨T0, t1, t2⟩ := hd.tyT (K := K)
  refine ⟨_, rfl, _, _, _, _, _, rfl, .ty "tuple", t1, kit_ty t2, _, rfl, ?_⟩
  rcases hd.tupOr with ⟨p, xs, ds, rfl, rfl, hp, hx⟩ | no
  · refine iteT ?_
    have lx := hx.len
    have l2 := hl ds rfl
    refine ⟨_, rfl, p, xs, rfl, .inr (.inl (.inl hp)), _, rfl, rfl, _, rfl, ?_⟩
    have e1 : decide (V.int (xs.length : Int) = V.int (n : Int)) = decide (ds.length = n) := by
      rw [dI, lx]
      by_cases e : ds.length = n
      · rw [decide_eq_true e, decide_eq_true (by rw [e])]
      · rw [decide_eq_false e, decide_eq_false (by omega)]
    rw [e1]
    by_cases e : ds.length = n
    · rw [decide_eq_true e]
      refine iteT ?_
      refine ⟨_, rfl, p, rfl, ⟨_, .inl (.inl hp)⟩, fun D hD => ?_⟩
      refine lcM (walk_tup (xs := xs)) ds lx.symm (fun d => some (.bl (isIntD d))) (fun H s => Same.tup s (.inl (.inl hp))) (sz4 (by omega)) hD (fun i x m H' hx' hm' s' => ?_) (fun H1 s2 d1 => ?_)
      · obtain ⟨d', k1, k2⟩ := hx.get hx'
        rw [hm'] at k1
        cases k1
        intro Q1 Q0 h1 h0
        exact ⟨rfl, _, rfl, x, m, rfl, k2.same s', h1 _ _ rfl (Same.refl _)⟩
      · have el : (ds.filterMap fun d => some (V.bl (isIntD d))) = (ds.map isIntD).map V.bl := by
          rw [List.filterMap_eq_map', List.map_map]
          rfl
        rw [el] at d1
        refine ⟨D, _, rfl, .inl (.inl d1), ?_⟩
        have := q H1 s2
        rw [show wholesD (.tuple ds) n = (ds.map isIntD).all id by
          show (decide (ds.length = n) && ds.all isIntD) = _
          rw [decide_eq_true e, List.all_map]
          rfl] at this
        exact this
    · rw [decide_eq_false e]
      have := q H (Same.refl _)
      rw [show wholesD (.tuple ds) n = false by
        show (decide (ds.length = n) && ds.all isIntD) = _
        rw [decide_eq_false e]
        rfl] at this
      exact iteF this
  · rw [no]
    have := q H (Same.refl _)
    rw [wholesD_tup no] at this
    exact iteF this
theorem sc_law_is_row : FnScope ["_law_row", "_law_many", "_law_number_here"] ["_law_row", "_law_many"] (defScope s_law_is_row) := ⟨rfl, rfl, rfl, by decide +kernel, rfl, by decide +kernel, by decide +kernel⟩
theorem ok_law_is_row {f : Addr} {fd : FuncData} (F : FunD K "_law_is_row" "_law_is_row" (defArgs s_law_is_row) (defBody s_law_is_row) (defScope s_law_is_row) [] [] f fd) (T : Tx K mg) : FnOk P w K mg base CX0 1 f fd ["_law_row", "_law_many"] sp_wholes := by
  refine F.ok sc_law_is_row (fun vs H Q E h => by obtain ⟨v, d, n, rfl, _⟩ := h; rfl) (fun cdv A outer s H vs Q E hr h => ?_)
  obtain ⟨v, d, n, rfl, hd, hl, q⟩ := h
  refine ⟨_, PSs.nox (pss_cons (ps_if (PW.pt (pw_or (pt_not (pt_val (pe_callB (call_isiK' K) (by rfl) T.isinstance (by decide +kernel) (pa_cons (pv 0) (pa_cons (pe_bltn (v := .ty "tuple") (by rfl) T.tuple (by decide +kernel) rfl) pa_nil))))) (pw_or1 (pt_cmpR op_ne (pe_callB (call_len_seqK K) (by rfl) T.len (by decide +kernel) (pa_cons (pv 0) pa_nil)) (pv 1) (nomark _)))))
        (pss_one (ps_ret pe_bl))
        pss_nil)
      (pss_cons (ps_for PassesOwn.never rfl (pi_tupK K (pv 0)) (pg_name (i := 2) sc_law_is_row.nd rfl (by first | exact Or.inl rfl | exact Or.inr rfl))
        (pss_one (ps_if (PW.pt (pw_or (pt_not (pt_val (pe_callB (call_isiK' K) (by rfl) T.isinstance (by decide +kernel) (pa_cons (pv 2) (pa_cons (pe_bltn (v := .ty "int") (by rfl) T.int (by decide +kernel) rfl) pa_nil))))) (pw_or1 (pt_val (pe_callB (call_isiK' K) (by rfl) T.isinstance (by decide +kernel) (pa_cons (pv 2) (pa_cons (pe_bltn (v := .ty "bool") (by rfl) T.bool (by decide +kernel) rfl) pa_nil)))))))
            (pss_one (ps_ret pe_bl))
            pss_nil)))
      (pss_one (ps_ret pe_bl)))), ?_⟩
  obtain ⟨T0, t1, t2⟩ := hd.tyT (K := K)
  refine ⟨_, rfl, _, _, _, _, _, rfl, .ty "tuple", t1, kit_ty t2, _, rfl, ?_⟩
  rcases hd.tupOr with ⟨p, xs, ds, rfl, rfl, hp, hx⟩ | no
  · refine iteF ?_
    have lx := hx.len
    have l2 := hl ds rfl
    refine ⟨_, rfl, p, xs, rfl, .inr (.inl (.inl hp)), _, rfl, rfl, _, rfl, ?_⟩
    by_cases e : ds.length = n
    · refine iteNN (by rw [lx, e]) ?_
      refine ⟨_, rfl, p, rfl, ⟨_, .inl (.inl hp)⟩, ?_⟩
      refine for_tup (K := K) (a := p) (xs := xs) (fun j σ HX => ∃ y2, σ = [some (.ref p), some (.int (n : Nat)), y2] ∧ HX = H ∧ (ds.take j).all isIntD = true) ⟨none, rfl, rfl, rfl⟩ (fun j σ HX _ pp => ?_) (fun j x σ HX hx2 pp => ?_) (fun σ HX pp => ?_)
      · obtain ⟨_, _, rfl, _⟩ := pp
        exact .inl (.inl hp)
      · obtain ⟨y2, rfl, rfl, ok⟩ := pp
        obtain ⟨d', k1, k2⟩ := hx.get hx2
        have ej : ds.take (j + 1) = ds.take j ++ [d'] := by rw [List.take_add_one, k1]; rfl
        have bad : isIntD d' = false → wholesD (.tuple ds) n = false := fun h => by
          show (decide (ds.length = n) && ds.all isIntD) = false
          rw [show ds.all isIntD = false from List.all_eq_false.mpr ⟨d', List.mem_of_getElem? k1, by rw [h]; simp⟩, Bool.and_false]
        have good : isIntD d' = true → (ds.take (j + 1)).all isIntD = true := fun h => by
          rw [ej, List.all_append, ok, Bool.true_and]
          show (isIntD d' && true) = true
          rw [h]
          rfl
        have q0 := q HX (Same.refl _)
        dsimp only [gName]
        cases k2 with
        | non => rw [bad rfl] at q0; exact ⟨_, rfl, _, _, _, _, false, rfl, .ty "int", .base .non, kit_ty (by decide +kernel), false, rfl, iteT q0⟩
        | str z => rw [bad rfl] at q0; exact ⟨_, rfl, _, _, _, _, false, rfl, .ty "int", .base (.str z), kit_ty (by decide +kernel), false, rfl, iteT q0⟩
        | lst h1 => rw [bad rfl] at q0; exact ⟨_, rfl, _, _, _, _, false, rfl, .ty "int", .base (.lst h1), kit_ty (by decide +kernel), false, rfl, iteT q0⟩
        | tup h1 => rw [bad rfl] at q0; exact ⟨_, rfl, _, _, _, _, false, rfl, .ty "int", .base (.tup h1), kit_ty (by decide +kernel), false, rfl, iteT q0⟩
        | bl b => rw [bad rfl] at q0; exact ⟨_, rfl, _, _, _, _, true, rfl, .ty "int", .base (.bl b), kit_ty (by decide +kernel), true, rfl, iteF ⟨_, rfl, _, _, _, _, true, rfl, .ty "bool", .base (.bl b), kit_ty (by decide +kernel), true, rfl, iteT q0⟩⟩
        | int i => exact ⟨_, rfl, _, _, _, _, true, rfl, .ty "int", .base (.int i), kit_ty (by decide +kernel), true, rfl, iteF ⟨_, rfl, _, _, _, _, false, rfl, .ty "bool", .base (.int i), kit_ty (by decide +kernel), false, rfl, iteF ⟨_, rfl, rfl, good rfl⟩⟩⟩
      · obtain ⟨y2, rfl, rfl, ok⟩ := pp
        rw [lx, List.take_length] at ok
        have := q HX (Same.refl _)
        rw [show wholesD (.tuple ds) n = true by
          show (decide (ds.length = n) && ds.all isIntD) = true
          rw [decide_eq_true e, ok]
          rfl] at this
        exact this
    · refine iteNY (by rw [lx]; exact fun z => e (by injection z with z; omega)) ?_
      have := q H (Same.refl _)
      rw [show wholesD (.tuple ds) n = false by
        show (decide (ds.length = n) && ds.all isIntD) = false
        rw [decide_eq_false e]
        rfl] at this
      exact this
  · rw [no]
    have := q H (Same.refl _)
    rw [wholesD_tup no] at this
    exact iteT this
end
end Lx
namespace Lx
open PySem PySem.Spec PyProof.Rows L2 Ub Ur Ug Ue Up Uo Ve Va
section
variable {P : Program} {w : World} {K : PySem.W.Frag} {mg : Str → Option Value} {base : Heap}
theorem no_size {k : Nat} {f : Addr} {fd : FuncData} {x : Str} : FnOk P w K mg base CX0 k f fd [x] (sp_size 0) :=
  ⟨fun vs H Q E h => by obtain ⟨t, v, rfl, _⟩ := h; rfl, fun A outer s H args us vs Q E _ _ _ _ h => by
    obtain ⟨t, v, _, _, h, _⟩ := h
    exact absurd h (Nat.not_lt_zero _)⟩
theorem sz_lc {D : Addr} {zs : List V} {l : List (Str × Tr)} {HX : Hp} {Q : VK} {k : Int} {f : Tr → Nat} {a0 y2 y3 y4 y5 : Option V} (eZ : HX D = some (.lst zs)) (hz : SzsAt HX l zs) (lz : zs.length ≤ 1000) (hk : ∀ t : Tr, atI [V.int (t.recs : Nat), .int (t.plains : Nat), .int (t.depth : Nat)] k = some (.int (f t : Nat)))
    (q : ∀ E HY, Same HX HY → HY E = some (.lst ((l.map fun m => ((f m.2 : Nat) : Int)).map V.int)) → Q (.ref E) HY) : tLc (iList K (tVar 1)) (gName 5) tYes (tOp (rIxT K) (tVar 5) (tC (V.int k))) [5] [a0, some (.ref D), y2, y3, y4, y5] HX Q := by
  refine ⟨_, rfl, D, rfl, ⟨_, .inl (.inl eZ)⟩, fun E nE => ?_⟩
  refine lc_list (K := K) (a := D) (xs := zs) (fun j HY => Same HX HY ∧ HY E = some (.lst (((l.take j).map fun m => ((f m.2 : Nat) : Int)).map V.int))) ⟨same_upd nE, upd_same⟩ (fun j HY hj p => .inl (.inl (p.1 _ _ eZ))) (fun j x HY hx p => ?_) (fun HY p => ?_)
  · obtain ⟨sY, eE⟩ := p
    have hj : j < l.length := by rw [← hz.1]; exact (List.getElem?_eq_some_iff.mp hx).1
    obtain ⟨m, hm⟩ : ∃ m, l[j]? = some m := ⟨_, List.getElem?_eq_getElem hj⟩
    obtain ⟨p, g1, g2⟩ := hz.2 j m hm
    rw [g1] at hx
    cases hx
    refine ⟨rfl, _, rfl, p, _, k, .int (f m.2 : Nat), rfl, rfl, .inl (.inl (sY _ _ g2)), hk m.2, ?_⟩
    refine ⟨_, eE, Nat.lt_of_le_of_lt (show _ ≤ 1000 by rw [List.length_map, List.length_map, List.length_take]; have := hz.1; omega) (by decide), same_mut sY nE, ?_⟩
    rw [upd_same, List.take_add_one, hm, List.map_append, List.map_append]
    rfl
  · obtain ⟨sY, eE⟩ := p
    rw [hz.1, List.take_length] at eE
    exact q E HY sY eE
theorem sc_law_size : FnScope ["_law_tree_here", "_law_sizes", "_law_records", "_law_plains", "_law_pair", "_law_size_here"] ["_law_tree_here"] (defScope s_law_size) := ⟨rfl, rfl, rfl, by decide +kernel, rfl, by decide +kernel, by decide +kernel⟩
theorem ok_law_size {f : Addr} {fd : FuncData} (F : FunD K "_law_size" "_law_size" (defArgs s_law_size) (defBody s_law_size) (defScope s_law_size) [] [] f fd) (T : Tx K mg) (hm : mg "_law_size" = some (.ref f)) (hb : Binds K fd ["_law_tree_here"] []) : ∀ d, FnOk P w K mg base CX0 d f fd ["_law_tree_here"] (sp_size d)
  | 0 => no_size
  | d + 1 => by
    have c_law_size : Cal P w K mg base d "_law_size" ["_law_tree_here"] (sp_size d) := ⟨f, fd, ok_law_size F T hm hb d, hm, F.kp, hb⟩
    refine F.ok sc_law_size (fun vs H Q E h => by obtain ⟨t, v, rfl, _⟩ := h; rfl) (fun cdv A outer s H vs Q E hr h => ?_)
    obtain ⟨t, v, rfl, ht, hd, hsz, q⟩ := h
    refine ⟨_, PSs.nox (pss_cons (ps_if (pt_cmpR (op_eq_nilK K hr.units0) (pv 0) (pe_tup pa_nil) (nomark _))
        (pss_one (ps_ret (pe_tup (pa_cons pe_int (pa_cons pe_int (pa_cons pe_int pa_nil))))))
        pss_nil)
      (pss_cons (ps_setLc (i := 1) (own := [("_law_pair", 4)]) (by rfl) sc_law_size.nd rfl rfl (sw_true rfl rfl rfl (by decide +kernel)) (pi_tupK K (pv 0)) (blkOk_by (N := ["_law_tree_here", "_law_sizes", "_law_records", "_law_plains", "_law_pair", "_law_size_here"]) (sc := (defScope s_law_size)) (by decide +kernel)) (fun _ _ _ _ _ => (pg_name (i := 4) sc_law_size.nd rfl (by first | exact Or.inl rfl | exact Or.inr rfl))) (fun _ _ _ _ _ => pts_nil) (fun _ _ _ _ _ => (pe_cal c_law_size (hr.mono (by omega)) (by rfl) (pa_cons (pe_ix (ix_tupK K) (pv 4) pe_int (fun _ _ => rfl)) pa_nil))))
      (pss_cons (ps_set (i := 2) sc_law_size.nd rfl (by first | exact Or.inl rfl | exact Or.inr rfl) (pe_op op_add pe_int (pe_callB (cr_sumK K rfl) (by rfl) T.sum (by decide +kernel) (pa_cons (pe_lc (own := [("_law_size_here", 5)]) (by rfl) sc_law_size.nd (pi_listK K (pv 1)) (blkOk_by (N := ["_law_tree_here", "_law_sizes", "_law_records", "_law_plains", "_law_pair", "_law_size_here"]) (sc := (defScope s_law_size)) (by decide +kernel)) (fun _ _ _ _ _ => (pg_name (i := 5) sc_law_size.nd rfl (by first | exact Or.inl rfl | exact Or.inr rfl))) (fun _ _ _ _ _ => pts_nil) (fun _ _ _ _ _ => (pe_ix (ix_tupK K) (pv 5) pe_int (fun _ _ => rfl)))) pa_nil))))
      (pss_cons (ps_set (i := 3) sc_law_size.nd rfl (by first | exact Or.inl rfl | exact Or.inr rfl) (pe_callB (cr_sumK K rfl) (by rfl) T.sum (by decide +kernel) (pa_cons (pe_lc (own := [("_law_size_here", 5)]) (by rfl) sc_law_size.nd (pi_listK K (pv 1)) (blkOk_by (N := ["_law_tree_here", "_law_sizes", "_law_records", "_law_plains", "_law_pair", "_law_size_here"]) (sc := (defScope s_law_size)) (by decide +kernel)) (fun _ _ _ _ _ => (pg_name (i := 5) sc_law_size.nd rfl (by first | exact Or.inl rfl | exact Or.inr rfl))) (fun _ _ _ _ _ => pts_nil) (fun _ _ _ _ _ => (pe_ix (ix_tupK K) (pv 5) pe_int (fun _ _ => rfl)))) pa_nil)))
      (pss_one (ps_ret (pe_tup (pa_cons (pv 2) (pa_cons (pv 3) (pa_cons (pe_op op_add pe_int (pe_callB (cr_maxK K rfl) (by rfl) T.max (by decide +kernel) (pa_cons (pe_lc (own := [("_law_size_here", 5)]) (by rfl) sc_law_size.nd (pi_listK K (pv 1)) (blkOk_by (N := ["_law_tree_here", "_law_sizes", "_law_records", "_law_plains", "_law_pair", "_law_size_here"]) (sc := (defScope s_law_size)) (by decide +kernel)) (fun _ _ _ _ _ => (pg_name (i := 5) sc_law_size.nd rfl (by first | exact Or.inl rfl | exact Or.inr rfl))) (fun _ _ _ _ _ => pts_nil) (fun _ _ _ _ _ => (pe_ix (ix_tupK K) (pv 5) pe_int (fun _ _ => rfl)))) pa_nil))) pa_nil)))))))))), ?_⟩
    obtain ⟨a, ps, rfl, ha, hf⟩ := ht
    have hl := hf.len
    have hfl := t.fields_len
    refine ⟨_, rfl, Nat.zero_le _, fun e ne => ?_⟩
    have s3 := same_upd (o := .tup []) ne
    refine ⟨a, e, ps, rfl, rfl, .inl (.inl (s3 _ _ ha)), .inl (.inl upd_same), _, rfl, ?_⟩
    refine iteE hf.nil_iff (fun e0 => ?_) (fun e0 => ?_)
    · refine ⟨by show 3 ≤ sizeLine; decide, fun p np => ?_⟩
      refine q p _ (s3.trans (same_upd np)) ?_
      rw [upd_same, Tr.nil_of e0]
      rfl
    have e0 : t.isNil = false := by simpa using e0
    dsimp only [tNext]
    refine ⟨_, rfl, a, rfl, ⟨_, .inl (.inl (s3 _ _ ha))⟩, fun D hD => ?_⟩
    have s5 := s3.trans (same_upd (o := .lst []) hD)
    refine lc_tup (K := K) (a := a) (xs := ps) (fun j HX => Same H HX ∧ ∃ zs, HX D = some (.lst zs) ∧ SzsAt HX (t.fields.take j) zs) ⟨s5, [], upd_same, rfl, fun i m e => by simp at e⟩ (fun j HX hj p => .inl (.inl (p.1 _ _ ha))) (fun j x HX hx p => ?_) (fun HX p => ?_)
    · obtain ⟨sX, zs, eZ, hz⟩ := p
      have hj : j < t.fields.length := by rw [← hl]; exact (List.getElem?_eq_some_iff.mp hx).1
      obtain ⟨m, hm⟩ : ∃ m, t.fields[j]? = some m := ⟨_, List.getElem?_eq_getElem hj⟩
      obtain ⟨p, q', g1, g2, g3⟩ := hf.get hm
      rw [g1] at hx
      cases hx
      have dl := Tr.depth_lt (List.mem_of_getElem? hm)
      have sl := Tr.size_mem (List.mem_of_getElem? hm)
      refine ⟨rfl, _, rfl, p, _, 1, q', rfl, rfl, .inl (.inl (sX _ _ g2)), rfl, m.2, q', rfl, g3.same sX, by omega, by omega, fun pz HY sY eY => ?_⟩
      have lz : zs.length ≤ 1000 := by rw [hz.1, List.length_take]; omega
      refine ⟨_, sY _ _ eZ, Nat.lt_of_le_of_lt lz (by decide), same_mut (sX.trans sY) (s3.free hD), zs ++ [.ref pz], upd_same, ?_⟩
      rw [List.take_add_one, hm]
      have hz2 := (hz.same sY).snoc (m := m) eY
      exact ⟨hz2.1, fun i m' e => (hz2.2 i m' e).imp fun p hp => ⟨hp.1, mut_tups (sY _ _ eZ) _ _ hp.2⟩⟩
    obtain ⟨sX, zs, eZ, hz⟩ := p
    rw [hl, List.take_length] at hz
    have lz : zs.length ≤ 1000 := by rw [hz.1]; omega
    dsimp only [gName]
    dsimp only [tSeq, tAsg, tOp, tC, tCB, tCons]
    refine sz_lc (f := Tr.recs) (k := 0) eZ hz lz (fun t => rfl) fun E1 HY s1 e1 => ?_
    refine ⟨E1, _, rfl, .inl (.inl e1), _, _, rfl, rfl, ?_⟩
    have er : (1 : Int) + (t.fields.map fun m => ((m.2.recs : Nat) : Int)).sum = ((t.recs : Nat) : Int) := by
      rw [sum_castF Tr.recs, recs_fs e0]
      omega
    dsimp only
    rw [er]
    dsimp only [gName, tSeq, tAsg, tOp, tC, tCB, tCons]
    have hz1 := hz.same s1
    refine sz_lc (f := Tr.plains) (k := 1) (s1 _ _ eZ) hz1 lz (fun t => rfl) fun E2 HW s2 e2 => ?_
    refine ⟨E2, _, rfl, .inl (.inl e2), ?_⟩
    have ep : (t.fields.map fun m => ((m.2.plains : Nat) : Int)).sum = ((t.plains : Nat) : Int) := by
      rw [sum_castF Tr.plains, plains_fs e0]
    rw [ep]
    dsimp only [gName, tRet, tTup, tSeq, tAsg, tOp, tC, tCB, tCons]
    refine ⟨_, rfl, _, rfl, ?_⟩
    have hz2 := hz1.same s2
    refine sz_lc (f := Tr.depth) (k := 2) (s2 _ _ (s1 _ _ eZ)) hz2 lz (fun t => rfl) fun E3 HV s4 e3 => ?_
    have hne : 0 < t.fields.length := by
      cases h : t.fields with
      | nil =>
        have := Tr.of_fields t
        rw [h] at this
        rw [← this] at e0
        cases e0
      | cons x r => exact Nat.succ_pos _
    refine ⟨E3, _, rfl, .inl (.inl e3), by rw [List.length_map]; exact hne, fun m hm hl => ?_⟩
    have em : m = (((t.fields.map fun p => p.2.depth).foldl max 0 : Nat) : Int) := max_of (l := t.fields.map fun p => p.2.depth) (by rw [List.length_map]; exact hne) (by rw [List.map_map]; exact hm) (fun y hy => hl y (by rw [List.map_map] at hy; exact hy))
    refine ⟨_, _, rfl, rfl, by show 3 ≤ sizeLine; decide, fun p np => ?_⟩
    have ed : (1 : Int) + m = ((t.depth : Nat) : Int) := by rw [em, depth_fs e0]; omega
    dsimp only
    rw [ed]
    exact q p _ ((((sX.trans s1).trans s2).trans s4).trans (same_upd np)) upd_same
end
end Lx
namespace Lx
open PySem PySem.Spec PyProof.Rows L2 Ub Ur Ug Ue Up Uo Ve Va Vk Wb Pt Gr Sb Rw Ni
section
variable {P : Program} {w : World} {K : PySem.W.Frag} {mg : Str → Option Value} {base : Heap}
theorem no_places {k : Nat} {f : Addr} {fd : FuncData} {x y z : Str} : FnOk P w K mg base CX0 k f fd [x, y, z] (sp_places 0) :=
  ⟨fun vs H Q E h => by obtain ⟨_, _, _, _, _, _, rfl, _⟩ := h; rfl, fun A outer s H args us vs Q E _ _ _ _ h => by
    obtain ⟨_, _, _, _, _, _, _, _, _, h, _⟩ := h
    exact absurd h (Nat.not_lt_zero _)⟩
theorem sc_law_places : FnScope ["_law_tree_here", "_law_records", "_law_integers", "_law_found", "_law_first", "_law_low", "_law_pair", "_law_size_here", "_law_last", "_law_high", "_law_inside", "_law_below_here"] ["_law_tree_here", "_law_records", "_law_integers"] (defScope s_law_places) := ⟨rfl, rfl, rfl, by decide +kernel, rfl, by decide +kernel, by decide +kernel⟩
theorem ok_law_places {f : Addr} {fd : FuncData} (F : FunD K "_law_places" "_law_places" (defArgs s_law_places) (defBody s_law_places) (defScope s_law_places) [] [] f fd) (T : Tx K mg) (hm : mg "_law_places" = some (.ref f)) (hb : Binds K fd ["_law_tree_here", "_law_records", "_law_integers"] []) (c4 : Cal P w K mg base 4 "_law_size" ["_law_tree_here"] (sp_size 4)) : ∀ d, FnOk P w K mg base CX0 (d + 4) f fd ["_law_tree_here", "_law_records", "_law_integers"] (sp_places d)
  | 0 => no_places
  | d + 1 => by
    have c_law_places : Cal P w K mg base (d + 4) "_law_places" ["_law_tree_here", "_law_records", "_law_integers"] (sp_places d) := ⟨f, fd, ok_law_places F T hm hb c4 d, hm, F.kp, hb⟩
    have c_law_size := c4
    refine F.ok sc_law_places (fun vs H Q E h => by obtain ⟨_, _, _, _, _, _, rfl, _⟩ := h; rfl) (fun cdv A outer s H vs Q E hr h => ?_)
    obtain ⟨t, v, ra, ib, rs, is, rfl, ht, gt, hd, hra, hib, lrs, lis, q⟩ := h
    refine ⟨_, PSs.nox (pss_cons (ps_if (pt_cmpR (op_eq_nilK K hr.units0) (pv 0) (pe_tup pa_nil) (nomark _))
        (pss_one (ps_ret (pe_lst pa_nil)))
        pss_nil)
      (pss_cons (ps_set (i := 3) sc_law_places.nd rfl (by first | exact Or.inl rfl | exact Or.inr rfl) (pe_lst (pa_cons (pe_tup (pa_cons (pv 0) (pa_cons (pv 1) (pa_cons (pv 2) pa_nil)))) pa_nil)))
      (pss_cons (ps_asg (pe_tup (pa_cons pe_int (pa_cons pe_int pa_nil))) (pg_tupK K (n := 2) rfl (pgs_cons (pg_name (i := 4) sc_law_places.nd rfl (by first | exact Or.inl rfl | exact Or.inr rfl)) (pgs_cons (pg_name (i := 5) sc_law_places.nd rfl (by first | exact Or.inl rfl | exact Or.inr rfl)) pgs_nil))))
      (pss_cons (ps_for PassesOwn.never rfl (pi_tupK K (pv 0)) (pg_name (i := 6) sc_law_places.nd rfl (by first | exact Or.inl rfl | exact Or.inr rfl))
        (pss_cons (ps_set (i := 7) sc_law_places.nd rfl (by first | exact Or.inl rfl | exact Or.inr rfl) (pe_cal c_law_size (hr.mono (by omega)) (by rfl) (pa_cons (pe_ix (ix_tupK K) (pv 6) pe_int (fun _ _ => rfl)) pa_nil)))
          (pss_cons (ps_par (i := 8) (j := 9) (by rfl) sc_law_places.nd rfl rfl (by decide) rfl rfl (pa_cons (pe_op op_add (pv 4) (pe_ix (ix_tupK K) (pv 7) pe_int (fun _ _ => rfl))) (pa_cons (pe_op op_add (pv 5) (pe_ix (ix_tupK K) (pv 7) pe_int (fun _ _ => rfl))) pa_nil)) (by rfl))
          (pss_cons (ps_set (i := 10) sc_law_places.nd rfl (by first | exact Or.inl rfl | exact Or.inr rfl) (pe_slice (sl_tupAK K) (pv 1) (po_some (pv 4)) (po_some (pv 8))))
          (pss_cons (ps_set (i := 11) sc_law_places.nd rfl (by first | exact Or.inl rfl | exact Or.inr rfl) (pe_slice (sl_tupAK K) (pv 2) (po_some (pv 5)) (po_some (pv 9))))
          (pss_cons (ps_set (i := 3) sc_law_places.nd rfl (by first | exact Or.inl rfl | exact Or.inr rfl) (pe_op op_cat (pv 3) (pe_cal c_law_places (hr.mono (by omega)) (by rfl) (pa_cons (pe_ix (ix_tupK K) (pv 6) pe_int (fun _ _ => rfl)) (pa_cons (pv 10) (pa_cons (pv 11) pa_nil))))))
          (pss_one (ps_par (i := 4) (j := 5) (by rfl) sc_law_places.nd rfl rfl (by decide) rfl rfl (pa_cons (pv 8) (pa_cons (pv 9) pa_nil)) (by rfl)))))))))
      (pss_one (ps_ret (pv 3))))))), ?_⟩
    obtain ⟨a, us, rfl, ha, hf⟩ := id ht
    have lp := hf.len
    have md := (good_has gt).1
    refine ⟨_, rfl, Nat.zero_le _, fun e ne => ?_⟩
    have s1 := same_upd (o := .tup []) ne
    refine ⟨a, e, us, rfl, rfl, .inl (.inl (s1 _ _ ha)), .inl (.inl upd_same), _, rfl, ?_⟩
    refine iteE hf.nil_iff (fun e0 => ?_) (fun e0 => ?_)
    · refine ⟨Nat.zero_le _, fun D nD => q D [] _ (s1.trans (same_upd nD)) (s1.free nD) upd_same ?_⟩
      rw [Tr.nil_of e0]
      exact ⟨rfl, fun i v m h => nomatch h⟩
    have e0 : t.isNil = false := by simpa using e0
    dsimp only [tNext]
    refine ⟨_, rfl, _, rfl, _, rfl, Nat.le_of_ble_eq_true rfl, fun p0 np0 => ⟨Nat.le_of_ble_eq_true rfl, fun D0 nD0 => ?_⟩⟩
    have s2 := (s1.trans (same_upd (o := .tup [.ref a, .ref ra, .ref ib]) np0)).trans (same_upd (o := .lst [.ref p0]) nD0)
    have nDH : H D0 = none := (s1.trans (same_upd (o := .tup [.ref a, .ref ra, .ref ib]) np0)).free nD0
    have eP0 := same_upd (o := .lst [.ref p0]) nD0 _ _ (show (upd (upd H e (.tup [])) p0 (.tup [.ref a, .ref ra, .ref ib])) p0 = some (.tup [.ref a, .ref ra, .ref ib]) from upd_same)
    have eD0 : (upd (upd (upd H e (.tup [])) p0 (.tup [.ref a, .ref ra, .ref ib])) D0 (.lst [.ref p0])) D0 = some (.lst [.ref p0]) := upd_same
    generalize upd (upd (upd H e (.tup [])) p0 (.tup [.ref a, .ref ra, .ref ib])) D0 (.lst [.ref p0]) = H2 at *
    have pl0 : PlsAt H2 [(t, rs, is)] [.ref p0] := ⟨rfl, fun i v m h1 h2 => by
      cases i with
      | zero =>
        cases h1
        cases h2
        exact ⟨p0, ra, ib, .ref a, rfl, eP0, ht.same s2, s2 _ _ hra, s2 _ _ hib⟩
      | succ k => cases h1⟩
    dsimp only [gName]
    refine ⟨Nat.le_of_ble_eq_true rfl, fun p1 np1 => ?_⟩
    have s3 := same_upd (o := .tup [.int 1, .int 0]) np1
    refine ⟨p1, _, rfl, .inl (.inl upd_same), rfl, _, _, rfl, _, _, rfl, rfl, ?_⟩
    dsimp only
    have s4 := s2.trans s3
    have eD4 := s3 _ _ eD0
    have pl4 := pl0.tups fun c xs e => s3 _ _ e
    generalize upd H2 p1 (.tup [.int 1, .int 0]) = H4 at *
    clear s1 s2 s3 eP0 eD0 pl0 np1 ne np0 nD0
    refine ⟨_, rfl, a, rfl, ⟨_, .inl (.inl (s4 _ _ ha))⟩, ?_⟩
    have et : Ni.plT t rs is = (t, rs, is) :: plFs t.fields (rs.drop 1) is := by
      unfold Ni.plT
      rw [e0, if_neg (by simp), plF_fs]
    refine for_tup (K := K) (a := a) (xs := us) (fun j σ HX => ∃ (D : Addr) (vs : List V) (y6 y7 y8 y9 y10 y11 : Option V), σ = [some (.ref a), some (.ref ra), some (.ref ib), some (.ref D), some (.int ((1 + ((t.fields.take j).map fun p => p.2.recs).sum : Nat) : Int)), some (.int ((((t.fields.take j).map fun p => p.2.plains).sum : Nat) : Int)), y6, y7, y8, y9, y10, y11] ∧ Same H HX ∧ H D = none ∧ HX D = some (.lst vs) ∧ PlsAt HX ((t, rs, is) :: plFs (t.fields.take j) (rs.drop 1) is) vs) ⟨D0, _, _, _, _, _, _, _, rfl, s4, nDH, eD4, pl4⟩ (fun j σ HX _ pp => ?_) (fun j v σ HX hx pp => ?_) (fun σ HX pp => ?_)
    · obtain ⟨_, _, _, _, _, _, _, _, _, sX, _⟩ := pp
      exact .inl (.inl (sX _ _ ha))
    rotate_left
    · obtain ⟨D, vs, _, _, _, _, _, _, rfl, sX, nD, eD, pl⟩ := pp
      rw [lp, List.take_length, ← et] at pl
      exact ⟨_, rfl, q D vs HX sX nD eD pl⟩
    obtain ⟨D, vs, y6, y7, y8, y9, y10, y11, rfl, sX, nD, eD, pl⟩ := pp
    have hj : j < t.fields.length := by rw [← lp]; exact (List.getElem?_eq_some_iff.mp hx).1
    obtain ⟨fl, hfl⟩ : ∃ fl, t.fields[j]? = some fl := ⟨_, List.getElem?_eq_getElem hj⟩
    obtain ⟨p, q', g1, g2, g3⟩ := hf.get hfl
    rw [g1] at hx
    cases hx
    have gm : good fl.2 := ((good_fields gt).1 fl (List.mem_of_getElem? hfl)).1
    have dl := Tr.depth_lt (List.mem_of_getElem? hfl)
    have ej : t.fields.take (j + 1) = t.fields.take j ++ [fl] := by rw [List.take_add_one, hfl]; rfl
    have sr : ((t.fields.take (j + 1)).map fun p => p.2.recs).sum = ((t.fields.take j).map fun p => p.2.recs).sum + fl.2.recs := by rw [ej, List.map_append, List.sum_append]; rfl
    have sp : ((t.fields.take (j + 1)).map fun p => p.2.plains).sum = ((t.fields.take j).map fun p => p.2.plains).sum + fl.2.plains := by rw [ej, List.map_append, List.sum_append]; rfl
    have tr1 := take_sum (f := fun p : Str × Tr => p.2.recs) (l := t.fields) (j + 1)
    have tp1 := take_sum (f := fun p : Str × Tr => p.2.plains) (l := t.fields) (j + 1)
    rw [← Tr.srec_eq] at tr1
    rw [← Tr.spla_eq] at tp1
    have trr : t.recs = 1 + t.srec := by unfold Tr.recs; rw [e0]; rfl
    have tpp : t.plains = t.spla := by unfold Tr.plains; rw [e0]; rfl
    have lvs : vs.length ≤ 100 := by
      rw [pl.1]
      have h1 : ((t, rs, is) :: plFs (t.fields.take j) (rs.drop 1) is).length ≤ (Ni.plT t rs is).length := by
        rw [et, List.length_cons, List.length_cons]
        conv => rhs; rw [← List.take_append_drop j t.fields]
        have : ∀ (l m : List (Str × Tr)) (x y : List Int), (plFs l x y).length ≤ (plFs (l ++ m) x y).length := by
          intro l
          induction l with
          | nil => exact fun m x y => Nat.zero_le _
          | cons f l ih =>
            intro m x y
            show (plT _ _ _ ++ plFs l _ _).length ≤ (plT _ _ _ ++ plFs (l ++ m) _ _).length
            rw [List.length_append, List.length_append]
            have := ih m (x.drop f.2.recs) (y.drop f.2.plains)
            omega
        have := this (t.fields.take j) (t.fields.drop j) (rs.drop 1) is
        omega
      rw [plT_len.1] at h1
      have : t.recs ≤ 5 := gt.2.1
      omega
    have gm2 := good_has gm
    dsimp only [gName]
    refine ⟨_, rfl, p, _, 1, q', rfl, rfl, .inl (.inl (sX _ _ g2)), rfl, fl.2, q', rfl, g3.same sX, by omega, by omega, fun ps H5 s5 e5 => ?_⟩
    dsimp only [gName]
    refine ⟨_, rfl, _, rfl, ps, _, 0, .int (fl.2.recs : Nat), rfl, rfl, .inl (.inl e5), rfl, _, _, rfl, rfl, _, rfl, _, rfl, ps, _, 1, .int (fl.2.plains : Nat), rfl, rfl, .inl (.inl e5), rfl, _, _, rfl, rfl, ?_⟩
    obtain ⟨R, hR⟩ : ∃ R, ((t.fields.take j).map fun p => p.2.recs).sum = R := ⟨_, rfl⟩
    obtain ⟨Pn, hP⟩ : ∃ R, ((t.fields.take j).map fun p => p.2.plains).sum = R := ⟨_, rfl⟩
    rw [sr, sp, hR, hP]
    rw [sr, hR] at tr1
    rw [sp, hP] at tp1
    refine ⟨_, _, rfl, ?_⟩
    have eh1 : (((1 + R : Nat) : Int) + (fl.2.recs : Nat)) = ((1 + R + fl.2.recs : Nat) : Int) := by omega
    have eh2 : (((Pn : Nat) : Int) + (fl.2.plains : Nat)) = ((Pn + fl.2.plains : Nat) : Int) := by omega
    dsimp only
    rw [eh1, eh2]
    have c1 : cutV (rs.map V.int) (some ((1 + R : Nat) : Int)) (some ((1 + R + fl.2.recs : Nat) : Int)) = (((rs.drop 1).drop R).take fl.2.recs).map V.int := by
      rw [Up.cut_mid (by omega) (by rw [List.length_map]; omega), List.drop_drop, List.map_take, List.map_drop]
      congr 1
      omega
    have c2 : cutV (is.map V.int) (some ((Pn : Nat) : Int)) (some ((Pn + fl.2.plains : Nat) : Int)) = ((is.drop Pn).take fl.2.plains).map V.int := by
      rw [Up.cut_mid (by omega) (by rw [List.length_map]; omega), List.map_take, List.map_drop]
      congr 1
      omega
    have s5X := sX.trans s5
    refine ⟨_, rfl, _, rfl, _, rfl, _, rfl, _, rfl, sl_any (s5X _ _ hra) c1 fun pa H6 s6 e6 _ => ?_⟩
    dsimp only [gName]
    have s6X := s5X.trans s6
    refine ⟨_, rfl, _, rfl, _, rfl, _, rfl, _, rfl, sl_any (s6X _ _ hib) c2 fun pb H7 s7 e7 _ => ?_⟩
    dsimp only [gName]
    have s7X := s6X.trans s7
    have s57 := (s5.trans s6).trans s7
    refine ⟨_, rfl, _, rfl, p, _, 1, q', rfl, rfl, .inl (.inl (s7X _ _ g2)), rfl, _, rfl, _, rfl, ?_⟩
    refine ⟨fl.2, q', pa, pb, _, _, rfl, g3.same s7X, gm, by omega, s7 _ _ e6, e7, by rw [List.length_take, List.length_drop, List.length_drop]; omega, by rw [List.length_take, List.length_drop]; omega, fun D2 ps2 H8 s8 nD2 eD2 pl2 => ?_⟩
    have s58 := s57.trans s8
    have l2 : ps2.length ≤ 5 := by
      rw [pl2.1, plT_len.1]
      exact gm.2.1
    refine ⟨D, D2, _, _, rfl, rfl, s58 _ _ eD, eD2, Nat.le_trans (show _ ≤ 105 by omega) (by decide), fun D3 nD3 => ?_⟩
    have s9 := same_upd (o := .lst (vs ++ ps2)) nD3
    have nD3H : H D3 = none := (sX.trans s58).free nD3
    dsimp only [gName]
    refine ⟨_, rfl, _, rfl, _, _, rfl, ?_⟩
    dsimp only
    refine ⟨D3, vs ++ ps2, some (.ref p), some (.ref ps), some (.int ((1 + R + fl.2.recs : Nat) : Int)), some (.int ((Pn + fl.2.plains : Nat) : Int)), some (.ref pa), some (.ref pb), ?_, (sX.trans s58).trans s9, nD3H, upd_same, ?_⟩
    · rw [show 1 + (R + fl.2.recs) = 1 + R + fl.2.recs by omega]
      rfl
    · rw [ej, plFs_snoc, hR, hP]
      exact PlsAt.app (pl.tups fun c xs e => s9 _ _ (s58 _ _ e)) (pl2.tups fun c xs e => s9 _ _ e)
end
section
variable {P : Program} {w : World} {K : PySem.W.Frag} {mg : Str → Option Value} {base : Heap}
theorem sc_spans_of : FnScope ["shape", "found", "records", "plains", "below"] ["shape"] (defScope s_spans_of) := ⟨rfl, rfl, rfl, by decide +kernel, rfl, by decide +kernel, by decide +kernel⟩
theorem ok_spans_of {f : Addr} {fd : FuncData} (F : FunD K "spans_of" "spans_of" (defArgs s_spans_of) (defBody s_spans_of) (defScope s_spans_of) [] [] f fd) (T : Tx K mg) (p_Shape_is_plain : CalP P w K mg base 1 (He.ga K "Shape") "is_plain" (sp_shP (He.ga K "Shape") fun t => .bl t.isNil)) (p_Shape_plains : CalP P w K mg base 5 (He.ga K "Shape") "plains" (sp_shP (He.ga K "Shape") fun t => .int (t.plains : Nat))) (p_Shape_records : CalP P w K mg base 5 (He.ga K "Shape") "records" (sp_shP (He.ga K "Shape") fun t => .int (t.recs : Nat))) : FnOk P w K mg base CX0 7 f fd ["shape"] (sp_spans (He.ga K "Shape")) := by
  refine F.ok sc_spans_of (fun vs H Q E h => by obtain ⟨_, _, _, rfl, _⟩ := h; rfl) (fun cdv A outer s H vs Q E hr h => ?_)
  obtain ⟨Z, x, gs, rfl, hs, gd, q⟩ := h
  refine ⟨_, PSs.nox (pss_cons (ps_set (i := 1) sc_spans_of.nd rfl (by first | exact Or.inl rfl | exact Or.inr rfl) (pe_lst pa_nil))
      (pss_cons (ps_set (i := 2) sc_spans_of.nd rfl (by first | exact Or.inl rfl | exact Or.inr rfl) pe_int)
      (pss_cons (ps_set (i := 3) sc_spans_of.nd rfl (by first | exact Or.inl rfl | exact Or.inr rfl) pe_int)
      (pss_cons (ps_for PassesOwn.never rfl (pi_listK K (Kw.pe_listVals rfl (pe_fldK K (pv 0) rfl) (by rfl) T.list (by decide +kernel))) (pg_name (i := 4) sc_spans_of.nd rfl (by first | exact Or.inl rfl | exact Or.inr rfl))
        (pss_one (ps_if (pt_val (pe_propP p_Shape_is_plain (hr.mono (by omega)) (pv 4)))
            (pss_one (ps_aug (i := 3) sc_spans_of.nd rfl (by first | exact Or.inl rfl | exact Or.inr rfl) pe_int ip_add))
            (pss_cons (ps_expr (pe_bmK K PySem.F.plainAttrs_list PySem.F.slot_list_append PySem.F.type_list_append mt_append (pv 1) (pa_cons (pe_tup (pa_cons (pe_fldK K (pv 4) rfl) (pa_cons (pv 2) (pa_cons (pe_op op_add (pv 2) (pe_propP p_Shape_records (hr.mono (by omega)) (pv 4))) (pa_cons (pv 3) (pa_cons (pe_op op_add (pv 3) (pe_propP p_Shape_plains (hr.mono (by omega)) (pv 4))) pa_nil)))))) pa_nil)))
              (pss_one (ps_aug (i := 2) sc_spans_of.nd rfl (by first | exact Or.inl rfl | exact Or.inr rfl) pe_int ip_add))))))
      (pss_one (ps_ret (pv 1))))))), ?_⟩
  obtain ⟨⟨dx, tv, na, fa, sa, h1, h2, h3, h4, h5, z1, z2, z3⟩, _⟩ := id hs
  refine ⟨Nat.zero_le _, fun D0 nD0 => ?_⟩
  have sD := same_upd (o := .lst []) nD0
  have eD0 : (upd H D0 (.lst [])) D0 = some (.lst []) := upd_same
  generalize upd H D0 (.lst []) = H1 at *
  dsimp only [gName]
  refine ⟨_, rfl, x, _, dx, _, _, rfl, sD _ _ h1, T.k_Shape, T.n_Shape_spots, rfl, sa, _, rfl, sD _ _ h5, fun L nL => ?_⟩
  rw [spots_eq x (good_W gd), List.map_map]
  have sL := same_upd (o := .lst ((gpaths x gs).map ((fun p => p.2) ∘ ent))) nL
  have eL : (upd H1 L (.lst ((gpaths x gs).map ((fun p => p.2) ∘ ent)))) L = some (.lst ((gpaths x gs).map ((fun p => p.2) ∘ ent))) := upd_same
  have s2 := sD.trans sL
  have eD2 := sL _ _ eD0
  have DL : L ≠ D0 := fun z => by rw [z, eD0] at nL; cases nL
  generalize upd H1 L (.lst ((gpaths x gs).map ((fun p => p.2) ∘ ent))) = H2 at *
  have etr : ∀ j, ((gpaths x gs).take j).map (fun m => m.2.2.tr) = ((paths gs.tr).map (·.2)).take j := fun j => by
    rw [← gpaths_tr x, List.map_map, List.map_take]
    rfl
  have lgp : (gpaths x gs).length ≤ 40 := by
    show (gp gs).length + 1 ≤ 40
    rw [gp_len]
    have := (good_has gd).2.1
    omega
  refine ⟨L, rfl, ⟨_, .inl (.inl eL)⟩, ?_⟩
  refine for_list (K := K) (a := L) (xs := (gpaths x gs).map ((fun p => p.2) ∘ ent)) (fun j σ HX => ∃ (y4 : Option V) (ws : List V), σ = [some (.ref x), some (.ref D0), some (.int (cR (((paths gs.tr).map (·.2)).take j) : Nat)), some (.int (cP (((paths gs.tr).map (·.2)).take j) : Nat)), y4] ∧ Same H HX ∧ HX L = some (.lst ((gpaths x gs).map ((fun p => p.2) ∘ ent))) ∧ HX D0 = some (.lst ws) ∧ SpansAt HX (spF (((paths gs.tr).map (·.2)).take j) 0 0) ws) ⟨none, [], rfl, s2, eL, eD2, rfl, fun i v m e => nomatch e⟩ (fun j σ HX _ pp => ?_) (fun j v σ HX hx pp => ?_) (fun σ HX pp => ?_)
  · obtain ⟨_, _, _, _, h, _⟩ := pp
    exact .inl (.inl h)
  · obtain ⟨y4, ws, rfl, sX, eLX, eDX, hws⟩ := pp
    rw [List.getElem?_map] at hx
    obtain ⟨m, hm, rfl⟩ := Option.map_eq_some_iff.mp hx
    have hmm := List.mem_of_getElem? hm
    have hsh := ShG.kz (fun b o e _ _ => sX b o e) (shg_at hs m hmm)
    have hpm : (m.1, m.2.2.tr) ∈ paths gs.tr := by rw [← gpaths_tr x]; exact List.mem_map.mpr ⟨m, hmm, rfl⟩
    have gm : good m.2.2.tr := (paths_good 3 (good_has gd).1 gd _ hpm).g
    have ej : ((paths gs.tr).map (·.2)).take (j + 1) = ((paths gs.tr).map (·.2)).take j ++ [m.2.2.tr] := by rw [← etr, ← etr, List.take_add_one, hm, List.map_append]; rfl
    have lj : j < 40 := Nat.lt_of_lt_of_le (List.getElem?_eq_some_iff.mp hm).1 lgp
    have lws : ws.length ≤ 40 := by
      rw [hws.1]
      have h1 := spF_len (l := ((paths gs.tr).map (·.2)).take j) (r := 0) (p := 0)
      rw [List.length_take] at h1
      omega
    rw [ej]
    rw [cR_app, cP_app, spF_app]
    dsimp only [gName]
    obtain ⟨dm, tvm, nam, fam, sam, a1, _⟩ := id hsh.1
    refine ⟨_, rfl, m.2.1, dm, _, rfl, a1, m.2.1, m.2.2, Z, rfl, hsh, gm, fun H3 s3 => ⟨_, rfl, ?_⟩⟩
    have a3 := s3 _ _ a1
    have eD3 := s3 _ _ eDX
    have eL3 := s3 _ _ eLX
    have hw3 := hws.tups fun c xs e => s3 _ _ e
    have sX3 := sX.trans s3
    have hs3 := ShG.kz (fun b o e _ _ => s3 b o e) hsh
    have ljR : cR (((paths gs.tr).map (·.2)).take j) ≤ 1000 ∧ cP (((paths gs.tr).map (·.2)).take j) ≤ 1000 := by
      have h1 := cRP_len (((paths gs.tr).map (·.2)).take j)
      rw [List.length_take] at h1
      omega
    rw [Nat.zero_add, Nat.zero_add]
    generalize cR (((paths gs.tr).map (·.2)).take j) = rr at *
    generalize cP (((paths gs.tr).map (·.2)).take j) = pp2 at *
    generalize spF (((paths gs.tr).map (·.2)).take j) 0 0 = l0 at *
    cases e0 : m.2.2.tr.isNil with
    | true =>
      refine (if_pos rfl).mpr ?_
      have c1 : cR [m.2.2.tr] = 0 := by show (if m.2.2.tr.isNil then 0 else 1) + 0 = 0; rw [e0]; rfl
      have c2 : cP [m.2.2.tr] = 1 := by show (if m.2.2.tr.isNil then 1 else 0) + 0 = 1; rw [e0]; rfl
      have c3 : spF [m.2.2.tr] rr pp2 = [] := by show (if m.2.2.tr.isNil then [] else _) = []; rw [e0]; rfl
      rw [c1, c2, c3, List.append_nil]
      refine ⟨_, rfl, ?_⟩
      refine ⟨_, _, rfl, rfl, ?_⟩
      exact ⟨_, ws, rfl, sX3, eL3, eD3, hw3⟩
    | false =>
      refine (if_neg (by simp)).mpr ?_
      have c1 : cR [m.2.2.tr] = 1 := by show (if m.2.2.tr.isNil then 0 else 1) + 0 = 1; rw [e0]; rfl
      have c2 : cP [m.2.2.tr] = 0 := by show (if m.2.2.tr.isNil then 1 else 0) + 0 = 0; rw [e0]; rfl
      have c3 : spF [m.2.2.tr] rr pp2 = [(m.2.2.tr, rr, pp2)] := by show (if m.2.2.tr.isNil then _ else (m.2.2.tr, rr, pp2) :: []) = _; rw [e0]; rfl
      rw [c1, c2, c3]
      refine ⟨_, rfl, .inl ⟨rfl, _, .inl (.inl eD3)⟩, ?_⟩
      refine ⟨_, rfl, m.2.1, _, dm, _, _, rfl, a3, T.k_Shape, T.n_Shape_text, rfl, _, rfl, _, rfl, _, rfl, m.2.1, dm, _, rfl, a3, m.2.1, m.2.2, Z, rfl, hs3, gm, fun H4 s4 => ⟨_, _, rfl, rfl, ?_⟩⟩
      have hs4 := ShG.kz (fun b o e _ _ => s4 b o e) hs3
      have a4 := s4 _ _ a3
      refine ⟨_, rfl, _, rfl, _, rfl, m.2.1, dm, _, rfl, a4, m.2.1, m.2.2, Z, rfl, hs4, gm, fun H5 s5 => ⟨_, _, rfl, rfl, ?_⟩⟩
      refine ⟨Nat.le_of_ble_eq_true rfl, fun b nb => ?_⟩
      have sb := same_upd (o := .tup [.str m.2.2.tr.text, .int (rr : Nat), .int ((rr : Nat) + (m.2.2.tr.recs : Nat) : Int), .int (pp2 : Nat), .int ((pp2 : Nat) + (m.2.2.tr.plains : Nat) : Int)]) nb
      have eb : (upd H5 b (.tup [.str m.2.2.tr.text, .int (rr : Nat), .int ((rr : Nat) + (m.2.2.tr.recs : Nat) : Int), .int (pp2 : Nat), .int ((pp2 : Nat) + (m.2.2.tr.plains : Nat) : Int)])) b = some (.tup [.str m.2.2.tr.text, .int (rr : Nat), .int ((rr : Nat) + (m.2.2.tr.recs : Nat) : Int), .int (pp2 : Nat), .int ((pp2 : Nat) + (m.2.2.tr.plains : Nat) : Int)]) := upd_same
      have s6 := (s4.trans s5).trans sb
      have eD6 := s6 _ _ eD3
      have eL6 := s6 _ _ eL3
      have hw6 := hw3.tups fun c xs e => s6 _ _ e
      have sX6 := sX3.trans s6
      refine ⟨D0, _, _, rfl, rfl, eD6, Nat.lt_of_le_of_lt (show _ ≤ 40 from lws) (by decide), ?_⟩
      generalize upd H5 b _ = H6 at *
      refine ⟨_, rfl, _, _, rfl, rfl, ?_⟩
      refine ⟨_, ws ++ [.ref b], rfl, fun c o e => ?_, ?_, upd_same, ?_⟩
      · rw [upd_ne (ne_of_none e nD0)]
        exact sX6 _ _ e
      · rw [upd_ne DL]
        exact eL6
      · exact (hw6.tups (mut_tups eD6)).snoc ⟨b, rfl, mut_tups eD6 _ _ eb⟩
  · obtain ⟨y4, ws, rfl, sX, eLX, eDX, hws⟩ := pp
    rw [List.length_map, ← List.length_map (f := fun m => (m.1, m.2.2.tr)), gpaths_tr, ← List.length_map (f := (·.2)), List.take_length] at hws
    exact ⟨_, rfl, q D0 ws HX sX nD0 eDX hws⟩
end
end Lx
namespace Ni
open PySem PySem.Spec PyProof.Rows L2 Ub Ur Ug Ue Up Uo Ve Va Vk Wb Pt Gr Sb Rw
def intsOf : PyData → List Int
  | .tuple ds => ds.map fun d => match d with
    | .int i => i
    | _ => 0
  | _ => []
theorem intsOf_ints (is : List Int) : intsOf (intsD is) = is := by
  show (is.map PyData.int).map _ = is
  rw [List.map_map]
  exact List.map_id _
theorem dtvs_ints_out {N : List Addr} {H : Hp} : ∀ {is : List Int} {xs : List V}, DtVs N H xs (is.map PyData.int) → xs = is.map V.int
  | [], _, h => by
    cases h
    rfl
  | i :: is, _, h => by
    cases h with
    | cons h1 h2 =>
      cases h1
      rw [dtvs_ints_out h2]
      rfl
theorem dtv_ints_out {N : List Addr} {H : Hp} {v : V} {is : List Int} (h : DtV N H v (intsD is)) : ∃ a, v = .ref a ∧ H a = some (.tup (is.map V.int)) ∧ a ∉ N := by
  unfold intsD at h
  cases h with
  | tup h1 h2 h3 =>
    have := dtvs_ints_out h3
    subst this
    exact ⟨_, rfl, h1, h2⟩
def plAll (l : List Pl) : List Pl := l.flatMap fun m => Ni.plT m.1 m.2.1 m.2.2
/-- a world by form -/
def formD (t : Tr) (d : PyData) : Bool := match d with
  | .tuple [r, s] => (wholesD r t.recs && wholesD s t.plains) && ((numd 0 (intsOf r) && numd 0 (intsOf s)) && consW [] (plAll [(t, intsOf r, intsOf s)]))
  | _ => false
def heldD (t u : Tr) (d : PyData) : Bool := match d with
  | .tuple [a, b, c, e, f] => (wholesD a t.recs && wholesD b t.plains) && ((wholesD c u.recs && wholesD e u.plains) && (wholesD f u.plains && ((numd 0 (intsOf a ++ intsOf c) && numd 0 (intsOf b ++ (intsOf e ++ intsOf f))) && consW [] (plAll [(t, intsOf a, intsOf b), (u, intsOf c, intsOf e)]))))
  | _ => false
def smallD (d : PyData) : Prop := ∀ ds, d = .tuple ds → ds.length ≤ 50 ∧ ∀ e ∈ ds, ∀ es, e = .tuple es → es.length ≤ 50
def sp_isform (C : Addr) : Sp := fun vs H Q _ => ∃ (Z : Addr → Prop) (x : Addr) (gs : Sg) (v : V) (d : PyData), vs = [.ref x, v] ∧ ShG Z C H x gs ∧ good gs.tr ∧ DtV [] H v d ∧ smallD d ∧ ∀ H', Same H H' → Q (.bl (formD gs.tr d)) H'
def sp_isheld (C : Addr) : Sp := fun vs H Q _ => ∃ (Z : Addr → Prop) (x y : Addr) (gs gu : Sg) (v : V) (d : PyData), vs = [.ref x, .ref y, v] ∧ ShG Z C H x gs ∧ good gs.tr ∧ ShG Z C H y gu ∧ good gu.tr ∧ DtV [] H v d ∧ smallD d ∧ ∀ H', Same H H' → Q (.bl (heldD gs.tr gu.tr d)) H'
/-- as the law says it -/
def rowG (ds : List PyData) (k : Nat) : PyData := ds.getD k .none
def treeG (ts : List Tr) (k : Nat) : Tr := ts.getD k .nil
def fmK (ts : List Tr) (ds : List PyData) (k : Nat) : Pl := (treeG ts k, intsOf (rowG ds (2 * k)), intsOf (rowG ds (2 * k + 1)))
def okK (ts : List Tr) (ds : List PyData) (k : Nat) : Bool := wholesD (rowG ds (2 * k)) (treeG ts k).recs && wholesD (rowG ds (2 * k + 1)) (treeG ts k).plains
def worldD (ts : List Tr) (d : PyData) : Bool := match ts with
  | [t] => formD t d
  | [t, u] => heldD t u d
  | _ => false
theorem world1 {t : Tr} {a b : PyData} : worldD [t] (.tuple [a, b]) = (okK [t] [a, b] 0 && ((numd 0 (intsOf a) && numd 0 (intsOf b)) && consW [] (plAll [fmK [t] [a, b] 0]))) := rfl
theorem world2 {t u : Tr} {a b c e f : PyData} : worldD [t, u] (.tuple [a, b, c, e, f]) = (okK [t, u] [a, b, c, e, f] 0 && (okK [t, u] [a, b, c, e, f] 1 && (wholesD f u.plains && ((numd 0 (intsOf a ++ intsOf c) && numd 0 (intsOf b ++ (intsOf e ++ intsOf f))) && consW [] (plAll [fmK [t, u] [a, b, c, e, f] 0, fmK [t, u] [a, b, c, e, f] 1]))))) := rfl
theorem world_len {ts : List Tr} {ds : List PyData} (l : ts.length = 1 ∨ ts.length = 2) (e : ds.length = 3 * ts.length - 1) {k : Nat} (hk : k < ts.length) (h : okK ts ds k = false) : worldD ts (.tuple ds) = false := by
  match ts, l, e, hk with
  | [t], _, e, hk =>
    match ds, e with
    | [a, b], _ =>
      have : k = 0 := by have : k < 1 := hk; omega
      subst this
      rw [world1, h, Bool.false_and]
  | [t, u], _, e, hk =>
    match ds, e with
    | [a, b, c, e, f], _ =>
      rw [world2]
      have : k = 0 ∨ k = 1 := by have : k < 2 := hk; omega
      rcases this with rfl | rfl
      · rw [h, Bool.false_and]
      · rw [h, Bool.false_and, Bool.and_false]
def sp_isworld : Sp := fun vs H Q _ => ∃ (L : Addr) (tvs : List V) (ts : List Tr) (v : V) (d : PyData), vs = [.ref L, v] ∧ H L = some (.lst tvs) ∧ tvs.length = ts.length ∧ (ts.length = 1 ∨ ts.length = 2) ∧ (∀ (i : Nat) (tv : V) (t : Tr), tvs[i]? = some tv → ts[i]? = some t → Ub.TrAt H t tv ∧ good t) ∧ DtV [] H v d ∧ smallD d ∧ ∀ H', Same H H' → Q (.bl (worldD ts d)) H'
theorem DtVs.getG {N : List Addr} {H : Hp} {xs : List V} {ds : List PyData} (h : DtVs N H xs ds) {k : Nat} (hk : k < ds.length) : ∃ v, xs[k]? = some v ∧ DtV N H v (rowG ds k) := by
  have hx : k < xs.length := by rw [h.len]; exact hk
  obtain ⟨d, h1, h2⟩ := h.get (List.getElem?_eq_getElem hx)
  refine ⟨_, List.getElem?_eq_getElem hx, ?_⟩
  unfold rowG
  rw [List.getD_eq_getElem?_getD, h1]
  exact h2
/-- a form beside its shape -/
def FmAt (Z : Addr → Prop) (C : Addr) (H : Hp) (v : V) (m : Pl) : Prop := ∃ (p x a b : Addr) (gs : Sg), v = .ref p ∧ H p = some (.tup [.ref x, .ref a, .ref b]) ∧ ShG Z C H x gs ∧ good gs.tr ∧ gs.tr = m.1 ∧ H a = some (.tup (m.2.1.map V.int)) ∧ H b = some (.tup (m.2.2.map V.int)) ∧ m.2.1.length = m.1.recs ∧ m.2.2.length = m.1.plains
theorem FmAt.same {Z : Addr → Prop} {C : Addr} {H H' : Hp} {v : V} {m : Pl} (s : Same H H') (h : FmAt Z C H v m) : FmAt Z C H' v m := by
  obtain ⟨p, x, a, b, gs, e, h1, h2, g, t, h3, h4, l⟩ := h
  exact ⟨p, x, a, b, gs, e, s _ _ h1, ShG.kz (fun b o e _ _ => s b o e) h2, g, t, s _ _ h3, s _ _ h4, l⟩
theorem plAll_len {l : List Pl} (h : ∀ m ∈ l, m.1.recs ≤ 5) : (plAll l).length ≤ 5 * l.length := by
  induction l with
  | nil => exact Nat.le_refl _
  | cons m l ih =>
    have h1 := ih fun x hx => h x (List.mem_cons_of_mem _ hx)
    have h2 := h m (List.mem_cons_self ..)
    show (Ni.plT m.1 m.2.1 m.2.2 ++ plAll l).length ≤ _
    rw [List.length_append, plT_len.1, List.length_cons]
    omega
def sp_consis (C : Addr) : Sp := fun vs H Q _ => ∃ (Z : Addr → Prop) (D : Addr) (ps : List V) (l : List Pl), vs = [.ref D] ∧ H D = some (.lst ps) ∧ ps.length = l.length ∧ (∀ (i : Nat) (v : V) (m : Pl), ps[i]? = some v → l[i]? = some m → FmAt Z C H v m) ∧ l.length ≤ 2 ∧ ∀ H', Same H H' → Q (.bl (consW [] (plAll l))) H'
theorem spF_bound : ∀ (t : Tr) (r p : Nat) (m : Span), m ∈ spF ((wfp t).map (·.2)) r p → m.1.isNil = false ∧ m.2.1 + m.1.recs ≤ r + t.srec ∧ m.2.2 + m.1.plains ≤ p + t.spla
  | .nil, _, _, m, h => nomatch h
  | .cons w t q, r, p, m, h => by
    have h : m ∈ spF (((([], t) :: wfp t).map (fun m => (w :: m.1, m.2)) ++ wfp q).map (·.2)) r p := h
    rw [List.map_append, List.map_map, spF_app] at h
    have e1 : cR (t :: (wfp t).map (·.2)) = t.recs := by
      show (if t.isNil then 0 else 1) + cR ((wfp t).map (·.2)) = if t.isNil then 0 else 1 + t.srec
      rw [cR_wfp]
      cases e : t.isNil with
      | true => rw [Tr.nil_of e]; rfl
      | false => rfl
    have e2 : cP (t :: (wfp t).map (·.2)) = t.plains := by
      show (if t.isNil then 1 else 0) + cP ((wfp t).map (·.2)) = if t.isNil then 1 else t.spla
      rw [cP_wfp]
      cases e : t.isNil with
      | true => rw [Tr.nil_of e]; rfl
      | false => simp
    have s1 : (Tr.cons w t q).srec = t.recs + q.srec := rfl
    have s2 : (Tr.cons w t q).spla = t.plains + q.spla := rfl
    rw [s1, s2]
    rcases List.mem_append.mp h with h | h
    · have h : m ∈ (if t.isNil then spF ((wfp t).map (·.2)) r (p + 1) else (t, r, p) :: spF ((wfp t).map (·.2)) (r + 1) p) := h
      cases e : t.isNil with
      | true =>
        rw [e, if_pos rfl, Tr.nil_of e] at h
        cases h
      | false =>
        have h1 : t.recs = 1 + t.srec := by unfold Tr.recs; rw [e]; rfl
        have h2 : t.plains = t.spla := by unfold Tr.plains; rw [e]; rfl
        rw [e, if_neg (by simp)] at h
        rcases List.mem_cons.mp h with h | h
        · rw [h]
          exact ⟨e, by show r + t.recs ≤ _; omega, by show p + t.plains ≤ _; omega⟩
        · obtain ⟨a, b, c⟩ := spF_bound t _ _ m h
          exact ⟨a, by omega, by omega⟩
    · have h : m ∈ spF ((wfp q).map (·.2)) (r + cR (t :: (wfp t).map (·.2))) (p + cP (t :: (wfp t).map (·.2))) := h
      rw [e1, e2] at h
      obtain ⟨a, b, c⟩ := spF_bound q _ _ m h
      exact ⟨a, by omega, by omega⟩
theorem spT_bound {t : Tr} {m : Span} (h : m ∈ spT t) : m.1.isNil = false ∧ m.2.1 + m.1.recs ≤ t.recs ∧ m.2.2 + m.1.plains ≤ t.plains := by
  unfold spT at h
  rw [paths_trees] at h
  have h : m ∈ (if t.isNil then spF ((wfp t).map (·.2)) 0 (0 + 1) else (t, 0, 0) :: spF ((wfp t).map (·.2)) (0 + 1) 0) := h
  cases e : t.isNil with
  | true =>
    rw [e, if_pos rfl, Tr.nil_of e] at h
    cases h
  | false =>
    have h1 : t.recs = 1 + t.srec := by unfold Tr.recs; rw [e]; rfl
    have h2 : t.plains = t.spla := by unfold Tr.plains; rw [e]; rfl
    rw [e, if_neg (by simp)] at h
    rcases List.mem_cons.mp h with h | h
    · rw [h]
      exact ⟨e, by show 0 + t.recs ≤ _; omega, by show 0 + t.plains ≤ _; omega⟩
    · obtain ⟨a, b, c⟩ := spF_bound t _ _ m h
      exact ⟨a, by omega, by omega⟩
theorem spF_mem : ∀ {l : List Tr} {r p : Nat} {m : Span}, m ∈ spF l r p → m.1 ∈ l
  | [], _, _, m, h => nomatch h
  | s :: l, r, p, m, h => by
    have h : m ∈ (if s.isNil then spF l r (p + 1) else (s, r, p) :: spF l (r + 1) p) := h
    split at h
    · exact List.mem_cons_of_mem _ (spF_mem h)
    · rcases List.mem_cons.mp h with h | h
      · rw [h]; exact List.mem_cons_self ..
      · exact List.mem_cons_of_mem _ (spF_mem h)
theorem spT_good {t : Tr} (g : good t) {m : Span} (h : m ∈ spT t) : good m.1 := by
  obtain ⟨x, hx, e⟩ := List.mem_map.mp (spF_mem h)
  rw [← e]
  exact (paths_good 3 (good_has g).1 g x hx).g
theorem head_cut {rs is : List Int} {m : Span} {x : Int} (h : rs[m.2.1]? = some x) (n : m.1.isNil = false) : headI (cutI rs is m) = x := by
  have hr : m.1.recs = 1 + m.1.srec := by unfold Tr.recs; rw [n]; rfl
  show ((rs.drop m.2.1).take m.1.recs).headD 0 = x
  rw [drop_cons h, hr, Nat.add_comm]
  rfl
/-- what is known so far -/
def KnownAt (H : Hp) (kvs : List (Key × V)) (known : List Pl) : Prop := kvs.length ≤ known.length ∧ ∀ k : Int, match findI known k with
  | some q => ∃ v, valV kvs (.inl k) = some v ∧ BelowAt H v q ∧ good q.1
  | none => valV kvs (.inl k) = none
theorem KnownAt.tups {H H' : Hp} {kvs : List (Key × V)} {known : List Pl} (k : ∀ c xs, H c = some (.tup xs) → H' c = some (.tup xs)) (h : KnownAt H kvs known) : KnownAt H' kvs known := ⟨h.1, fun i => by
  have := h.2 i
  cases e : findI known i with
  | none => rw [e] at this; exact this
  | some q =>
    rw [e] at this
    obtain ⟨v, h1, h2, h3⟩ := this
    exact ⟨v, h1, h2.tups k, h3⟩⟩
theorem KnownAt.put {H : Hp} {kvs : List (Key × V)} {known : List Pl} {v : V} {p : Pl} (h : KnownAt H kvs known) (hv : BelowAt H v p) (g : good p.1) : KnownAt H (putK kvs (.inl (headI p)) v) (p :: known) := by
  refine ⟨Nat.le_trans (Up.putK_len _ _ _) (by rw [List.length_cons]; have := h.1; omega), fun k => ?_⟩
  rw [valV_put]
  have := h.2 k
  unfold findI at this ⊢
  by_cases c : headI p = k
  · rw [List.find?_cons_of_pos (by simpa using c)]
    exact ⟨v, by rw [if_pos (by rw [c])], hv, g⟩
  · rw [List.find?_cons_of_neg (by simpa using c), if_neg (fun z => c (Sum.inl.inj z).symm)]
    exact this
end Ni
namespace Lx
open PySem PySem.Spec PyProof.Rows L2 Ub Ur Ug Ue Up Uo Ve Va Vk Wb Pt Gr Sb Rw Ni
section
variable {P : Program} {w : World} {K : PySem.W.Frag} {mg : Str → Option Value} {base : Heap}
theorem sc_are_consistent : FnScope ["places", "known", "shape", "records", "numbers", "text", "first", "last", "low", "high", "below"] ["places"] (defScope s_are_consistent) := ⟨rfl, rfl, rfl, by decide +kernel, rfl, by decide +kernel, by decide +kernel⟩
theorem ok_are_consistent {f : Addr} {fd : FuncData} (F : FunD K "are_consistent" "are_consistent" (defArgs s_are_consistent) (defBody s_are_consistent) (defScope s_are_consistent) [] [] f fd) (T : Tx K mg) (c_spans_of : Cal P w K mg base 7 "spans_of" ["shape"] (sp_spans (He.ga K "Shape"))) : FnOk P w K mg base CX0 8 f fd ["places"] (sp_consis (He.ga K "Shape")) := by
  refine F.ok sc_are_consistent (fun vs H Q E h => by obtain ⟨_, _, _, _, rfl, _⟩ := h; rfl) (fun cdv A outer s H vs Q E hr h => ?_)
  obtain ⟨Z, D, ps, l, rfl, hD, lps, hl, l2, q⟩ := h
  refine ⟨_, PSs.nox (pss_cons (ps_set (i := 1) sc_are_consistent.nd rfl (by first | exact Or.inl rfl | exact Or.inr rfl) pe_dnewK)
      (pss_cons (ps_for PassesOwn.never rfl (pi_listK K (pv 0)) (pg_tupK K (n := 3) rfl (pgs_cons (pg_name (i := 2) sc_are_consistent.nd rfl (by first | exact Or.inl rfl | exact Or.inr rfl)) (pgs_cons (pg_name (i := 3) sc_are_consistent.nd rfl (by first | exact Or.inl rfl | exact Or.inr rfl)) (pgs_cons (pg_name (i := 4) sc_are_consistent.nd rfl (by first | exact Or.inl rfl | exact Or.inr rfl)) pgs_nil))))
        (pss_one (ps_for PassesOwn.never rfl (pi_listK K (pe_cal c_spans_of (hr.mono (by omega)) (by rfl) (pa_cons (pv 2) pa_nil))) (pg_tupK K (n := 5) rfl (pgs_cons (pg_name (i := 5) sc_are_consistent.nd rfl (by first | exact Or.inl rfl | exact Or.inr rfl)) (pgs_cons (pg_name (i := 6) sc_are_consistent.nd rfl (by first | exact Or.inl rfl | exact Or.inr rfl)) (pgs_cons (pg_name (i := 7) sc_are_consistent.nd rfl (by first | exact Or.inl rfl | exact Or.inr rfl)) (pgs_cons (pg_name (i := 8) sc_are_consistent.nd rfl (by first | exact Or.inl rfl | exact Or.inr rfl)) (pgs_cons (pg_name (i := 9) sc_are_consistent.nd rfl (by first | exact Or.inl rfl | exact Or.inr rfl)) pgs_nil))))))
            (pss_cons (ps_set (i := 10) sc_are_consistent.nd rfl (by first | exact Or.inl rfl | exact Or.inr rfl) (pe_tup (pa_cons (pv 5) (pa_cons (pe_slice (sl_tupAK K) (pv 3) (po_some (pv 6)) (po_some (pv 7))) (pa_cons (pe_slice (sl_tupAK K) (pv 4) (po_some (pv 8)) (po_some (pv 9))) pa_nil)))))
              (pss_cons (ps_if (PW.pt (pw_and (pt_cmp (pc_din (units1 hr) (pe_ix (ix_tupK K) (pv 3) (pv 6) (fun _ _ => rfl)) (pv 1)) (by rfl)) (pw_and1 (pt_cmpR (op_neDK K hr.units) (pe_dget (units1 hr) (pv 1) (pe_ix (ix_tupK K) (pv 3) (pv 6) (fun _ _ => rfl)) (fun _ _ => rfl)) (pv 10) (nomark _)))))
                (pss_one (ps_ret pe_bl))
                pss_nil)
              (pss_one (ps_dput (units1 hr) (pv 1) (pe_ix (ix_tupK K) (pv 3) (pv 6) (fun _ _ => rfl)) (pv 10) rfl)))))))
      (pss_one (ps_ret pe_bl)))), ?_⟩
  intro kd nkd
  have sk := same_upd (o := .dK []) nkd
  have ek : (upd H kd (.dK [])) kd = some (.dK []) := upd_same
  generalize upd H kd (.dK []) = H1 at *
  dsimp only [gName]
  refine ⟨_, rfl, D, rfl, ⟨_, .inl (.inl (sk _ _ hD))⟩, ?_⟩
  refine for_list (K := K) (a := D) (xs := ps) (fun i σ HX => ∃ (kvs : List (Key × V)) (y2 y3 y4 y5 y6 y7 y8 y9 y10 : Option V), σ = [some (.ref D), some (.ref kd), y2, y3, y4, y5, y6, y7, y8, y9, y10] ∧ Same H HX ∧ HX kd = some (.dK kvs) ∧ KnownAt HX kvs (plAll (l.take i)).reverse ∧ consW [] (plAll (l.take i)) = true) ⟨[], _, _, _, _, _, _, _, _, _, rfl, sk, ek, ⟨Nat.le_refl _, fun k => rfl⟩, rfl⟩ (fun i σ HX _ pp => ?_) (fun i v σ HX hv pp => ?_) (fun σ HX pp => ?_)
  · obtain ⟨_, _, _, _, _, _, _, _, _, _, _, sX, _⟩ := pp
    exact .inl (.inl (sX _ _ hD))
  rotate_left
  · obtain ⟨kvs, _, _, _, _, _, _, _, _, _, rfl, sX, eX, kX, ok⟩ := pp
    rw [lps, List.take_length] at ok
    rw [ok] at q
    exact q _ sX
  obtain ⟨kvs, y2, y3, y4, y5, y6, y7, y8, y9, y10, rfl, sX, eX, kX, ok⟩ := pp
  obtain ⟨f, hf⟩ : ∃ f, l[i]? = some f := ⟨_, List.getElem?_eq_getElem (by rw [← lps]; exact (List.getElem?_eq_some_iff.mp hv).1)⟩
  have hfm := (hl i v f hv hf).same sX
  obtain ⟨t, rs, is⟩ := f
  obtain ⟨p, x, a, b, gs, rfl, h1, h2, gd, rfl, h3, h4, l3, l4⟩ := hfm
  dsimp only at h3 h4 l3 l4
  have ei : plAll (l.take (i + 1)) = plAll (l.take i) ++ (spT gs.tr).map (cutI rs is) := by
    rw [List.take_add_one, hf]
    unfold plAll
    rw [List.flatMap_append, spT_plT l3 l4]
    congr 1
    exact List.append_nil _
  have eA : plAll l = plAll (l.take (i + 1)) ++ plAll (l.drop (i + 1)) := by
    unfold plAll
    rw [← List.flatMap_append, List.take_append_drop]
  have lim : (plAll l).length ≤ 10 ∧ True := by
    refine ⟨?_, trivial⟩
    have h5 : ∀ m ∈ l, m.1.recs ≤ 5 := fun m hm => by
      obtain ⟨k, hk⟩ := List.getElem?_of_mem hm
      obtain ⟨u, hu⟩ : ∃ u, ps[k]? = some u := ⟨_, List.getElem?_eq_getElem (by rw [lps]; exact (List.getElem?_eq_some_iff.mp hk).1)⟩
      obtain ⟨_, _, _, _, gs2, _, _, _, g2, e2, _⟩ := hl k u m hu hk
      rw [← e2]
      exact g2.2.1
    have := plAll_len h5
    omega
  refine ⟨p, _, rfl, .inl (.inl h1), rfl, _, _, rfl, _, _, rfl, _, _, rfl, rfl, ?_⟩
  dsimp only
  refine ⟨_, rfl, Z, x, gs, rfl, h2, gd, fun D2 ws H2 s2 nD2 eD2 hws => ?_⟩
  have sX2 := sX.trans s2
  have eX2 := s2 _ _ eX
  have kX2 := kX.tups fun c xs e => s2 _ _ e
  have h32 := s2 _ _ h3
  have h42 := s2 _ _ h4
  have Dk : D2 ≠ kd := fun z => by rw [z, eX] at nD2; cases nD2
  refine ⟨D2, rfl, ⟨_, .inl (.inl eD2)⟩, ?_⟩
  refine for_list (K := K) (a := D2) (xs := ws) (fun j σ HY => ∃ (kvs : List (Key × V)) (y5 y6 y7 y8 y9 y10 : Option V), σ = [some (.ref D), some (.ref kd), some (.ref x), some (.ref a), some (.ref b), y5, y6, y7, y8, y9, y10] ∧ Same H HY ∧ HY D2 = some (.lst ws) ∧ SpansAt HY (spT gs.tr) ws ∧ HY a = some (.tup (rs.map V.int)) ∧ HY b = some (.tup (is.map V.int)) ∧ HY kd = some (.dK kvs) ∧ KnownAt HY kvs (plAll (l.take i) ++ ((spT gs.tr).take j).map (cutI rs is)).reverse ∧ consW [] (plAll (l.take i) ++ ((spT gs.tr).take j).map (cutI rs is)) = true) ⟨kvs, _, _, _, _, _, _, rfl, sX2, eD2, hws, h32, h42, eX2, by rw [List.take_zero, List.map_nil, List.append_nil]; exact kX2, by rw [List.take_zero, List.map_nil, List.append_nil]; exact ok⟩ (fun j σ HY _ pp => ?_) (fun j v σ HY hv2 pp => ?_) (fun σ HY pp => ?_)
  · obtain ⟨_, _, _, _, _, _, _, _, _, h, _⟩ := pp
    exact .inl (.inl h)
  rotate_left
  · obtain ⟨kvs2, _, _, _, _, _, _, rfl, sY, _, _, _, _, eY, kY, ok2⟩ := pp
    rw [hws.1, List.take_length, ← ei] at kY ok2
    exact ⟨kvs2, _, _, _, _, _, _, _, _, _, rfl, sY, eY, kY, ok2⟩
  obtain ⟨kvs2, y5, y6, y7, y8, y9, y10, rfl, sY, eD2Y, hwsY, h3Y, h4Y, eY, kY, ok2⟩ := pp
  obtain ⟨m, hm⟩ : ∃ m, (spT gs.tr)[j]? = some m := ⟨_, List.getElem?_eq_getElem (by rw [← hwsY.1]; exact (List.getElem?_eq_some_iff.mp hv2).1)⟩
  obtain ⟨pb, rfl, hpb⟩ := hwsY.2 j v m hv2 hm
  have mm := List.mem_of_getElem? hm
  obtain ⟨mn, mb1, mb2⟩ := spT_bound mm
  have gm := spT_good gd mm
  have mr : m.1.recs = 1 + m.1.srec := by unfold Tr.recs; rw [mn]; rfl
  obtain ⟨x0, hx0⟩ : ∃ x0, rs[m.2.1]? = some x0 := ⟨_, List.getElem?_eq_getElem (by omega)⟩
  have hd0 := head_cut (is := is) hx0 mn
  have ej : (spT gs.tr).take (j + 1) = (spT gs.tr).take j ++ [m] := by rw [List.take_add_one, hm]; rfl
  rw [ej, List.map_append, ← List.append_assoc]
  obtain ⟨pre, hpre⟩ : ∃ pre, plAll (l.take i) ++ ((spT gs.tr).take j).map (cutI rs is) = pre := ⟨_, rfl⟩
  rw [hpre] at kY ok2 ⊢
  have eA2 : plAll l = pre ++ (cutI rs is m :: (((spT gs.tr).drop (j + 1)).map (cutI rs is) ++ plAll (l.drop (i + 1)))) := by
    rw [eA, ei, ← hpre]
    conv => lhs; rw [← List.take_append_drop (j + 1) (spT gs.tr), ej]
    rw [List.map_append, List.map_append, List.append_assoc, List.append_assoc, List.append_assoc, List.append_assoc]
    rfl
  have lpre : pre.length ≤ 10 := by
    have := lim.1
    rw [eA2, List.length_append] at this
    omega
  refine ⟨pb, _, rfl, .inl (.inl hpb), rfl, _, _, rfl, _, _, rfl, _, _, rfl, _, _, rfl, _, _, rfl, rfl, ?_⟩
  dsimp only
  have c1 : cutV (rs.map V.int) (some ((m.2.1 : Nat) : Int)) (some ((m.2.1 + m.1.recs : Nat) : Int)) = (((rs.drop m.2.1).take m.1.recs)).map V.int := by
    rw [Up.cut_mid (by omega) (by rw [List.length_map]; omega), List.map_take, List.map_drop]
    congr 1
    omega
  have c2 : cutV (is.map V.int) (some ((m.2.2 : Nat) : Int)) (some ((m.2.2 + m.1.plains : Nat) : Int)) = (((is.drop m.2.2).take m.1.plains)).map V.int := by
    rw [Up.cut_mid (by omega) (by rw [List.length_map]; omega), List.map_take, List.map_drop]
    congr 1
    omega
  refine ⟨_, rfl, _, rfl, _, rfl, _, rfl, _, rfl, _, rfl, sl_any h3Y c1 fun pa H6 s6 e6 _ => ?_⟩
  refine ⟨_, rfl, _, rfl, _, rfl, _, rfl, _, rfl, sl_any (s6 _ _ h4Y) c2 fun pc H7 s7 e7 _ => ?_⟩
  refine ⟨Nat.le_of_ble_eq_true rfl, fun pt npt => ?_⟩
  have st := same_upd (o := .tup [.str m.1.text, .ref pa, .ref pc]) npt
  have et : (upd H7 pt (.tup [.str m.1.text, .ref pa, .ref pc])) pt = some (.tup [.str m.1.text, .ref pa, .ref pc]) := upd_same
  have s67 := (s6.trans s7).trans st
  have ea := st _ _ (s7 _ _ e6)
  have ec := st _ _ e7
  generalize upd H7 pt (.tup [.str m.1.text, .ref pa, .ref pc]) = H8 at *
  have bel : BelowAt H8 (.ref pt) (cutI rs is m) := ⟨pt, pa, pc, rfl, et, ea, ec⟩
  have k8 := kY.tups fun c xs e => s67 _ _ e
  have e8 := s67 _ _ eY
  have h38 := s67 _ _ h3Y
  have h48 := s67 _ _ h4Y
  have s8 := sY.trans s67
  have hat : atI (rs.map V.int) ((m.2.1 : Nat) : Int) = some (.int x0) := atI_nat (by rw [List.getElem?_map, hx0]; rfl)
  have kx := k8.2 x0
  dsimp only [gName]
  refine ⟨_, rfl, _, rfl, a, _, _, .int x0, rfl, rfl, .inl (.inl h38), hat, _, rfl, kd, _, rfl, DGet.k (k := .inl x0) e8, _, rfl, ?_⟩
  have lk : kvs2.length ≤ 10 := by
    have := k8.1
    rw [List.length_reverse] at this
    omega
  have one : ∀ {b : Bool}, (match findI pre.reverse x0 with
      | some q => decide (q = cutI rs is m)
      | none => true) = b → consW (pre.reverse ++ []) [cutI rs is m] = b := fun {b} h => by
    rw [List.append_nil]
    show ((match findI pre.reverse (headI (cutI rs is m)) with
      | some q => decide (q = cutI rs is m)
      | none => true) && true) = b
    rw [hd0, h, Bool.and_true]
  cases hf2 : findI pre.reverse x0 with
  | none =>
    rw [hf2] at kx
    rw [show valV kvs2 (.inl x0) = none from kx]
    refine (if_neg (by simp)).mpr ?_
    dsimp only [tNext]
    have ok9 : consW [] (pre ++ List.map (cutI rs is) [m]) = true := by
      rw [consW_app, ok2]
      show (true && consW (pre.reverse ++ []) [cutI rs is m]) = true
      rw [one (b := true) (by rw [hf2])]
      rfl
    refine ⟨_, rfl, _, rfl, _, rfl, _, rfl, a, _, _, .int x0, rfl, rfl, .inl (.inl h38), hat, kd, _, rfl, DPut.k (k := .inl x0) e8 (Nat.lt_of_le_of_lt (show _ ≤ 10 from lk) (by decide)), ?_⟩
    have mt := mut_tupsK (o := .dK (putK kvs2 (.inl x0) (.ref pt))) e8
    refine ⟨putK kvs2 (.inl x0) (.ref pt), _, _, _, _, _, _, rfl, fun b o e => by rw [upd_ne (ne_of_none e nkd)]; exact s8 b o e, by rw [upd_ne Dk]; exact s67 _ _ eD2Y, hwsY.tups fun c xs e => mt _ _ (s67 _ _ e), mt _ _ h38, mt _ _ h48, upd_same, ?_, ok9⟩
    rw [show List.map (cutI rs is) [m] = [cutI rs is m] from rfl, List.reverse_append]
    have := k8.put bel gm
    rw [hd0] at this
    exact this.tups mt
  | some q0 =>
    rw [hf2] at kx
    obtain ⟨v0, kv, bq, gq⟩ := kx
    rw [kv]
    refine (if_pos rfl).mpr ?_
    have DG : DGet H8 kd (.int x0) (some v0) := by rw [← kv]; exact DGet.k (k := .inl x0) e8
    refine ⟨_, rfl, _, rfl, _, rfl, a, _, _, .int x0, rfl, rfl, .inl (.inl h38), hat, kd, v0, rfl, DG, _, rfl, belD q0, belD (cutI rs is m), bel_dp bq, bel_dp bel, bel_shaped gq, bel_shaped gm, _, rfl, ?_⟩
    rw [bel_eqv gq gm]
    by_cases c : q0 = cutI rs is m
    · rw [decide_eq_true c]
      refine (if_neg (by simp)).mpr ?_
      dsimp only [tNext]
      have ok9 : consW [] (pre ++ List.map (cutI rs is) [m]) = true := by
        rw [consW_app, ok2]
        show (true && consW (pre.reverse ++ []) [cutI rs is m]) = true
        rw [one (b := true) (by rw [hf2]; exact decide_eq_true c)]
        rfl
      refine ⟨_, rfl, _, rfl, _, rfl, _, rfl, a, _, _, .int x0, rfl, rfl, .inl (.inl h38), hat, kd, _, rfl, DPut.k (k := .inl x0) e8 (Nat.lt_of_le_of_lt (show _ ≤ 10 from lk) (by decide)), ?_⟩
      have mt := mut_tupsK (o := .dK (putK kvs2 (.inl x0) (.ref pt))) e8
      refine ⟨putK kvs2 (.inl x0) (.ref pt), _, _, _, _, _, _, rfl, fun b o e => by rw [upd_ne (ne_of_none e nkd)]; exact s8 b o e, by rw [upd_ne Dk]; exact s67 _ _ eD2Y, hwsY.tups fun c xs e => mt _ _ (s67 _ _ e), mt _ _ h38, mt _ _ h48, upd_same, ?_, ok9⟩
      rw [show List.map (cutI rs is) [m] = [cutI rs is m] from rfl, List.reverse_append]
      have := k8.put bel gm
      rw [hd0] at this
      exact this.tups mt

    · rw [decide_eq_false c]
      refine (if_pos (by simp)).mpr ?_
      have bad : consW [] (plAll l) = false := by
        rw [eA2, consW_app, ok2, Bool.true_and]
        show ((match findI (pre.reverse ++ []) (headI (cutI rs is m)) with
          | some q => decide (q = cutI rs is m)
          | none => true) && _) = false
        rw [List.append_nil, hd0, hf2]
        show (decide (q0 = cutI rs is m) && _) = false
        rw [decide_eq_false c, Bool.false_and]
      rw [bad] at q
      exact q _ s8
end
end Lx
namespace Ni
open PySem PySem.Spec PyProof.Rows L2 Ub Ur Ug Ue Up Uo Ve Va Vk Wb Pt Gr Sb Rw
theorem plT_good {t : Tr} (g : good t) {rs is : List Int} (l1 : rs.length = t.recs) (l2 : is.length = t.plains) {m : Pl} (h : m ∈ Ni.plT t rs is) : good m.1 ∧ m.2.1 ≠ [] := by
  rw [← spT_plT l1 l2] at h
  obtain ⟨s, hs, rfl⟩ := List.mem_map.mp h
  obtain ⟨b1, b2, b3⟩ := spT_bound hs
  refine ⟨spT_good g hs, fun z => ?_⟩
  have hr : s.1.recs = 1 + s.1.srec := by unfold Tr.recs; rw [b1]; rfl
  have z : (rs.drop s.2.1).take s.1.recs = [] := z
  have := congrArg List.length z
  rw [List.length_take, List.length_drop] at this
  have h0 : ([] : List Int).length = 0 := rfl
  omega
theorem okK_good {ts : List Tr} {ds : List PyData} {k : Nat} (g : good (treeG ts k)) (h : okK ts ds k = true) {m : Pl} (hm : m ∈ Ni.plT (fmK ts ds k).1 (fmK ts ds k).2.1 (fmK ts ds k).2.2) : good m.1 ∧ m.2.1 ≠ [] := by
  unfold okK at h
  rw [Bool.and_eq_true] at h
  obtain ⟨i0, e0, l0⟩ := wholesD_out h.1
  obtain ⟨i1, e1, l1⟩ := wholesD_out h.2
  have hm : m ∈ Ni.plT (treeG ts k) (intsOf (rowG ds (2 * k))) (intsOf (rowG ds (2 * k + 1))) := hm
  rw [e0, e1, intsOf_ints, intsOf_ints] at hm
  exact plT_good g l0 l1 hm
end Ni
namespace Lx
open PySem PySem.Spec PyProof.Rows L2 Ub Ur Ug Ue Up Uo Ve Va Vk Wb Pt Gr Sb Rw Ni
section
variable {P : Program} {w : World} {K : PySem.W.Frag} {mg : Str → Option Value} {base : Heap}
theorem sc_law_is_world : FnScope ["_law_shapes", "_law_form_here", "_law_places_here", "_law_at_here", "_law_size_here", "_law_records", "_law_integers", "_law_numbers_here", "_law_values"] ["_law_shapes", "_law_form_here"] (defScope s_law_is_world) := ⟨rfl, rfl, rfl, by decide +kernel, rfl, by decide +kernel, by decide +kernel⟩
theorem ok_law_is_world {f : Addr} {fd : FuncData} (F : FunD K "_law_is_world" "_law_is_world" (defArgs s_law_is_world) (defBody s_law_is_world) (defScope s_law_is_world) [] [] f fd) (T : Tx K mg) (c_law_size : Cal P w K mg base 4 "_law_size" ["_law_tree_here"] (sp_size 4)) (c_law_is_row : Cal P w K mg base 1 "_law_is_row" ["_law_row", "_law_many"] sp_wholes) (c_law_places : Cal P w K mg base 8 "_law_places" ["_law_tree_here", "_law_records", "_law_integers"] (sp_places 4)) (c_law_is_counted : Cal P w K mg base 1 "_law_is_counted" ["_law_row"] sp_counted) (c_law_do_agree : Cal P w K mg base 1 "_law_do_agree" ["_law_places_here"] sp_agree) : FnOk P w K mg base CX0 9 f fd ["_law_shapes", "_law_form_here"] sp_isworld := by
  refine F.ok sc_law_is_world (fun vs H Q E h => by obtain ⟨_, _, _, _, _, rfl, _⟩ := h; rfl) (fun cdv A outer s H vs Q E hr h => ?_)
  obtain ⟨L, tvs, ts, v, d, rfl, hL, ltv, lts, hts, hd, sm, q⟩ := h
  refine ⟨_, PSs.nox (pss_cons (ps_if (PW.pt (pw_or (pt_not (pt_val (pe_callB (call_isiK' K) (by rfl) T.isinstance (by decide +kernel) (pa_cons (pv 1) (pa_cons (pe_bltn (v := .ty "tuple") (by rfl) T.tuple (by decide +kernel) rfl) pa_nil))))) (pw_or1 (pt_cmpR op_ne (pe_callB (call_len_seqK K) (by rfl) T.len (by decide +kernel) (pa_cons (pv 1) pa_nil)) (pe_op op_sub (pe_op op_mul pe_int (pe_callB (call_len_seqK K) (by rfl) T.len (by decide +kernel) (pa_cons (pv 0) pa_nil))) pe_int) (nomark _)))))
        (pss_one (ps_ret pe_bl))
        pss_nil)
      (pss_cons (ps_set (i := 2) sc_law_is_world.nd rfl (by first | exact Or.inl rfl | exact Or.inr rfl) (pe_lst pa_nil))
      (pss_cons (ps_for PassesOwn.never rfl (pi_range1 (by rfl) T.range (pa_cons (pe_callB (call_len_seqK K) (by rfl) T.len (by decide +kernel) (pa_cons (pv 0) pa_nil)) pa_nil)) (pg_name (i := 3) sc_law_is_world.nd rfl (by first | exact Or.inl rfl | exact Or.inr rfl))
        (pss_cons (ps_set (i := 4) sc_law_is_world.nd rfl (by first | exact Or.inl rfl | exact Or.inr rfl) (pe_cal c_law_size (hr.mono (by omega)) (by rfl) (pa_cons (pe_ix (ix_listK K) (pv 0) (pv 3) (fun _ _ => rfl)) pa_nil)))
          (pss_cons (ps_par (i := 5) (j := 6) (by rfl) sc_law_is_world.nd rfl rfl (by decide) rfl rfl (pa_cons (pe_ix (ix_tupK K) (pv 1) (pe_op op_mul pe_int (pv 3)) (fun _ _ => rfl)) (pa_cons (pe_ix (ix_tupK K) (pv 1) (pe_op op_add (pe_op op_mul pe_int (pv 3)) pe_int) (fun _ _ => rfl)) pa_nil)) (by rfl))
          (pss_cons (ps_if (PW.pt (pw_or (pt_not (pt_val (pe_cal c_law_is_row (hr.mono (by omega)) (by rfl) (pa_cons (pv 5) (pa_cons (pe_ix (ix_tupK K) (pv 4) pe_int (fun _ _ => rfl)) pa_nil))))) (pw_or1 (pt_not (pt_val (pe_cal c_law_is_row (hr.mono (by omega)) (by rfl) (pa_cons (pv 6) (pa_cons (pe_ix (ix_tupK K) (pv 4) pe_int (fun _ _ => rfl)) pa_nil))))))))
            (pss_one (ps_ret pe_bl))
            pss_nil)
          (pss_one (ps_set (i := 2) sc_law_is_world.nd rfl (by first | exact Or.inl rfl | exact Or.inr rfl) (pe_op op_cat (pv 2) (pe_cal c_law_places (hr.mono (by omega)) (by rfl) (pa_cons (pe_ix (ix_listK K) (pv 0) (pv 3) (fun _ _ => rfl)) (pa_cons (pv 5) (pa_cons (pv 6) pa_nil)))))))))))
      (pss_cons (ps_par (i := 7) (j := 8) (by rfl) sc_law_is_world.nd rfl rfl (by decide) rfl rfl (pa_cons (pe_ix (ix_tupK K) (pv 1) pe_int (fun _ _ => rfl)) (pa_cons (pe_ix (ix_tupK K) (pv 1) pe_int (fun _ _ => rfl)) pa_nil)) (by rfl))
      (pss_cons (ps_if (pt_cmpR op_eq (pe_callB (call_len_seqK K) (by rfl) T.len (by decide +kernel) (pa_cons (pv 0) pa_nil)) pe_int (nomark _))
        (pss_cons (ps_if (pt_not (pt_val (pe_cal c_law_is_row (hr.mono (by omega)) (by rfl) (pa_cons (pe_ix (ix_tupK K) (pv 1) pe_int (fun _ _ => rfl)) (pa_cons (pe_ix (ix_tupK K) (pe_cal c_law_size (hr.mono (by omega)) (by rfl) (pa_cons (pe_ix (ix_listK K) (pv 0) pe_int (fun _ _ => rfl)) pa_nil)) pe_int (fun _ _ => rfl)) pa_nil)))))
            (pss_one (ps_ret pe_bl))
            pss_nil)
          (pss_cons (ps_set (i := 7) sc_law_is_world.nd rfl (by first | exact Or.inl rfl | exact Or.inr rfl) (pe_op (op_catAK K) (pe_ix (ix_tupK K) (pv 1) pe_int (fun _ _ => rfl)) (pe_ix (ix_tupK K) (pv 1) pe_int (fun _ _ => rfl))))
          (pss_one (ps_set (i := 8) sc_law_is_world.nd rfl (by first | exact Or.inl rfl | exact Or.inr rfl) (pe_op (op_catAK K) (pe_op (op_catAK K) (pe_ix (ix_tupK K) (pv 1) pe_int (fun _ _ => rfl)) (pe_ix (ix_tupK K) (pv 1) pe_int (fun _ _ => rfl))) (pe_ix (ix_tupK K) (pv 1) pe_int (fun _ _ => rfl)))))))
        pss_nil)
      (pss_cons (ps_if (PW.pt (pw_or (pt_not (pt_val (pe_cal c_law_is_counted (hr.mono (by omega)) (by rfl) (pa_cons (pv 7) pa_nil)))) (pw_or1 (pt_not (pt_val (pe_cal c_law_is_counted (hr.mono (by omega)) (by rfl) (pa_cons (pv 8) pa_nil)))))))
        (pss_one (ps_ret pe_bl))
        pss_nil)
      (pss_one (ps_ret (pe_cal c_law_do_agree (hr.mono (by omega)) (by rfl) (pa_cons (pv 2) pa_nil)))))))))), ?_⟩
  obtain ⟨T0, t1, t2⟩ := hd.tyT (K := K)
  have noF : (∀ ds, d = .tuple ds → ds.length ≠ 3 * ts.length - 1) → worldD ts d = false := fun h => by
    match ts, lts with
    | [t], _ =>
      show formD t d = false
      unfold formD
      split
      · exact absurd rfl (h _ rfl)
      · rfl
    | [t, u], _ =>
      show heldD t u d = false
      unfold heldD
      split
      · exact absurd rfl (h _ rfl)
      · rfl
  refine ⟨_, rfl, _, _, _, _, _, rfl, .ty "tuple", t1, kit_ty t2, _, rfl, ?_⟩
  rcases hd.tupOr with ⟨p, xs, ds, rfl, rfl, hp, hx⟩ | no
  rotate_left
  · rw [no]
    have := q H (Same.refl _)
    rw [noF fun ds e => by rw [e] at no; cases no] at this
    exact iteT this
  refine iteF ?_
  have lx := hx.len
  refine ⟨_, rfl, p, xs, rfl, .inr (.inl (.inl hp)), ?_⟩
  refine ⟨_, rfl, L, tvs, rfl, .inl (.inl (.inl hL)), ?_⟩
  refine ⟨3, ((tvs.length : Nat) : Int), rfl, rfl, .inl ⟨by decide, by decide⟩, ?_⟩
  refine ⟨_, _, rfl, rfl, rfl, _, rfl, ?_⟩
  by_cases e : ds.length = 3 * ts.length - 1
  rotate_left
  · refine iteNY (fun z => e (by injection z with z; omega)) ?_
    have := q H (Same.refl _)
    rw [noF fun ds' z => by injection z with z; rw [← z]; exact e] at this
    exact this
  refine iteNN (by rw [lx, e, ltv]; congr 1; omega) ?_
  dsimp only [tNext]
  refine ⟨Nat.zero_le _, fun D0 nD0 => ?_⟩
  have sD := same_upd (o := .lst []) nD0
  have eD0 : (upd H D0 (.lst [])) D0 = some (.lst []) := upd_same
  generalize upd H D0 (.lst []) = H1 at *
  dsimp only [gName]
  refine ⟨_, rfl, L, tvs, rfl, .inl (.inl (.inl (sD _ _ hL))), _, rfl, by omega, by omega, ?_⟩
  rw [Int.toNat_natCast, ltv]
  refine for_range (lo := 0) (n := ts.length) (fun j σ HX => ∃ (D : Addr) (vs : List V) (y3 y4 y5 y6 y7 y8 : Option V), σ = [some (.ref L), some (.ref p), some (.ref D), y3, y4, y5, y6, y7, y8] ∧ Same H HX ∧ HX D = some (.lst vs) ∧ H D = none ∧ PlsAt HX (plAll ((List.range j).map (fmK ts ds))) vs ∧ ∀ k < j, okK ts ds k = true) ⟨D0, [], _, _, _, _, _, _, rfl, sD, eD0, nD0, ⟨rfl, fun i v m h => nomatch h⟩, fun k h => absurd h (Nat.not_lt_zero _)⟩ (fun j σ HX hj pp => ?_) (fun σ HX pp => ?_)
  · obtain ⟨D, vs, y3, y4, y5, y6, y7, y8, rfl, sX, eD, nD, pl, ok⟩ := pp
    obtain ⟨tv, htv⟩ : ∃ tv, tvs[j]? = some tv := ⟨_, List.getElem?_eq_getElem (by omega)⟩
    obtain ⟨t, ht⟩ : ∃ t, ts[j]? = some t := ⟨_, List.getElem?_eq_getElem hj⟩
    obtain ⟨tat, gt⟩ := hts j tv t htv ht
    have etG : treeG ts j = t := by unfold treeG; rw [List.getD_eq_getElem?_getD, ht]; rfl
    obtain ⟨v0, hv0, dv0⟩ := Ni.DtVs.getG hx (k := 2 * j) (by omega)
    obtain ⟨v1, hv1, dv1⟩ := Ni.DtVs.getG hx (k := 2 * j + 1) (by omega)
    have sm0 : ∀ k es, k < ds.length → rowG ds k = .tuple es → es.length ≤ 1000 := fun k es hk h => by
      refine Nat.le_trans ((sm _ rfl).2 (rowG ds k) ?_ es h) (by decide)
      unfold rowG
      rw [List.getD_eq_getElem?_getD, List.getElem?_eq_getElem hk]
      exact List.getElem_mem _
    obtain ⟨md, msz, _⟩ := good_has gt
    dsimp only [gName]
    refine ⟨_, rfl, _, rfl, L, tvs, (0 + (j : Int)), tv, rfl, rfl, .inl (.inl (sX _ _ hL)), by rw [Int.zero_add]; exact atI_nat htv, t, tv, rfl, tat.same sX, by omega, by omega, fun pz H5 s5 e5 => ?_⟩
    have s5X := sX.trans s5
    dsimp only [gName]
    refine ⟨_, rfl, _, rfl, 2, (0 + (j : Int)), rfl, rfl, .inl ⟨by decide, by decide⟩, p, xs, (2 * (0 + (j : Int))), v0, rfl, rfl, .inl (.inl (s5X _ _ hp)), by rw [show (2 * (0 + (j : Int))) = ((2 * j : Nat) : Int) by omega]; exact atI_nat hv0, ?_⟩
    refine ⟨_, rfl, _, rfl, 2, (0 + (j : Int)), rfl, rfl, .inl ⟨by decide, by decide⟩, _, _, rfl, rfl, p, xs, (2 * (0 + (j : Int)) + 1), v1, rfl, rfl, .inl (.inl (s5X _ _ hp)), by rw [show (2 * (0 + (j : Int)) + 1) = ((2 * j + 1 : Nat) : Int) by omega]; exact atI_nat hv1, ?_⟩
    refine ⟨_, _, rfl, ?_⟩
    dsimp only
    refine ⟨_, rfl, _, rfl, pz, _, 0, .int (t.recs : Nat), rfl, rfl, .inl (.inl e5), rfl, v0, _, t.recs, rfl, (dv0.same s5X), (fun es h => sm0 _ es (by omega) h), fun H6 s6 => ⟨_, rfl, ?_⟩⟩
    have s6X := s5X.trans s6
    have bad : okK ts ds j = false → worldD ts (.tuple ds) = false := world_len lts e hj
    cases w0 : wholesD (rowG ds (2 * j)) t.recs with
    | false =>
      have := q H6 s6X
      rw [bad (by unfold okK; rw [etG, w0, Bool.false_and])] at this
      exact iteT this
    | true =>
    refine iteF ?_
    refine ⟨_, rfl, _, rfl, pz, _, 1, .int (t.plains : Nat), rfl, rfl, .inl (.inl (s6 _ _ e5)), rfl, v1, _, t.plains, rfl, (dv1.same s6X), (fun es h => sm0 _ es (by omega) h), fun H7 s7 => ⟨_, rfl, ?_⟩⟩
    have s7X := s6X.trans s7
    cases w1 : wholesD (rowG ds (2 * j + 1)) t.plains with
    | false =>
      have := q H7 s7X
      rw [bad (by unfold okK; rw [etG, w0, w1]; rfl)] at this
      exact iteT this
    | true =>
    refine iteF ?_
    dsimp only [tNext]
    obtain ⟨is0, ei0, l0⟩ := wholesD_out w0
    obtain ⟨is1, ei1, l1⟩ := wholesD_out w1
    rw [ei0] at dv0
    rw [ei1] at dv1
    obtain ⟨a0, rfl, ha0, _⟩ := dtv_ints_out dv0
    obtain ⟨a1, rfl, ha1, _⟩ := dtv_ints_out dv1
    have efm : fmK ts ds j = (t, is0, is1) := by unfold fmK; rw [etG, ei0, ei1, intsOf_ints, intsOf_ints]
    refine ⟨_, rfl, _, rfl, _, rfl, L, tvs, (0 + (j : Int)), tv, rfl, rfl, .inl (.inl (s7X _ _ hL)), by rw [Int.zero_add]; exact atI_nat htv, _, rfl, _, rfl, t, tv, a0, a1, is0, is1, rfl, tat.same s7X, gt, by omega, s7X _ _ ha0, s7X _ _ ha1, l0, l1, fun D2 ps2 H8 s8 nD2 eD2 pl2 => ?_⟩
    have s8X := s7X.trans s8
    have lvs : vs.length ≤ 100 ∧ ps2.length ≤ 100 := by
      have h5 : ∀ m ∈ (List.range j).map (fmK ts ds), m.1.recs ≤ 5 := fun m hm => by
        obtain ⟨k, hk, rfl⟩ := List.mem_map.mp hm
        have hk := List.mem_range.mp hk
        obtain ⟨tk, htk⟩ : ∃ tk, ts[k]? = some tk := ⟨_, List.getElem?_eq_getElem (by omega)⟩
        obtain ⟨tvk, htvk⟩ : ∃ tv, tvs[k]? = some tv := ⟨_, List.getElem?_eq_getElem (by omega)⟩
        have := (hts k tvk tk htvk htk).2
        show (treeG ts k).recs ≤ 5
        unfold treeG
        rw [List.getD_eq_getElem?_getD, htk]
        exact this.2.1
      have h6 := plAll_len h5
      rw [List.length_map, List.length_range] at h6
      rw [pl.1, pl2.1, plT_len.1]
      have : t.recs ≤ 5 := gt.2.1
      omega
    have s58 := ((s5.trans s6).trans s7).trans s8
    refine ⟨D, D2, _, _, rfl, rfl, s58 _ _ eD, eD2, Nat.le_trans (show _ ≤ 200 by omega) (by decide), fun D3 nD3 => ?_⟩
    have s9 := same_upd (o := .lst (vs ++ ps2)) nD3
    refine ⟨D3, vs ++ ps2, _, _, _, _, _, _, rfl, s8X.trans s9, upd_same, s8X.free nD3, ?_, fun k hk => ?_⟩
    · rw [List.range_succ, List.map_append]
      show PlsAt _ (plAll (_ ++ [fmK ts ds j])) _
      rw [efm]
      unfold plAll
      rw [List.flatMap_append, show List.flatMap (fun m : Pl => Ni.plT m.1 m.2.1 m.2.2) [(t, is0, is1)] = Ni.plT t is0 is1 from List.append_nil _]
      exact PlsAt.app (pl.tups fun c xs e => s9 _ _ (s58 _ _ e)) (pl2.tups fun c xs e => s9 _ _ e)
    · rcases Nat.lt_or_ge k j with h | h
      · exact ok k h
      · have : k = j := by omega
        subst this
        unfold okK
        rw [etG, w0, w1]
        rfl
  obtain ⟨D, vs, y3, y4, y5, y6, y7, y8, rfl, sX, eD, nD, pl, ok⟩ := pp
  have gpl : ∀ m ∈ plAll ((List.range ts.length).map (fmK ts ds)), good m.1 ∧ m.2.1 ≠ [] := fun m hm => by
    obtain ⟨f, hf, hm⟩ := List.mem_flatMap.mp hm
    obtain ⟨k, hk, rfl⟩ := List.mem_map.mp hf
    have hk := List.mem_range.mp hk
    obtain ⟨tk, htk⟩ : ∃ tk, ts[k]? = some tk := ⟨_, List.getElem?_eq_getElem hk⟩
    obtain ⟨tvk, htvk⟩ : ∃ tv, tvs[k]? = some tv := ⟨_, List.getElem?_eq_getElem (by omega)⟩
    refine okK_good ?_ (ok k hk) hm
    unfold treeG
    rw [List.getD_eq_getElem?_getD, htk]
    exact (hts k tvk tk htvk htk).2
  rcases lts with l1 | l2
  · match ts, ds, tvs, l1, e, hx with
    | [t], [a, b], [tv], _, _, hx =>
    cases hx with
    | cons h0 hx =>
    cases hx with
    | cons h1 hx =>
    cases hx
    rename_i v0 v1 _
    have ok0 := ok 0 (Nat.zero_lt_one)
    have ok0' := ok0
    unfold okK at ok0'
    rw [Bool.and_eq_true] at ok0'
    obtain ⟨is0, ei0, l0⟩ := wholesD_out (show wholesD a t.recs = true from ok0'.1)
    obtain ⟨is1, ei1, l1⟩ := wholesD_out (show wholesD b t.plains = true from ok0'.2)
    subst ei0
    subst ei1
    obtain ⟨a0, rfl, ha0, _⟩ := dtv_ints_out h0
    obtain ⟨a1, rfl, ha1, _⟩ := dtv_ints_out h1
    rw [world1, ok0, Bool.true_and, intsOf_ints, intsOf_ints] at q
    refine ⟨_, rfl, p, _, 0, .ref a0, rfl, rfl, .inl (.inl (sX _ _ hp)), rfl, _, rfl, p, _, 1, .ref a1, rfl, rfl, .inl (.inl (sX _ _ hp)), rfl, ?_⟩
    refine ⟨_, _, rfl, ?_⟩
    dsimp only
    refine ⟨_, rfl, L, _, rfl, .inl (.inl (.inl (sX _ _ hL))), rfl, _, rfl, ?_⟩
    refine iteN (fun z => by injection z with z; have z : ((1 : Nat) : Int) = 2 := z; omega) ?_
    dsimp only [tNext]
    have lt := (hts 0 tv t rfl rfl).2
    have r5 : t.recs ≤ 5 := lt.2.1
    have p5 : t.plains ≤ 5 := lt.2.2
    refine ⟨_, rfl, a0, is0, rfl, sX _ _ ha0, by omega, fun H6 s6 => ⟨_, rfl, ?_⟩⟩
    cases n0 : numd 0 is0 with
    | false =>
      have := q H6 (sX.trans s6)
      simp only [n0, Bool.false_and] at this
      exact iteT this
    | true =>
    refine iteF ?_
    refine ⟨_, rfl, a1, is1, rfl, s6 _ _ (sX _ _ ha1), by omega, fun H7 s7 => ⟨_, rfl, ?_⟩⟩
    have s67 := (sX.trans s6).trans s7
    cases n1 : numd 0 is1 with
    | false =>
      have := q H7 s67
      simp only [n0, n1, Bool.false_and, Bool.and_false] at this
      exact iteT this
    | true =>
    refine iteF ?_
    dsimp only [tNext]
    simp only [n0, n1, Bool.true_and] at q
    refine ⟨_, rfl, D, vs, _, rfl, s7 _ _ (s6 _ _ eD), pl.tups fun c xs e => s7 _ _ (s6 _ _ e), gpl, ?_⟩
    rw [← cons_agree]
    exact q H7 s67
  · match ts, ds, tvs, l2, e, hx with
    | [t, u], [a, b, c, g, f], [tv, uv], _, _, hx =>
    cases hx with
    | cons h0 hx =>
    cases hx with
    | cons h1 hx =>
    cases hx with
    | cons h2 hx =>
    cases hx with
    | cons h3 hx =>
    cases hx with
    | cons h4 hx =>
    cases hx
    rename_i v0 v1 v2 v3 v4
    have ok0 := ok 0 (Nat.zero_lt_succ _)
    have ok1 := ok 1 (Nat.lt_succ_self _)
    have ok0' := ok0
    have ok1' := ok1
    unfold okK at ok0' ok1'
    rw [Bool.and_eq_true] at ok0' ok1'
    obtain ⟨i0, e0, l0⟩ := wholesD_out (show wholesD a t.recs = true from ok0'.1)
    obtain ⟨i1, e1, l1⟩ := wholesD_out (show wholesD b t.plains = true from ok0'.2)
    obtain ⟨i2, e2, l2⟩ := wholesD_out (show wholesD c u.recs = true from ok1'.1)
    obtain ⟨i3, e3, l3⟩ := wholesD_out (show wholesD g u.plains = true from ok1'.2)
    subst e0
    subst e1
    subst e2
    subst e3
    obtain ⟨a0, rfl, ha0, _⟩ := dtv_ints_out h0
    obtain ⟨a1, rfl, ha1, _⟩ := dtv_ints_out h1
    obtain ⟨a2, rfl, ha2, _⟩ := dtv_ints_out h2
    obtain ⟨a3, rfl, ha3, _⟩ := dtv_ints_out h3
    rw [world2, ok0, ok1, Bool.true_and, Bool.true_and] at q
    simp only [intsOf_ints] at q
    obtain ⟨tat, gt⟩ := hts 0 tv t rfl rfl
    obtain ⟨uat, gu⟩ := hts 1 uv u rfl rfl
    have r5 : t.recs ≤ 5 := gt.2.1
    have p5 : t.plains ≤ 5 := gt.2.2
    have r6 : u.recs ≤ 5 := gu.2.1
    have p6 : u.plains ≤ 5 := gu.2.2
    have du := (good_has gu).1
    have su := (good_has gu).2.1
    refine ⟨_, rfl, p, _, 0, .ref a0, rfl, rfl, .inl (.inl (sX _ _ hp)), rfl, _, rfl, p, _, 1, .ref a1, rfl, rfl, .inl (.inl (sX _ _ hp)), rfl, ?_⟩
    refine ⟨_, _, rfl, ?_⟩
    dsimp only
    refine ⟨_, rfl, L, _, rfl, .inl (.inl (.inl (sX _ _ hL))), rfl, _, rfl, ?_⟩
    refine iteY rfl ?_
    refine ⟨_, rfl, p, _, 4, v4, rfl, rfl, .inl (.inl (sX _ _ hp)), rfl, _, rfl, L, _, 1, uv, rfl, rfl, .inl (.inl (sX _ _ hL)), rfl, u, uv, rfl, uat.same sX, by omega, by omega, fun pz H5 s5 e5 => ?_⟩
    have s5X := sX.trans s5
    refine ⟨pz, _, 1, .int (u.plains : Nat), rfl, rfl, .inl (.inl e5), rfl, v4, f, u.plains, rfl, h4.same s5X, (fun es h => Nat.le_trans ((sm _ rfl).2 f (by simp) es h) (by decide)), fun H6 s6 => ⟨_, rfl, ?_⟩⟩
    have s6X := s5X.trans s6
    cases w4 : wholesD f u.plains with
    | false =>
      have := q H6 s6X
      simp only [w4, Bool.false_and] at this
      exact iteT this
    | true =>
    refine iteF ?_
    dsimp only [tNext]
    obtain ⟨i4, rfl, l4⟩ := wholesD_out w4
    obtain ⟨a4, rfl, ha4, _⟩ := dtv_ints_out h4
    simp only [w4, Bool.true_and, intsOf_ints] at q
    refine ⟨_, rfl, p, _, 0, .ref a0, rfl, rfl, .inl (.inl (s6X _ _ hp)), rfl, _, rfl, p, _, 2, .ref a2, rfl, rfl, .inl (.inl (s6X _ _ hp)), rfl, cat_any (s6X _ _ ha0) (s6X _ _ ha2) (by rw [List.length_map, List.length_map]; omega) fun p7 H7 s7 e7 _ => ?_⟩
    have s7X := s6X.trans s7
    dsimp only [gName]
    refine ⟨_, rfl, p, _, 1, .ref a1, rfl, rfl, .inl (.inl (s7X _ _ hp)), rfl, _, rfl, p, _, 3, .ref a3, rfl, rfl, .inl (.inl (s7X _ _ hp)), rfl, cat_any (s7X _ _ ha1) (s7X _ _ ha3) (by rw [List.length_map, List.length_map]; omega) fun p8 H8 s8 e8 _ => ?_⟩
    have s8X := s7X.trans s8
    refine ⟨_, rfl, p, _, 4, .ref a4, rfl, rfl, .inl (.inl (s8X _ _ hp)), rfl, cat_any e8 (s8X _ _ ha4) (by rw [List.length_append, List.length_map, List.length_map, List.length_map]; omega) fun p9 H9 s9 e9 _ => ?_⟩
    have s9X := s8X.trans s9
    rw [← List.map_append] at e7
    rw [← List.map_append, ← List.map_append, List.append_assoc] at e9
    have s79 := s8.trans s9
    dsimp only [gName]
    refine ⟨_, rfl, p7, _, rfl, s79 _ _ e7, by rw [List.length_append]; omega, fun H10 s10 => ⟨_, rfl, ?_⟩⟩
    cases n0 : numd 0 (i0 ++ i2) with
    | false =>
      have := q H10 (s9X.trans s10)
      simp only [n0, Bool.false_and] at this
      exact iteT this
    | true =>
    refine iteF ?_
    refine ⟨_, rfl, p9, _, rfl, s10 _ _ e9, by rw [List.length_append, List.length_append]; omega, fun H11 s11 => ⟨_, rfl, ?_⟩⟩
    have s11X := (s9X.trans s10).trans s11
    cases n1 : numd 0 (i1 ++ (i3 ++ i4)) with
    | false =>
      have := q H11 s11X
      simp only [n0, n1, Bool.false_and, Bool.and_false] at this
      exact iteT this
    | true =>
    refine iteF ?_
    dsimp only [tNext]
    simp only [n0, n1, Bool.true_and] at q
    have sDl := ((((s5.trans s6).trans s7).trans s79).trans s10).trans s11
    refine ⟨_, rfl, D, vs, _, rfl, sDl _ _ eD, pl.tups fun c xs e => sDl _ _ e, gpl, ?_⟩
    rw [← cons_agree]
    exact q H11 s11X
end
end Lx
namespace Lx
open PySem PySem.Spec PyProof.Rows L2 Ub Ur Ug Ue Up
section
variable {P : Program} {w : World} {K : PySem.W.Frag} {mg : Str → Option Value} {base : Heap}
theorem sc_law_tree : FnScope ["_law_state", "_law_floors", "_law_room", "_law_pool", "_law_fields_here", "_law_turn", "_law_way", "_law_fits", "_law_field", "_law_taken", "_law_tree_here", "_law_pair"] ["_law_state", "_law_floors", "_law_room", "_law_pool"] (defScope s_law_tree) := ⟨rfl, rfl, rfl, by decide +kernel, rfl, by decide +kernel, by decide +kernel⟩
theorem ok_law_tree {f : Addr} {fd : FuncData} (F : FunD K "_law_tree" "_law_tree" (defArgs s_law_tree) (defBody s_law_tree) (defScope s_law_tree) [] [] f fd) (T : Tx K mg) (hm : mg "_law_tree" = some (.ref f)) (hb : Binds K fd ["_law_state", "_law_floors", "_law_room", "_law_pool"] []) (c_law_draw : Cal P w K mg base 1 "_law_draw" ["_law_state", "_law_many"] sp_draw) (c_law_of : Cal P w K mg base 2 "_law_of" ["_law_state", "_law_some"] sp_of) (c_law_word : Cal P w K mg base 2 "_law_word" ["_law_state", "_law_taken"] sp_word) (c_law_size : Cal P w K mg base 4 "_law_size" ["_law_tree_here"] (sp_size 4)) :
    ∀ d, FnOk P w K mg base CX0 (d + 4) f fd ["_law_state", "_law_floors", "_law_room", "_law_pool"] (sp_ltree d)
  | 0 => no_ltree
  | d + 1 => by
    have c_law_tree : Cal P w K mg base (d + 4) "_law_tree" ["_law_state", "_law_floors", "_law_room", "_law_pool"] (sp_ltree d) := ⟨f, fd, ok_law_tree F T hm hb c_law_draw c_law_of c_law_word c_law_size d, hm, F.kp, hb⟩
    refine F.ok sc_law_tree (fun vs H Q E h => ?_) (fun cdv A outer s H vs Q E hr h => ?_)
    · obtain ⟨_, _, _, _, _, _, _, _, _, rfl, _⟩ := h
      rfl
    obtain ⟨st, g, l, rm, pl, f, r0, p0, po0, rfl, hfd, hf1, hf3, hr1, hp1, hp5, hpo, L0, q⟩ := h
    refine ⟨_, PSs.nox (pss_cons (ps_asg (pe_op op_sub (pe_ix (ix_listK K) (pv 2) pe_int (fun _ _ => rfl)) pe_int) (pg_sub (pv 2) pe_int set_list))
      (pss_cons (ps_set (i := 4) sc_law_tree.nd rfl (by first | exact Or.inl rfl | exact Or.inr rfl) (pe_lst pa_nil))
      (pss_cons (ps_for PassesOwn.never rfl (pi_range1 (by rfl) T.range (pa_cons (pe_op op_add pe_int (pe_cal c_law_draw (hr.mono (by omega)) (by rfl) (pa_cons (pv 0) (pa_cons pe_int pa_nil)))) pa_nil)) (pg_name (i := 5) sc_law_tree.nd rfl (by first | exact Or.inl rfl | exact Or.inr rfl))
        (pss_cons (ps_if (pt_cmpR op_eq (pe_ix (ix_listK K) (pv 2) pe_int (fun _ _ => rfl)) pe_int (nomark _))
            (pss_one ps_break)
            pss_nil)
          (pss_cons (ps_set (i := 6) sc_law_tree.nd rfl (by first | exact Or.inl rfl | exact Or.inr rfl) (pe_cal c_law_draw (hr.mono (by omega)) (by rfl) (pa_cons (pv 0) (pa_cons pe_int pa_nil))))
          (pss_cons (ps_setLc (i := 7) (own := [("_law_tree_here", 10)]) (by rfl) sc_law_tree.nd rfl rfl (sw_true rfl rfl rfl (by decide +kernel)) (pi_listK K (pv 3)) (blkOk_by (N := ["_law_state", "_law_floors", "_law_room", "_law_pool", "_law_fields_here", "_law_turn", "_law_way", "_law_fits", "_law_field", "_law_taken", "_law_tree_here", "_law_pair"]) (sc := (defScope s_law_tree)) (by decide +kernel)) (fun _ _ _ _ _ => (pg_name (i := 10) sc_law_tree.nd rfl (by first | exact Or.inl rfl | exact Or.inr rfl))) (fun _ _ _ _ _ => pts_one (pt_cmpR op_lt (pe_ix (ix_tupK K) (pe_cal c_law_size (hr.mono (by omega)) (by rfl) (pa_cons (pv 10) pa_nil)) pe_int (fun _ _ => rfl)) (pv 1) (nomark _))) (fun _ _ _ _ _ => (pv 10)))
          (pss_cons (ps_setLc (i := 7) (own := [("_law_tree_here", 10)]) (by rfl) sc_law_tree.nd rfl rfl (sw_true rfl rfl rfl (by decide +kernel)) (pi_listK K (pv 7)) (blkOk_by (N := ["_law_state", "_law_floors", "_law_room", "_law_pool", "_law_fields_here", "_law_turn", "_law_way", "_law_fits", "_law_field", "_law_taken", "_law_tree_here", "_law_pair"]) (sc := (defScope s_law_tree)) (by decide +kernel)) (fun _ _ _ _ _ => (pg_name (i := 10) sc_law_tree.nd rfl (by first | exact Or.inl rfl | exact Or.inr rfl))) (fun _ _ _ _ _ => pts_one (pt_cmpR op_le (pe_ix (ix_tupK K) (pe_cal c_law_size (hr.mono (by omega)) (by rfl) (pa_cons (pv 10) pa_nil)) pe_int (fun _ _ => rfl)) (pe_ix (ix_listK K) (pv 2) pe_int (fun _ _ => rfl)) (nomark _))) (fun _ _ _ _ _ => (pv 10)))
          (pss_cons (ps_setLc (i := 7) (own := [("_law_tree_here", 10)]) (by rfl) sc_law_tree.nd rfl rfl (sw_true rfl rfl rfl (by decide +kernel)) (pi_listK K (pv 7)) (blkOk_by (N := ["_law_state", "_law_floors", "_law_room", "_law_pool", "_law_fields_here", "_law_turn", "_law_way", "_law_fits", "_law_field", "_law_taken", "_law_tree_here", "_law_pair"]) (sc := (defScope s_law_tree)) (by decide +kernel)) (fun _ _ _ _ _ => (pg_name (i := 10) sc_law_tree.nd rfl (by first | exact Or.inl rfl | exact Or.inr rfl))) (fun _ _ _ _ _ => pts_one (pt_cmpR op_le (pe_ix (ix_tupK K) (pe_cal c_law_size (hr.mono (by omega)) (by rfl) (pa_cons (pv 10) pa_nil)) pe_int (fun _ _ => rfl)) (pe_ix (ix_listK K) (pv 2) pe_int (fun _ _ => rfl)) (nomark _))) (fun _ _ _ _ _ => (pv 10)))
          (pss_cons (ps_set (i := 8) sc_law_tree.nd rfl (by first | exact Or.inl rfl | exact Or.inr rfl) (pe_tup pa_nil))
          (pss_cons (ps_if (PW.pt (pw_and (pt_truthK K (pv 7) (by intro _; rfl)) (pw_and1 (pt_cmpR op_gt (pv 6) pe_int (nomark _)))))
            (pss_cons (ps_set (i := 8) sc_law_tree.nd rfl (by first | exact Or.inl rfl | exact Or.inr rfl) (pe_cal c_law_of (hr.mono (by omega)) (by rfl) (pa_cons (pv 0) (pa_cons (pv 7) pa_nil))))
              (pss_cons (ps_asg (pe_op op_sub (pe_ix (ix_listK K) (pv 2) pe_int (fun _ _ => rfl)) (pe_ix (ix_tupK K) (pe_cal c_law_size (hr.mono (by omega)) (by rfl) (pa_cons (pv 8) pa_nil)) pe_int (fun _ _ => rfl))) (pg_sub (pv 2) pe_int set_list))
              (pss_one (ps_asg (pe_op op_sub (pe_ix (ix_listK K) (pv 2) pe_int (fun _ _ => rfl)) (pe_ix (ix_tupK K) (pe_cal c_law_size (hr.mono (by omega)) (by rfl) (pa_cons (pv 8) pa_nil)) pe_int (fun _ _ => rfl))) (pg_sub (pv 2) pe_int set_list)))))
            (pss_one (ps_if (PW.pt (pw_and (pt_cmpR op_gt (pv 6) pe_int (nomark _)) (pw_and (pt_cmpR op_gt (pv 1) pe_int (nomark _)) (pw_and1 (pt_cmpR op_gt (pe_ix (ix_listK K) (pv 2) pe_int (fun _ _ => rfl)) pe_int (nomark _))))))
                (pss_cons (ps_set (i := 8) sc_law_tree.nd rfl (by first | exact Or.inl rfl | exact Or.inr rfl) (pe_cal c_law_tree (hr.mono (by omega)) (by rfl) (pa_cons (pv 0) (pa_cons (pe_op op_sub (pv 1) pe_int) (pa_cons (pv 2) (pa_cons (pv 3) pa_nil))))))
                  (pss_one (ps_expr (pe_bmK K PySem.F.plainAttrs_list PySem.F.slot_list_append PySem.F.type_list_append mt_append (pv 3) (pa_cons (pv 8) pa_nil)))))
                (pss_one (ps_asg (pe_op op_sub (pe_ix (ix_listK K) (pv 2) pe_int (fun _ _ => rfl)) pe_int) (pg_sub (pv 2) pe_int set_list))))))
          (pss_cons (ps_setLc (i := 9) (own := [("_law_pair", 11)]) (by rfl) sc_law_tree.nd rfl rfl (sw_true rfl rfl rfl (by decide +kernel)) (pi_listK K (pv 4)) (blkOk_by (N := ["_law_state", "_law_floors", "_law_room", "_law_pool", "_law_fields_here", "_law_turn", "_law_way", "_law_fits", "_law_field", "_law_taken", "_law_tree_here", "_law_pair"]) (sc := (defScope s_law_tree)) (by decide +kernel)) (fun _ _ _ _ _ => (pg_name (i := 11) sc_law_tree.nd rfl (by first | exact Or.inl rfl | exact Or.inr rfl))) (fun _ _ _ _ _ => pts_nil) (fun _ _ _ _ _ => (pe_ix (ix_tupK K) (pv 11) pe_int (fun _ _ => rfl))))
          (pss_one (ps_expr (pe_bmK K PySem.F.plainAttrs_list PySem.F.slot_list_append PySem.F.type_list_append mt_append (pv 4) (pa_cons (pe_tup (pa_cons (pe_cal c_law_word (hr.mono (by omega)) (by rfl) (pa_cons (pv 0) (pa_cons (pv 9) pa_nil))) (pa_cons (pv 8) pa_nil))) pa_nil)))))))))))))
      (pss_one (ps_ret (pe_callTy (call_tuple_ofK K) (by rfl) T.tuple (by decide +kernel) (pa_cons (pv 4) pa_nil))))))), ?_⟩
    -- room[0] -= 1
    refine ⟨_, rfl, rm, _, 0, .int r0, rfl, rfl, .inl (.inl L0.hr), rfl, _, _, rfl, rfl, ?_⟩
    refine ⟨_, rfl, rm, _, 0, 0, rfl, rfl, L0.hr, rfl, ?_⟩
    refine absH fun H1 e1 => ?_
    have L1 : Lt H1 st g l rm pl (r0 - 1) p0 po0 := by
      have e : (r0 : Int) - 1 = ((r0 - 1 : Nat) : Int) := by omega
      rw [e1]
      show Lt (upd H rm (.lst [.int ((r0 : Int) - 1), .int p0])) _ _ _ _ _ _ _ _
      rw [e]
      exact L0.room
    have k1 : Kn [st, g, l, rm, pl] H H1 := by rw [e1]; exact Kn.upd (by simp)
    clear e1
    -- fields = []
    refine ⟨Nat.zero_le _, fun fl nfl => ?_⟩
    have s2 := same_upd (o := .lst []) nfl
    have Lb := L1.same s2
    -- range(1 + draw)
    refine ⟨_, rfl, st, g, l, 3, rfl, by decide, by decide, Lb.S, fun dn H3 d0 d1 S3 k3 => ?_⟩
    have nf := L1.fresh nfl
    have nfH : H fl = none := by
      cases e : H fl with
      | none => rfl
      | some o => rw [k1 _ _ e nf] at nfl; cases nfl
    simp only [List.mem_cons, List.not_mem_nil, or_false, not_or] at nf
    have hf3' := k3 _ _ (upd_same (H := H1) (a := fl) (o := .lst [])) nf.1 nf.2.1 nf.2.2.1
    obtain ⟨n, rfl⟩ : ∃ n : Nat, dn = (n : Int) := ⟨dn.toNat, by omega⟩
    refine ⟨_, _, rfl, rfl, _, rfl, by omega, by omega, ?_⟩
    have en : (1 + (n : Int)).toNat = 1 + n := by omega
    rw [en]
    have I0 : LtI H H3 st g l rm pl fl f r0 p0 po0.length (r0 - 1) p0 po0 [] [] := ⟨Lb.kp S3 k3, (k1.trans (Kn.of s2)).trans (Kn.kp k3 (by simp) (by simp) (by simp)), hf3', L1.fresh nfl, nfH, rfl, (fun m hm => nomatch hm), List.nodup_nil, by show r0 - 1 + 0 + 1 = r0; omega, rfl, by omega⟩
    have fin : ∀ (σ : L2.St) (HH : Hp) (r p : Nat) (po : List (V × Tr)) (fs : List (Str × Tr)) (ps : List V) (y : List (Option V)), σ = some (.ref st) :: some (.int f) :: some (.ref rm) :: some (.ref pl) :: some (.ref fl) :: y → fs ≠ [] → fs.length ≤ 3 → LtI H HH st g l rm pl fl f r0 p0 po0.length r p po fs ps → tRet (tCB (rTupQ K) (tCons (tVar 4) tNil)) { nx := fun _ H' => Q .non H', rt := Q } σ HH := by
      rintro σ HH r p po fs ps y rfl hne hle I
      refine ⟨_, rfl, fl, ps, rfl, .inl ⟨.inl (.inl I.hf), fun u nu => ?_⟩⟩
      obtain ⟨e1, e2, e3⟩ := recs_of hne
      have su := same_upd (o := .tup ps) nu
      have J := I.same su
      refine q (.ofFields fs) (.ref u) _ r p po J.lt J.kn ⟨u, ps, rfl, upd_same, J.at_⟩ ?_ e3 ?_ ?_ ?_
      · obtain ⟨f', rfl⟩ : ∃ f', f = f' + 1 := ⟨f - 1, by omega⟩
        exact .inr (fineF_of fs 3 [] hne hle (fun m hm => ⟨(I.ok m hm).1, (I.ok m hm).2, by simp⟩) I.nd)
      · have := I.sr; omega
      · have := I.sp; omega
      · have := I.sl; omega
    refine for_range (lo := 0) (n := 1 + n) (fun i σ HH => ∃ r p po fs ps y5 y6 y7 y8 y9, fs.length = i ∧ σ = [some (.ref st), some (.int f), some (.ref rm), some (.ref pl), some (.ref fl), y5, y6, y7, y8, y9, none, none] ∧ LtI H HH st g l rm pl fl f r0 p0 po0.length r p po fs ps) ?_ (fun i σ HH hi p => ?_) (fun σ HH p => ?_)
    · exact ⟨_, _, _, [], [], none, none, none, none, none, rfl, rfl, I0⟩
    rotate_left
    · obtain ⟨r, p, po, fs, ps, y5, y6, y7, y8, y9, hl, rfl, I⟩ := p
      exact fin _ _ r p po fs ps _ rfl (fun e => by rw [e] at hl; have : ([] : List (Str × Tr)).length = 0 := rfl; omega) (by omega) I
    obtain ⟨r, p, po, fs, ps, y5, y6, y7, y8, y9, hl, rfl, I⟩ := p
    have lpo : po.length ≤ 25 := by have := I.sl; omega
    have tr4 : ∀ m ∈ po, m.2.depth < 4 ∧ m.2.size ≤ 1000 := fun m hm => by
      obtain ⟨a, b, c⟩ := fine_has 3 m.2 (I.lt.po m hm).2
      have := bnd3 (Nat.le_refl 3)
      exact ⟨by omega, by omega⟩
    dsimp only [gName]
    -- no room: break
    refine ⟨_, rfl, rm, _, 1, .int p, rfl, rfl, .inl (.inl I.lt.hr), rfl, rfl, _, rfl, ?_⟩
    by_cases c0 : p = 0
    · refine iteY (by rw [c0]; rfl) ?_
      refine fin _ _ r p po fs ps _ rfl (fun e => ?_) (by omega) I
      have hsp := I.sp
      rw [e] at hsp
      have : sumP [] = 0 := rfl
      omega
    refine iteN (fun z => c0 (by injection z with z; omega)) ?_
    dsimp only [tNext]
    -- way
    refine ⟨_, rfl, st, g, l, 4, rfl, by decide, by decide, I.lt.S, fun wy Hw w0 w1 Sw kw => ?_⟩
    have I := I.kp Sw kw
    -- fits, by depth
    refine ⟨_, rfl, pl, rfl, ⟨_, .inl (.inl I.lt.hp)⟩, fun D1 hD1 => ?_⟩
    refine lcM (walk_list (xs := po.map (·.1))) po (by simp) (fun m => if decide (m.2.depth < f) = true then some m.1 else none) (fun H s => s.seq (.inl (.inl I.lt.hp))) (sz5 (by rw [List.length_map]; omega)) hD1 (fun j x m H' hx hm s' => ?_) (fun H4 s4 d4 => ?_)
    · obtain rfl := at_map hx hm
      have mm := List.mem_of_getElem? hm
      obtain ⟨t1, t2⟩ := tr4 m mm
      intro Q1 Q0 h1 h0
      refine ⟨rfl, _, rfl, m.2, m.1, rfl, (I.lt.po m mm).1.same s', t1, t2, fun pz H5 s5 e5 => ⟨pz, _, 2, .int (m.2.depth : Nat), rfl, rfl, .inl (.inl e5), rfl, _, rfl, _, _, rfl, rfl, _, rfl, ?_⟩⟩
      by_cases hd : m.2.depth < f
      · exact iteY (by omega) ⟨_, rfl, h1 _ _ (by rw [if_pos (decide_eq_true hd)]) s5⟩
      · exact iteN (by omega) (h0 _ (by rw [decide_eq_false hd]; rfl) s5)
    rw [fm_filter (fun m => decide (m.2.depth < f))] at d4
    generalize hpo1 : po.filter (fun m => decide (m.2.depth < f)) = po1 at d4
    have m1 : ∀ m ∈ po1, m ∈ po ∧ m.2.depth < f := fun m hm => by
      rw [← hpo1, List.mem_filter] at hm
      exact ⟨hm.1, of_decide_eq_true hm.2⟩
    have l1 : po1.length ≤ 25 := by rw [← hpo1]; exact Nat.le_trans (List.length_filter_le _ _) lpo
    clear hpo1
    have I4 := I.same s4
    -- by records
    refine ⟨_, rfl, D1, rfl, ⟨_, .inl (.inl d4)⟩, fun D2 hD2 => ?_⟩
    refine lcM (walk_list (xs := po1.map (·.1))) po1 (by simp) (fun m => if decide (m.2.recs ≤ r) = true then some m.1 else none) (fun H s => s.seq (.inl (.inl d4))) (sz5 (by rw [List.length_map]; omega)) hD2 (fun j x m H' hx hm s' => ?_) (fun H5 s5 d5 => ?_)
    · obtain rfl := at_map hx hm
      have mm := (m1 m (List.mem_of_getElem? hm)).1
      obtain ⟨t1, t2⟩ := tr4 m mm
      intro Q1 Q0 h1 h0
      refine ⟨rfl, _, rfl, m.2, m.1, rfl, (I4.lt.po m mm).1.same s', t1, t2, fun pz H5 s5 e5 => ⟨pz, _, 0, .int (m.2.recs : Nat), rfl, rfl, .inl (.inl e5), rfl, .ref rm, rfl, rm, _, 0, .int r, rfl, rfl, .inl (.inl (s5 _ _ (s' _ _ I4.lt.hr))), rfl, _, _, rfl, rfl, _, rfl, ?_⟩⟩
      by_cases hd : m.2.recs ≤ r
      · exact iteY (by omega) ⟨_, rfl, h1 _ _ (by rw [if_pos (decide_eq_true hd)]) s5⟩
      · exact iteN (by omega) (h0 _ (by rw [decide_eq_false hd]; rfl) s5)
    rw [fm_filter (fun m => decide (m.2.recs ≤ r))] at d5
    generalize hpo2 : po1.filter (fun m => decide (m.2.recs ≤ r)) = po2 at d5
    have m2 : ∀ m ∈ po2, m ∈ po ∧ m.2.depth < f ∧ m.2.recs ≤ r := fun m hm => by
      rw [← hpo2, List.mem_filter] at hm
      exact ⟨(m1 m hm.1).1, (m1 m hm.1).2, of_decide_eq_true hm.2⟩
    have l2 : po2.length ≤ 25 := by rw [← hpo2]; exact Nat.le_trans (List.length_filter_le _ _) l1
    clear hpo2
    have I5 := I4.same s5
    -- by plain values
    refine ⟨_, rfl, D2, rfl, ⟨_, .inl (.inl d5)⟩, fun D3 hD3 => ?_⟩
    refine lcM (walk_list (xs := po2.map (·.1))) po2 (by simp) (fun m => if decide (m.2.plains ≤ p) = true then some m.1 else none) (fun H s => s.seq (.inl (.inl d5))) (sz5 (by rw [List.length_map]; omega)) hD3 (fun j x m H' hx hm s' => ?_) (fun H6 s6 d6 => ?_)
    · obtain rfl := at_map hx hm
      have mm := (m2 m (List.mem_of_getElem? hm)).1
      obtain ⟨t1, t2⟩ := tr4 m mm
      intro Q1 Q0 h1 h0
      refine ⟨rfl, _, rfl, m.2, m.1, rfl, (I5.lt.po m mm).1.same s', t1, t2, fun pz H5 s5 e5 => ⟨pz, _, 1, .int (m.2.plains : Nat), rfl, rfl, .inl (.inl e5), rfl, .ref rm, rfl, rm, _, 1, .int p, rfl, rfl, .inl (.inl (s5 _ _ (s' _ _ I5.lt.hr))), rfl, _, _, rfl, rfl, _, rfl, ?_⟩⟩
      by_cases hd : m.2.plains ≤ p
      · exact iteY (by omega) ⟨_, rfl, h1 _ _ (by rw [if_pos (decide_eq_true hd)]) s5⟩
      · exact iteN (by omega) (h0 _ (by rw [decide_eq_false hd]; rfl) s5)
    rw [fm_filter (fun m => decide (m.2.plains ≤ p))] at d6
    generalize hpo3 : po2.filter (fun m => decide (m.2.plains ≤ p)) = po3 at d6
    have m3 : ∀ m ∈ po3, m ∈ po ∧ m.2.depth < f ∧ m.2.recs ≤ r ∧ m.2.plains ≤ p := fun m hm => by
      rw [← hpo3, List.mem_filter] at hm
      exact ⟨(m2 m hm.1).1, (m2 m hm.1).2.1, (m2 m hm.1).2.2, of_decide_eq_true hm.2⟩
    have l3 : po3.length ≤ 25 := by rw [← hpo3]; exact Nat.le_trans (List.length_filter_le _ _) l2
    clear hpo3
    have I6 := I5.same s6
    -- field = ()
    refine ⟨Nat.zero_le _, fun u nu => ?_⟩
    have su := same_upd (o := .tup []) nu
    have eu : (upd H6 u (.tup [])) u = some (.tup []) := upd_same
    have d8 := su _ _ d6
    have I8 := I6.same su
    dsimp only [gName]
    generalize upd H6 u (.tup []) = H8 at *
    have hrm := I8.lt.hr
    refine seqJ (fun σ' H' => ∃ t v r' p' po' y5 y6 y7 y9, σ' = [some (.ref st), some (.int f), some (.ref rm), some (.ref pl), some (.ref fl), y5, y6, y7, some v, y9, none, none] ∧ Lt H' st g l rm pl r' p' po' ∧ Kn [st, g, l, rm, pl] H8 H' ∧ TrAt H' t v ∧ Fine (f - 1) t ∧ r' + t.recs = r ∧ p' + t.plains = p ∧ po'.length + r' ≤ po.length + r) (fun D' hD' _ ebk _ => ?_) ?_
    · by_cases hA : 0 < wy ∧ po3 ≠ []
      · refine ifT (fun Q h => ⟨.ref D3, rfl, true, .inl ⟨_, .inl (.inl d8), ?_⟩, iteT ⟨_, rfl, _, _, rfl, rfl, _, rfl, (by rw [decide_eq_true hA.1]; exact h)⟩⟩) ?_
        · cases po3 with
          | nil => exact absurd rfl hA.2
          | cons _ _ => rfl
        obtain ⟨np1, np2, np3⟩ := I5.lt.S.ne hD3
        refine ⟨_, rfl, _, rfl, st, g, l, D3, _, rfl, d8, np1, np2, np3, fun e => hA.2 (List.map_eq_nil_iff.mp e), by rw [List.length_map]; omega, I8.lt.S, fun v H9 hv S9 k9 => ?_⟩
        obtain ⟨m, hm, rfl⟩ := List.mem_map.mp hv
        obtain ⟨mm, q1, q2, q3⟩ := m3 m hm
        obtain ⟨t1, t2⟩ := tr4 m mm
        have I9 := I8.kp S9 k9
        have ht9 := (I9.lt.po m mm).1
        dsimp only [gName]
        -- room[0] -= records(field)
        refine ⟨_, rfl, rm, _, 0, .int r, rfl, rfl, .inl (.inl I9.lt.hr), rfl, _, rfl, m.2, m.1, rfl, ht9, t1, t2, fun pz H10 s10 ez => ⟨pz, _, 0, .int (m.2.recs : Nat), rfl, rfl, .inl (.inl ez), rfl, _, _, rfl, rfl, ?_⟩⟩
        refine ⟨_, rfl, rm, _, 0, 0, rfl, rfl, s10 _ _ I9.lt.hr, rfl, ?_⟩
        have L10 := (I9.same s10).lt.room (r' := r - m.2.recs) (p' := p)
        have e10 : (r : Int) - (m.2.recs : Nat) = ((r - m.2.recs : Nat) : Int) := by omega
        have ht10 : TrAt (upd H10 rm (.lst [.int ((r - m.2.recs : Nat) : Int), .int p])) m.2 m.1 := (L10.po m mm).1
        refine absH fun H11 e11 => ?_
        have e11' : H11 = upd H10 rm (.lst [.int ((r - m.2.recs : Nat) : Int), .int p]) := by rw [e11, ← e10]; rfl
        have k11 : Kn [st, g, l, rm, pl] H8 H11 := by
          rw [e11']
          exact ((Kn.kp k9 (by simp) (by simp) (by simp)).trans (Kn.of s10)).trans (Kn.upd (by simp))
        rw [← e11'] at L10 ht10
        clear e11 e11'
        -- room[1] -= plains(field)
        refine ⟨_, rfl, rm, _, 1, .int p, rfl, rfl, .inl (.inl L10.hr), rfl, _, rfl, m.2, m.1, rfl, ht10, t1, t2, fun pz2 H12 s12 ez2 => ⟨pz2, _, 1, .int (m.2.plains : Nat), rfl, rfl, .inl (.inl ez2), rfl, _, _, rfl, rfl, ?_⟩⟩
        refine ⟨_, rfl, rm, _, 1, 1, rfl, rfl, s12 _ _ L10.hr, rfl, ?_⟩
        have L12 := (L10.same s12).room (r' := r - m.2.recs) (p' := p - m.2.plains)
        have e12 : (p : Int) - (m.2.plains : Nat) = ((p - m.2.plains : Nat) : Int) := by omega
        show Ends.nx D' _ (upd H12 rm (.lst [.int ((r - m.2.recs : Nat) : Int), .int ((p : Int) - ((m.2.plains : Nat) : Int))]))
        rw [e12]
        refine hD' _ _ ⟨m.2, m.1, r - m.2.recs, p - m.2.plains, po, _, _, _, _, rfl, ?_⟩
        exact ⟨L12, (k11.trans (Kn.of s12)).trans (Kn.upd (by simp)), (L12.po m mm).1, fine_down _ _ _ (I.lt.po m mm).2 (by omega), by omega, by omega, by omega⟩
      refine ifF (fun Q h => ?_) ?_
      · by_cases hp3 : po3 = []
        · exact ⟨.ref D3, rfl, false, .inl ⟨_, .inl (.inl d8), (by rw [hp3]; rfl)⟩, iteF h⟩
        · have hw : ¬ 0 < wy := fun z => hA ⟨z, hp3⟩
          refine ⟨.ref D3, rfl, true, .inl ⟨_, .inl (.inl d8), ?_⟩, iteT ⟨_, rfl, _, _, rfl, rfl, _, rfl, (by rw [decide_eq_false hw]; exact h)⟩⟩
          cases po3 with
          | nil => exact absurd rfl hp3
          | cons _ _ => rfl
      by_cases hB : 0 < wy ∧ 1 < f ∧ 0 < r
      · refine ifT (fun Q h => ⟨_, rfl, _, _, rfl, rfl, _, rfl, iteY hB.1 ⟨_, rfl, _, _, rfl, rfl, _, rfl, iteY (by omega) ⟨_, rfl, rm, _, 0, .int r, rfl, rfl, .inl (.inl hrm), rfl, _, _, rfl, rfl, _, rfl, (by rw [decide_eq_true (by omega)]; exact h)⟩⟩⟩) ?_
        -- a tree below
        have ef : ((f : Nat) : Int) - 1 = ((f - 1 : Nat) : Int) := by omega
        refine ⟨_, rfl, _, rfl, _, _, rfl, rfl, _, rfl, _, rfl, st, g, l, rm, pl, f - 1, r, p, po, ?_, by omega, by omega, by omega, by omega, by omega, by have := I.sp; omega, by have := I.sl; omega, I8.lt, fun t v H9 r' p' po' L9 k9 ht hft hn er ep el => ?_⟩
        · show [V.ref st, V.int (((f : Nat) : Int) - 1), V.ref rm, V.ref pl] = _
          rw [ef]
        dsimp only [gName]
        -- pool.append(field)
        refine ⟨_, rfl, .inl ⟨rfl, _, .inl (.inl L9.hp)⟩, _, rfl, pl, _, _, rfl, rfl, L9.hp, Nat.lt_of_lt_of_le (show (po'.map (·.1)).length < 1000 by rw [List.length_map]; have := I.sl; omega) (by decide), ?_⟩
        have hf3t : Fine 3 t := fine_up hft (by omega)
        have L10 := L9.pool ht hf3t
        refine hD' _ _ ⟨t, v, r', p', po' ++ [(v, t)], _, _, _, _, rfl, L10, k9.trans (Kn.upd (by simp)), (L10.po (v, t) (by simp)).1, hft, er, ep, ?_⟩
        rw [List.length_append]
        have h1 : 1 ≤ t.recs := by
          unfold Tr.recs
          rw [hn]
          show 1 ≤ 1 + _
          omega
        show po'.length + 1 + r' ≤ _
        omega
      refine ifF (fun Q h => ?_) ?_
      · by_cases hw : 0 < wy
        · refine ⟨_, rfl, _, _, rfl, rfl, _, rfl, iteY hw ⟨_, rfl, _, _, rfl, rfl, _, rfl, ?_⟩⟩
          by_cases hf : 1 < f
          · refine iteY (by omega) ⟨_, rfl, rm, _, 0, .int r, rfl, rfl, .inl (.inl hrm), rfl, _, _, rfl, rfl, _, rfl, ?_⟩
            rw [decide_eq_false (by omega)]
            exact h
          · exact iteN (by omega) h
        · exact ⟨_, rfl, _, _, rfl, rfl, _, rfl, iteN hw h⟩
      refine ⟨_, rfl, rm, _, 1, .int p, rfl, rfl, .inl (.inl hrm), rfl, _, _, rfl, rfl, ?_⟩
      refine ⟨_, rfl, rm, _, 1, 1, rfl, rfl, hrm, rfl, ?_⟩
      have L12 := I8.lt.room (r' := r) (p' := p - 1)
      have e12 : (p : Int) - 1 = ((p - 1 : Nat) : Int) := by omega
      show Ends.nx D' _ (upd H8 rm (.lst [.int (r : Nat), .int ((p : Int) - 1)]))
      rw [e12]
      refine hD' _ _ ⟨.nil, .ref u, r, p - 1, po, _, _, _, _, rfl, ?_⟩
      refine ⟨L12, Kn.upd (by simp), ⟨u, [], rfl, ?_, rfl⟩, fine_down _ 0 _ rfl (Nat.zero_le _), rfl, ?_, by omega⟩
      · rw [upd_ne (ne_of eu hrm (by intro z; cases z))]
        exact eu
      · show p - 1 + 1 = p
        omega
    rintro σ' H9 ⟨t, v, r', p', po', y5', y6', y7', y9', rfl, L9, k9, ht, hft, er, ep, el⟩
    obtain ⟨k9', hf9, at9⟩ := I8.go L9 k9
    have nf := I.nf
    simp only [List.mem_cons, List.not_mem_nil, or_false, not_or] at nf
    have lps : ps.length = fs.length := FsAt.len2 at9
    -- the words
    refine ⟨_, rfl, fl, rfl, ⟨_, .inl (.inl hf9)⟩, fun D hD => ?_⟩
    refine lcM (walk_list (xs := ps)) fs lps.symm (fun p => some (.str p.1)) (fun H s => s.seq (.inl (.inl hf9))) (sz5 (by omega)) hD (fun j x m H' hx hm s' => ?_) (fun H10 s10 d10 => ?_)
    · obtain ⟨pa, qv, g1, g2, _⟩ := at9.get (m := m) (by rw [Tr.fields_of]; exact hm)
      rw [g1] at hx
      cases hx
      intro Q1 Q0 h1 h0
      exact ⟨rfl, _, rfl, pa, _, 0, .str m.1, rfl, rfl, .inl (.inl (s' _ _ g2)), rfl, h1 _ _ rfl (Same.refl _)⟩
    have ew : (fs.filterMap fun p => some (V.str p.1)) = (fs.map (·.1)).map V.str := by
      rw [List.filterMap_eq_map', List.map_map]
      rfl
    rw [ew] at d10
    dsimp only [gName]
    have L10 := L9.same s10
    obtain ⟨nd1, nd2, nd3⟩ := L9.S.ne hD
    refine ⟨_, rfl, .inl ⟨rfl, _, .inl (.inl (s10 _ _ hf9))⟩, _, rfl, _, rfl, st, g, l, D, fs.map (·.1), rfl, d10, nd1, nd2, nd3, by rw [List.length_map]; omega, L10.S, fun z H11 hz hnz S11 k11 => ?_⟩
    have L11 := L10.kp S11 k11
    have k11' : Kn [st, g, l, rm, pl] H9 H11 := (Kn.of s10).trans (Kn.kp k11 (by simp) (by simp) (by simp))
    have tu := tups_of k11' L9.lists
    have hf11 := k11' _ _ hf9 I.nf
    -- the pair
    refine ⟨_, rfl, (by show 2 ≤ sizeLine; decide), fun pp npp => ?_⟩
    have sp := same_upd (o := .tup [.str z, v]) npp
    have epp : (upd H11 pp (.tup [.str z, v])) pp = some (.tup [.str z, v]) := upd_same
    refine ⟨fl, ps, _, rfl, rfl, sp _ _ hf11, Nat.lt_of_lt_of_le (show ps.length < 1000 by omega) (by decide), ?_⟩
    have L12 := L11.same sp
    have at12 := (at9.tups tu).same sp
    have ht12 := (ht.tups tu).same sp
    have hf12 := sp _ _ hf11
    have k12 := (k9'.trans k11').trans (Kn.of sp)
    generalize upd H11 pp (.tup [.str z, v]) = H12 at *
    have tu2 : ∀ c xs, H12 c = some (.tup xs) → (upd H12 fl (.lst (ps ++ [.ref pp]))) c = some (.tup xs) := fun c xs e => by
      rw [upd_ne (ne_of e hf12 (by intro z; cases z))]
      exact e
    have at13 : FsAt (upd H12 fl (.lst (ps ++ [.ref pp]))) (.ofFields (fs ++ [(z, t)])) (ps ++ [.ref pp]) := FsAt.snoc (at12.tups tu2) (tu2 _ _ epp) (ht12.tups tu2)
    obtain ⟨es1, es2⟩ := sum_snoc fs (z, t)
    refine ⟨r', p', po', fs ++ [(z, t)], ps ++ [.ref pp], _, _, _, _, _, ?_, rfl, ⟨L12.mut hf12 I.nf, k12.mut I.nw, upd_same, I.nf, I.nw, at13, fun m hm => ?_, ?_, ?_, ?_, ?_⟩⟩
    · rw [List.length_append, hl]
      rfl
    · rcases List.mem_append.mp hm with hm | hm
      · exact I.ok m hm
      · have e : m = (z, t) := by simpa using hm
        rw [e]
        exact ⟨hft, hz⟩
    · rw [List.map_append, List.nodup_append]
      refine ⟨I.nd, by simp, fun a ha b hb e => hnz ?_⟩
      have : b = z := by simpa using hb
      rw [← this, ← e]
      exact ha
    · have := I.sr
      rw [es1]
      show r' + (sumR fs + t.recs) + 1 = r0
      omega
    · have := I.sp
      rw [es2]
      show p' + (sumP fs + t.plains) = p0
      omega
    · have := I.sl
      omega
end
end Lx
namespace Ni
open PySem PySem.Spec PyProof.Rows L2 Ub Ur Ug Ue Up
def sp_lshape : Sp := fun vs H Q _ => ∃ (st g l : Addr) (r p : Int), vs = [.ref st, .int r, .int p] ∧ 1 ≤ r ∧ r ≤ 5 ∧ 1 ≤ p ∧ p ≤ 5 ∧ StAt H st g l ∧ ∀ (t : Tr) (tv : V) H', good t → t.isNil = false → TrAt H' t tv → StAt H' st g l → Kp st g l H H' → Q tv H'
theorem if_two {c : TT} {t u : TS} {D : Ends} {σ : L2.St} {H : Hp} (B : Bool → Hp → Prop) (h1 : ∀ Q : Bool → Hp → Prop, (∀ b H1, B b H1 → Q b H1) → c σ H Q) (h2 : ∀ H1, B true H1 → t D σ H1) (h3 : ∀ H1, B false H1 → u D σ H1) : tIfS c t u D σ H := h1 _ fun b H1 hb => by
  cases b with
  | false => exact iteF (h3 _ hb)
  | true => exact iteT (h2 _ hb)
theorem Kp.ofKn {st g l rm pl : Addr} {H H1 H' : Hp} (k : Kn [st, g, l, rm, pl] H1 H') (s : Same H H1) (n1 : H rm = none) (n2 : H pl = none) : Kp st g l H H' := fun b o e b1 b2 b3 => k b o (s _ _ e) (by
  simp only [List.mem_cons, List.not_mem_nil, or_false, not_or]
  exact ⟨b1, b2, b3, ne_of_none e n1, ne_of_none e n2⟩)
theorem Lt.begin {st g l rm pl : Addr} {r p : Nat} {H : Hp} (S : StAt H st g l) (hr : H rm = some (.lst [.int (r : Nat), .int (p : Nat)])) (hp : H pl = some (.lst [])) (o1 : rm ≠ st ∧ rm ≠ g ∧ rm ≠ l) (o2 : pl ≠ st ∧ pl ≠ g ∧ pl ≠ l) (n : rm ≠ pl) : Lt H st g l rm pl r p [] := ⟨S, hr, hp, (fun _ h => nomatch h), o1.1, o1.2.1, o1.2.2, o2.1, o2.2.1, o2.2.2, n⟩
end Ni
namespace Lx
open PySem PySem.Spec PyProof.Rows L2 Ub Ur Ug Ue Up Uo Ve Va Pt Ni
section
variable {P : Program} {w : World} {K : PySem.W.Frag} {mg : Str → Option Value} {base : Heap}
theorem sc_law_shape : FnScope ["_law_state", "_law_records", "_law_plains", "_law_room", "_law_inner", "_law_fields_here", "_law_found", "_law_field", "_law_taken", "_law_pair"] ["_law_state", "_law_records", "_law_plains"] (defScope s_law_shape) := ⟨rfl, rfl, rfl, by decide +kernel, rfl, by decide +kernel, by decide +kernel⟩
theorem ok_law_shape {f : Addr} {fd : FuncData} (F : FunD K "_law_shape" "_law_shape" (defArgs s_law_shape) (defBody s_law_shape) (defScope s_law_shape) [] [] f fd) (T : Tx K mg) (c_law_draw : Cal P w K mg base 1 "_law_draw" ["_law_state", "_law_many"] sp_draw) (c_law_word : Cal P w K mg base 2 "_law_word" ["_law_state", "_law_taken"] sp_word) (c_law_size : Cal P w K mg base 4 "_law_size" ["_law_tree_here"] (sp_size 4)) (c_law_tree : Cal P w K mg base 8 "_law_tree" ["_law_state", "_law_floors", "_law_room", "_law_pool"] (sp_ltree 4)) : FnOk P w K mg base CX0 9 f fd ["_law_state", "_law_records", "_law_plains"] sp_lshape := by
  refine F.ok sc_law_shape (fun vs H Q E h => by obtain ⟨_, _, _, _, _, rfl, _⟩ := h; rfl) (fun cdv A outer s H vs Q E hr h => ?_)
  obtain ⟨st, g, l, r, p, rfl, r1, r5, p1, p5, S, q⟩ := h
  refine ⟨_, PSs.nox (pss_cons (ps_if (PW.pt (pw_or (pt_cmpR op_lt (pv 1) pe_int (nomark _)) (pw_or (pt_cmpR op_lt (pv 2) pe_int (nomark _)) (pw_or1 (pt_cmpR op_eq (pe_cal c_law_draw (hr.mono (by omega)) (by rfl) (pa_cons (pv 0) (pa_cons pe_int pa_nil))) pe_int (nomark _))))))
        (pss_one (ps_ret (pe_cal c_law_tree (hr.mono (by omega)) (by rfl) (pa_cons (pv 0) (pa_cons pe_int (pa_cons (pe_lst (pa_cons (pv 1) (pa_cons (pv 2) pa_nil))) (pa_cons (pe_lst pa_nil) pa_nil)))))))
        pss_nil)
      (pss_cons (ps_set (i := 3) sc_law_shape.nd rfl (by first | exact Or.inl rfl | exact Or.inr rfl) (pe_lst (pa_cons (pe_op op_fdivW (pe_op op_sub (pv 1) pe_int) pe_int) (pa_cons (pe_op op_fdivW (pv 2) pe_int) pa_nil))))
      (pss_cons (ps_set (i := 4) sc_law_shape.nd rfl (by first | exact Or.inl rfl | exact Or.inr rfl) (pe_cal c_law_tree (hr.mono (by omega)) (by rfl) (pa_cons (pv 0) (pa_cons pe_int (pa_cons (pv 3) (pa_cons (pe_lst pa_nil) pa_nil))))))
      (pss_cons (ps_set (i := 5) sc_law_shape.nd rfl (by first | exact Or.inl rfl | exact Or.inr rfl) (pe_lst (pa_cons (pv 4) (pa_cons (pv 4) pa_nil))))
      (pss_cons (ps_if (PW.pt (pw_and (pt_cmpR op_lt (pe_op op_mul pe_int (pe_ix (ix_tupK K) (pe_cal c_law_size (hr.mono (by omega)) (by rfl) (pa_cons (pv 4) pa_nil)) pe_int (fun _ _ => rfl))) (pv 2) (nomark _)) (pw_and1 (pt_truthK K (pe_cal c_law_draw (hr.mono (by omega)) (by rfl) (pa_cons (pv 0) (pa_cons pe_int pa_nil))) (by intro _; rfl)))))
        (pss_one (ps_expr (pe_bmK K PySem.F.plainAttrs_list PySem.F.slot_list_insert PySem.F.type_list_insert mt_insert (pv 5) (pa_cons (pe_cal c_law_draw (hr.mono (by omega)) (by rfl) (pa_cons (pv 0) (pa_cons pe_int pa_nil))) (pa_cons (pe_tup pa_nil) pa_nil)))))
        pss_nil)
      (pss_cons (ps_set (i := 6) sc_law_shape.nd rfl (by first | exact Or.inl rfl | exact Or.inr rfl) (pe_lst pa_nil))
      (pss_cons (ps_for PassesOwn.never rfl (pi_listK K (pv 5)) (pg_name (i := 7) sc_law_shape.nd rfl (by first | exact Or.inl rfl | exact Or.inr rfl))
        (pss_cons (ps_setLc (i := 8) (own := [("_law_pair", 9)]) (by rfl) sc_law_shape.nd rfl rfl (sw_true rfl rfl rfl (by decide +kernel)) (pi_listK K (pv 6)) (blkOk_by (N := ["_law_state", "_law_records", "_law_plains", "_law_room", "_law_inner", "_law_fields_here", "_law_found", "_law_field", "_law_taken", "_law_pair"]) (sc := (defScope s_law_shape)) (by decide +kernel)) (fun _ _ _ _ _ => (pg_name (i := 9) sc_law_shape.nd rfl (by first | exact Or.inl rfl | exact Or.inr rfl))) (fun _ _ _ _ _ => pts_nil) (fun _ _ _ _ _ => (pe_ix (ix_tupK K) (pv 9) pe_int (fun _ _ => rfl))))
          (pss_one (ps_expr (pe_bmK K PySem.F.plainAttrs_list PySem.F.slot_list_append PySem.F.type_list_append mt_append (pv 6) (pa_cons (pe_tup (pa_cons (pe_cal c_law_word (hr.mono (by omega)) (by rfl) (pa_cons (pv 0) (pa_cons (pv 8) pa_nil))) (pa_cons (pv 7) pa_nil))) pa_nil))))))
      (pss_one (ps_ret (pe_callTy (call_tuple_ofK K) (by rfl) T.tuple (by decide +kernel) (pa_cons (pv 6) pa_nil))))))))))), ?_⟩
  obtain ⟨r, rfl⟩ : ∃ n : Nat, r = (n : Int) := ⟨r.toNat, by omega⟩
  obtain ⟨p, rfl⟩ : ∃ n : Nat, p = (n : Int) := ⟨p.toNat, by omega⟩
  refine if_two (fun b H1 => StAt H1 st g l ∧ Kp st g l H H1 ∧ (b = false → 3 ≤ r ∧ 2 ≤ p)) (fun Q hq => ?_) (fun H1 hb => ?_) (fun H1 hb => ?_)
  · refine ⟨_, rfl, _, _, rfl, rfl, _, rfl, ?_⟩
    by_cases a : r < 3
    · exact iteY (by omega) (hq _ _ ⟨S, Kp.refl _, (fun z => nomatch z)⟩)
    refine iteN (by omega) ⟨_, rfl, _, _, rfl, rfl, _, rfl, ?_⟩
    by_cases b : p < 2
    · exact iteY (by omega) (hq _ _ ⟨S, Kp.refl _, (fun z => nomatch z)⟩)
    refine iteN (by omega) ⟨_, rfl, st, g, l, 4, rfl, by decide, by decide, S, fun d H1 d0 d1 S1 k1 => ⟨rfl, _, rfl, hq _ _ ⟨S1, k1, fun _ => ⟨by omega, by omega⟩⟩⟩⟩
  · obtain ⟨S1, k1, _⟩ := hb
    refine ⟨_, rfl, _, rfl, _, rfl, by show 2 ≤ sizeLine; decide, fun rm nrm => ⟨Nat.zero_le _, fun pl npl => ?_⟩⟩
    have s1 := same_upd (o := .lst [.int (r : Nat), .int (p : Nat)]) nrm
    have s2 := same_upd (o := .lst []) npl
    have erm := s2 _ _ (upd_same (H := H1) (a := rm) (o := .lst [.int (r : Nat), .int (p : Nat)]))
    have npl1 : H1 pl = none := s1.free npl
    refine ⟨st, g, l, rm, pl, 3, r, p, [], rfl, by decide, by decide, by decide, by omega, by omega, by omega, by show 0 + r ≤ 20; omega, Lt.begin ((S1.same s1).same s2) erm upd_same (S1.ne nrm) (S1.ne npl1) (ne_of_none upd_same npl), fun t v H' r' p' po' L k at_ fn nn er ep el => ?_⟩
    exact q t v H' ⟨fn, by omega, by omega⟩ nn at_ L.S (k1.trans (Kp.ofKn k (s1.trans s2) nrm npl1))
  obtain ⟨S1, k1, hrp⟩ := hb
  obtain ⟨r3, p2⟩ := hrp rfl
  clear hrp
  dsimp only [tNext]
  have e1 : ((r : Int) - 1) / 2 = (((r - 1) / 2 : Nat) : Int) := by omega
  have e2 : (p : Int) / 2 = ((p / 2 : Nat) : Int) := by omega
  refine ⟨_, rfl, _, _, rfl, rfl, _, _, rfl, rfl, ⟨by decide, by decide⟩, _, rfl, _, _, rfl, rfl, ⟨by decide, by decide⟩, by show 2 ≤ sizeLine; decide, fun rm nrm => ?_⟩
  have s1 := same_upd (o := .lst [.int (((r : Int) - 1) / 2), .int ((p : Int) / 2)]) nrm
  have erm : (upd H1 rm (.lst [.int (((r : Int) - 1) / 2), .int ((p : Int) / 2)])) rm = some (.lst [.int (((r - 1) / 2 : Nat) : Int), .int ((p / 2 : Nat) : Int)]) := by rw [upd_same, e1, e2]
  generalize upd H1 rm (.lst [.int (((r : Int) - 1) / 2), .int ((p : Int) / 2)]) = H2 at *
  dsimp only [gName]
  refine ⟨_, rfl, _, rfl, Nat.zero_le _, fun pl npl => ?_⟩
  have s2 := same_upd (o := .lst []) npl
  have erm2 := s2 _ _ erm
  have npl1 : H1 pl = none := s1.free npl
  refine ⟨st, g, l, rm, pl, 2, (r - 1) / 2, p / 2, [], rfl, by decide, by decide, by decide, by omega, by omega, by omega, by show 0 + (r - 1) / 2 ≤ 20; omega, Lt.begin ((S1.same s1).same s2) erm2 upd_same (S1.ne nrm) (S1.ne npl1) (ne_of_none erm npl), fun t v H3 r' p' po' L k at_ fn nn er ep el => ?_⟩
  have k3 := k1.trans (Kp.ofKn k (s1.trans s2) nrm npl1)
  have S3 := L.S
  have hr2 : 2 * t.recs ≤ 4 := by omega
  have hp2 : 2 * t.plains ≤ p := by omega
  clear L k el er ep erm erm2 nrm npl npl1 s1 s2 k1 S1 S
  obtain ⟨fd3, fs3, _⟩ := fine_has 2 t fn
  have bn := bnd3 (show 2 ≤ 3 by decide)
  dsimp only [gName]
  refine ⟨_, rfl, _, rfl, by show 2 ≤ sizeLine; decide, fun A nA => ?_⟩
  have s4 := same_upd (o := .lst [v, v]) nA
  have nAH : H A = none := by
    cases e : H A with
    | none => rfl
    | some o =>
      exfalso
      obtain ⟨a1, a2, a3⟩ := S3.ne nA
      rw [k3 _ _ e a1 a2 a3] at nA
      cases nA
  obtain ⟨a1, a2, a3⟩ := S3.ne nA
  have eA : (upd H3 A (.lst [v, v])) A = some (.lst [v, v]) := upd_same
  have S4 := S3.same s4
  have k4 := k3.trans (Kp.of s4)
  have at4 := at_.same s4
  generalize upd H3 A (.lst [v, v]) = H4 at *
  clear S3 k3 at_ nA s4
  dsimp only [gName]
  refine seq_split3 (fun σ' J => ∃ (xs : List V) (ts : List Tr), σ' = [some (.ref st), some (.int r), some (.int p), some (.ref rm), some v, some (.ref A), none, none, none, none] ∧ J A = some (.lst xs) ∧ TsAt J xs ts ∧ ts ≠ [] ∧ ts.length ≤ 3 ∧ (∀ x ∈ ts, Fine 2 x) ∧ (ts.map Tr.recs).sum ≤ 4 ∧ (ts.map Tr.plains).sum ≤ 5 ∧ StAt J st g l ∧ Kp st g l H J) (fun Dx hDx => ?_) fun σ' J hJ => ?_
  · refine if_two (fun b H1 => StAt H1 st g l ∧ Kp st g l H H1 ∧ H1 A = some (.lst [v, v]) ∧ TrAt H1 t v ∧ (b = true → 2 * t.plains < p)) (fun Q hq => ?_) (fun H1 hb => ?_) (fun H1 hb => ?_)
    · refine ⟨_, rfl, t, v, rfl, at4, by omega, by omega, fun pz H5 s5 ez => ⟨pz, _, 1, .int (t.plains : Nat), rfl, rfl, .inl (.inl ez), rfl, 2, ((t.plains : Nat) : Int), rfl, rfl, .inl ⟨by decide, by decide⟩, _, rfl, _, _, rfl, rfl, _, rfl, ?_⟩⟩
      by_cases c : 2 * t.plains < p
      · refine iteY (by omega) ⟨_, rfl, st, g, l, 2, rfl, by decide, by decide, S4.same s5, fun d H6 d0 d1 S6 k6 => ⟨d != 0, rfl, hq _ _ ⟨S6, (k4.trans (Kp.of s5)).trans k6, k6 _ _ (s5 _ _ eA) a1 a2 a3, (at4.same s5).tups (kp_tups (S4.same s5) k6), fun _ => c⟩⟩⟩
      · exact iteN (by omega) (hq _ _ ⟨S4.same s5, k4.trans (Kp.of s5), s5 _ _ eA, at4.same s5, (fun z => nomatch z)⟩)
    · obtain ⟨S5, k5, eA5, at5, c⟩ := hb
      have c := c rfl
      refine ⟨_, rfl, .inl ⟨rfl, _, .inl (.inl eA5)⟩, _, rfl, st, g, l, 3, rfl, by decide, by decide, S5, fun d H6 d0 d1 S6 k6 => ⟨Nat.zero_le _, fun u nu => ?_⟩⟩
      have s7 := same_upd (o := .tup []) nu
      have eA6 := s7 _ _ (k6 _ _ eA5 a1 a2 a3)
      have at6 := (at5.tups (kp_tups S5 k6)).same s7
      have S7 := S6.same s7
      have k7 := (k5.trans k6).trans (Kp.of s7)
      have atN : TrAt (upd H6 u (.tup [])) .nil (.ref u) := ⟨u, [], rfl, upd_same, rfl⟩
      generalize upd H6 u (.tup []) = H7 at *
      refine ⟨A, _, d, .ref u, rfl, rfl, eA6, by show 2 < sizeLine; decide, d0, by omega, ?_⟩
      have mt : ∀ ys : List V, ∀ c xs, H7 c = some (.tup xs) → (upd H7 A (.lst ys)) c = some (.tup xs) := fun ys => mut_tups (ys := ys) eA6
      have kk : ∀ ys : List V, Kp st g l H (upd H7 A (.lst ys)) := fun ys b o e b1 b2 b3 => by
        rw [upd_ne (ne_of_none e nAH)]
        exact k7 b o e b1 b2 b3
      have fN : Fine 2 .nil := .inl rfl
      have pN : Tr.plains .nil = 1 := rfl
      have rN : Tr.recs .nil = 0 := rfl
      have h3 : d = 0 ∨ d = 1 ∨ d = 2 := by omega
      rcases h3 with rfl | rfl | rfl
      · refine hDx _ _ ⟨[.ref u, v, v], [.nil, t, t], rfl, upd_same, ⟨atN.tups (mt _), at6.tups (mt _), at6.tups (mt _), trivial⟩, by simp, by simp, ?_, ?_, ?_, S7.upd a1 a2 a3, kk _⟩
        · intro x hx
          simp only [List.mem_cons, List.not_mem_nil, or_false] at hx
          rcases hx with rfl | rfl | rfl <;> assumption
        · simp [rN]; omega
        · simp [pN]; omega
      · refine hDx _ _ ⟨[v, .ref u, v], [t, .nil, t], rfl, upd_same, ⟨at6.tups (mt _), atN.tups (mt _), at6.tups (mt _), trivial⟩, by simp, by simp, ?_, ?_, ?_, S7.upd a1 a2 a3, kk _⟩
        · intro x hx
          simp only [List.mem_cons, List.not_mem_nil, or_false] at hx
          rcases hx with rfl | rfl | rfl <;> assumption
        · simp [rN]; omega
        · simp [pN]; omega
      · refine hDx _ _ ⟨[v, v, .ref u], [t, t, .nil], rfl, upd_same, ⟨at6.tups (mt _), at6.tups (mt _), atN.tups (mt _), trivial⟩, by simp, by simp, ?_, ?_, ?_, S7.upd a1 a2 a3, kk _⟩
        · intro x hx
          simp only [List.mem_cons, List.not_mem_nil, or_false] at hx
          rcases hx with rfl | rfl | rfl <;> assumption
        · simp [rN]; omega
        · simp [pN]; omega
    · obtain ⟨S5, k5, eA5, at5, _⟩ := hb
      refine hDx _ _ ⟨[v, v], [t, t], rfl, eA5, ⟨at5, at5, trivial⟩, by simp, by simp, ?_, ?_, ?_, S5, k5⟩
      · intro x hx
        simp only [List.mem_cons, List.not_mem_nil, or_false, or_self] at hx
        rw [hx]; exact fn
      · simp; omega
      · simp; omega
  obtain ⟨xs, ts, rfl, eA', hts, tne, t3, tf, tr, tp, SJ, kJ⟩ := hJ
  clear eA S4 k4 at4 fn nn hr2 hp2 fd3 fs3 bn
  have lx := hts.len
  refine ⟨Nat.zero_le _, fun D nD => ?_⟩
  have s0 := same_upd (o := .lst []) nD
  obtain ⟨d1, d2, d3⟩ := SJ.ne nD
  have nDH : H D = none := by
    cases e : H D with
    | none => rfl
    | some o => rw [kJ _ _ e d1 d2 d3] at nD; cases nD
  have aD : A ≠ D := fun z => by rw [← z, eA'] at nD; cases nD
  dsimp only [gName]
  refine ⟨_, rfl, A, rfl, ⟨_, .inl (.inl (s0 _ _ eA'))⟩, ?_⟩
  refine for_list (K := K) (a := A) (xs := xs) (fun i σ HZ => ∃ (y3 y4 y5 : Option V) (ps : List V) (rr : List (Str × Tr)), σ = [some (.ref st), some (.int r), some (.int p), some (.ref rm), some v, some (.ref A), some (.ref D), y3, y4, y5] ∧ Kp st g l H HZ ∧ StAt HZ st g l ∧ HZ D = some (.lst ps) ∧ FsAt HZ (.ofFields rr) ps ∧ rr.map (·.2) = ts.take i ∧ (∀ m ∈ rr, isWord m.1 = true) ∧ (rr.map (·.1)).Nodup ∧ HZ A = some (.lst xs) ∧ TsAt HZ xs ts) ⟨_, _, _, [], [], rfl, kJ.trans (Kp.of s0), SJ.same s0, upd_same, rfl, rfl, (fun _ h => nomatch h), List.nodup_nil, s0 _ _ eA', hts.same s0⟩ (fun i σ HZ _ pp => ?_) (fun i vv σ HZ hx pp => ?_) (fun σ HZ pp => ?_)
  · obtain ⟨_, _, _, _, _, _, _, _, _, _, _, _, _, h, _⟩ := pp
    exact .inl (.inl h)
  · obtain ⟨y3, y4, y5, ps, rr, rfl, kZ, SZ, eD, hf, er, hw, nd, eAZ, tZ⟩ := pp
    obtain ⟨tt, ht, htv⟩ := tZ.get hx
    have hi : i < ts.length := (List.getElem?_eq_some_iff.mp ht).1
    have lr : rr.length = i := by
      have := congrArg List.length er
      rw [List.length_map, List.length_take] at this
      omega
    have lp := hf.len
    rw [Tr.fields_of] at lp
    dsimp only [gName]
    refine ⟨_, rfl, D, rfl, ⟨_, .inl (.inl eD)⟩, fun W nW => ?_⟩
    obtain ⟨w1, w2, w3⟩ := SZ.ne nW
    refine lcM (walk_list (xs := ps)) rr lp.symm (fun m => some (.str m.1)) (fun H s => s.seq (.inl (.inl eD))) (sz4 (by omega)) nW (fun i x m H' hx hm' s' => ?_) (fun H1 s2 e1 => ?_)
    · obtain ⟨p, q', g1, g2, g3⟩ := hf.get (m := m) (by rw [Tr.fields_of]; exact hm')
      rw [g1] at hx
      cases hx
      intro Q1 Q0 h1 h0
      exact ⟨rfl, _, rfl, p, _, 0, .str m.1, rfl, rfl, .inl (.inl (s' _ _ g2)), rfl, h1 _ _ rfl (Same.refl _)⟩
    have ew : (rr.filterMap fun m => some (V.str m.1)) = (rr.map (·.1)).map V.str := by
      rw [List.filterMap_eq_map', List.map_map]
      rfl
    rw [ew] at e1
    dsimp only [gName]
    have S1 := SZ.same s2
    refine ⟨_, rfl, .inl ⟨rfl, _, .inl (.inl (s2 _ _ eD))⟩, _, rfl, _, rfl, st, g, l, W, rr.map (·.1), rfl, e1, w1, w2, w3, by rw [List.length_map]; omega, S1, fun z H2 zw zn S2 k2 => ?_⟩
    have kZ2 := (kZ.trans (Kp.of s2)).trans k2
    have eD2 := k2 _ _ (s2 _ _ eD) d1 d2 d3
    have tu : ∀ c ys, HZ c = some (.tup ys) → H2 c = some (.tup ys) := fun c ys e => kp_tups S1 k2 _ _ (s2 _ _ e)
    have htv2 := htv.tups tu
    have hf2 := hf.tups tu
    refine ⟨_, rfl, by show 2 ≤ sizeLine; decide, fun tp ntp => ?_⟩
    have stp := same_upd (o := .tup [.str z, vv]) ntp
    have etp : (upd H2 tp (.tup [.str z, vv])) tp = some (.tup [.str z, vv]) := upd_same
    have eD3 := stp _ _ eD2
    have kZ3 := kZ2.trans (Kp.of stp)
    have S3 := S2.same stp
    have eA3 := stp _ _ (k2 _ _ (s2 _ _ eAZ) a1 a2 a3)
    have tZ3 := (tZ.tups tu).same stp
    have htv3 := htv2.same stp
    have hf3 := hf2.same stp
    generalize upd H2 tp (.tup [.str z, vv]) = H3 at *
    refine ⟨D, _, _, rfl, rfl, eD3, Nat.lt_of_le_of_lt (show ps.length ≤ 1000 by omega) (by decide), ?_⟩
    have mt := mut_tups (ys := ps ++ [V.ref tp]) eD3
    refine ⟨_, _, _, ps ++ [.ref tp], rr ++ [(z, tt)], rfl, ?_, S3.upd d1 d2 d3, upd_same, (hf3.snoc etp htv3).tups mt, ?_, ?_, ?_, by rw [upd_ne aD]; exact eA3, tZ3.tups mt⟩
    · intro b o e b1 b2 b3
      rw [upd_ne (ne_of_none e nDH)]
      exact kZ3 b o e b1 b2 b3
    · rw [List.map_append, er, List.take_add_one, ht]
      rfl
    · intro m hm
      rcases List.mem_append.mp hm with h | h
      · exact hw m h
      · rw [List.mem_singleton.mp h]; exact zw
    · rw [List.map_append]
      refine List.nodup_append.mpr ⟨nd, by simp, fun x hx y hy e => ?_⟩
      have hy : y = z := by simpa using hy
      rw [e, hy] at hx
      exact zn hx
  · obtain ⟨y3, y4, y5, ps, rr, rfl, kZ, SZ, eD, hf, er, hw, nd, eAZ, tZ⟩ := pp
    rw [lx, List.take_length] at er
    refine ⟨_, rfl, D, ps, rfl, .inl ⟨.inl (.inl eD), fun u nu => ?_⟩⟩
    have su := same_upd (o := .tup ps) nu
    obtain ⟨f3, nn3, rc, pc⟩ := rec_ok (t := .ofFields rr) (d := 2) (by rw [Tr.fields_of]; exact er) (by rw [Tr.fields_of]; exact hw) (by rw [Tr.fields_of]; exact nd) tne t3 tf
    exact q (.ofFields rr) (.ref u) _ ⟨f3, by omega, by omega⟩ nn3 ⟨u, ps, rfl, upd_same, hf.same su⟩ (SZ.same su) (kZ.trans (Kp.of su))
end
end Lx
namespace Ni
open PySem PySem.Spec PyProof.Rows L2 Ub Ur Ug Ue Up Uo Ve Va Vk Wb Pt Gr Sb Rw
def rInT (K : PySem.W.Frag) : R2 := fun x y H Q => ∃ d ds, Dp K H x d ∧ Dp K H y (.tuple ds) ∧ SeqAt.shaped d = true ∧ SeqAt.shaped (.tuple ds) = true ∧ Q (.bl (ds.any fun z => PyData.eqv z d)) H
theorem op_inT {X : Cx} (hu : X.A.units + 65 < cLine) : OpR X (compareOp .In) (rInT X.K) := by
  intro pins s σ H x y v u Q I rx ry h
  obtain ⟨d, ds, hd, he, sd, se, q⟩ := h
  obtain ⟨as, r1⟩ := Dp.reads I d x v hd rx
  obtain ⟨bs, r2⟩ := Dp.reads I (.tuple ds) y u he ry
  exact SeqAt.in_tuple_reads r2 r1 (SeqAt.canLay_of_shaped se) (SeqAt.canLay_of_shaped sd) (room_in_shaped sd hu) ⟨.bl _, H, I, rfl, q⟩
theorem op_inTK {X : Cx} (K : PySem.W.Frag) (hu : X.A.units + 65 < cLine) (e : X.K = K := by rfl) : OpR X (compareOp .In) (rInT K) := e ▸ op_inT hu
/-- what may stand in a row -/
def LfV (H : Hp) (v : V) : Prop := (∃ i : Int, v = .int i) ∨ (∃ b : Bool, v = .bl b) ∨ v = .non ∨ v = .str "0" ∨ ∃ p : Addr, v = .ref p ∧ H p = some (.tup [.int 0])
theorem LfV.tups {H H' : Hp} {v : V} (k : ∀ c xs, H c = some (.tup xs) → H' c = some (.tup xs)) (h : LfV H v) : LfV H' v := by
  rcases h with h | h | h | h | ⟨p, e, h⟩
  · exact .inl h
  · exact .inr (.inl h)
  · exact .inr (.inr (.inl h))
  · exact .inr (.inr (.inr (.inl h)))
  · exact .inr (.inr (.inr (.inr ⟨p, e, k _ _ h⟩)))
/-- a row: a tuple or a list of such values -/
def RwV (k : Nat) (N : List Addr) (H : Hp) (v : V) : Prop := ∃ (p : Addr) (ys : List V), v = .ref p ∧ (H p = some (.tup ys) ∨ H p = some (.lst ys)) ∧ p ∉ N ∧ ys.length ≤ k ∧ ∀ y ∈ ys, LfV H y
def FmV (k : Nat) (N : List Addr) (H : Hp) (v : V) : Prop := ∃ (p : Addr) (xs : List V), v = .ref p ∧ (H p = some (.tup xs) ∨ H p = some (.lst xs)) ∧ p ∉ N ∧ xs.length ≤ k ∧ ∀ x ∈ xs, RwV k N H x
theorem RwV.kp {k : Nat} {st g l : Addr} {H H' : Hp} {v : V} (S : StAt H st g l) (kp : Kp st g l H H') (h : RwV k [st, g, l] H v) : RwV k [st, g, l] H' v := by
  obtain ⟨p, ys, e, h1, n, h2, h3⟩ := h
  have n' := n
  simp only [List.mem_cons, List.not_mem_nil, or_false, not_or] at n'
  exact ⟨p, ys, e, h1.imp (fun z => kp _ _ z n'.1 n'.2.1 n'.2.2) (fun z => kp _ _ z n'.1 n'.2.1 n'.2.2), n, h2, fun y hy => (h3 y hy).tups (kp_tups S kp)⟩
theorem FmV.kp {k : Nat} {st g l : Addr} {H H' : Hp} {v : V} (S : StAt H st g l) (kp : Kp st g l H H') (h : FmV k [st, g, l] H v) : FmV k [st, g, l] H' v := by
  obtain ⟨p, ys, e, h1, n, h2, h3⟩ := h
  have n' := n
  simp only [List.mem_cons, List.not_mem_nil, or_false, not_or] at n'
  exact ⟨p, ys, e, h1.imp (fun z => kp _ _ z n'.1 n'.2.1 n'.2.2) (fun z => kp _ _ z n'.1 n'.2.1 n'.2.2), n, h2, fun y hy => (h3 y hy).kp S kp⟩
theorem RwV.le {k m : Nat} {N : List Addr} {H : Hp} {v : V} (h : RwV k N H v) (l : k ≤ m) : RwV m N H v := by
  obtain ⟨p, ys, e, h1, n, h2, h3⟩ := h
  exact ⟨p, ys, e, h1, n, by omega, h3⟩
theorem FmV.le {k m : Nat} {N : List Addr} {H : Hp} {v : V} (h : FmV k N H v) (l : k ≤ m) : FmV m N H v := by
  obtain ⟨p, ys, e, h1, n, h2, h3⟩ := h
  exact ⟨p, ys, e, h1, n, by omega, fun y hy => (h3 y hy).le l⟩
/-- as data -/
def leafD : PyData → Bool
  | .int _ => true
  | .bool _ => true
  | .none => true
  | .str z => z == "0"
  | .tuple [.int _] => true
  | _ => false
def rowF (k : Nat) (d : PyData) : Prop := ∃ es, (d = .tuple es ∨ d = .list es) ∧ es.length ≤ k ∧ ∀ e ∈ es, leafD e = true
def frmF (k : Nat) (d : PyData) : Prop := ∃ rs, (d = .tuple rs ∨ d = .list rs) ∧ rs.length ≤ k ∧ ∀ r ∈ rs, rowF k r
theorem LfV.data {N : List Addr} {H : Hp} {v : V} (nt : ∀ b ∈ N, ∃ xs, H b = some (.lst xs)) (h : LfV H v) : ∃ d, DtV N H v d ∧ leafD d = true := by
  rcases h with ⟨i, rfl⟩ | ⟨b, rfl⟩ | rfl | rfl | ⟨p, rfl, h⟩
  · exact ⟨_, .int i, rfl⟩
  · exact ⟨_, .bl b, rfl⟩
  · exact ⟨_, .non, rfl⟩
  · exact ⟨_, .str _, by decide⟩
  · exact ⟨_, .tup h (fun z => by obtain ⟨xs, e⟩ := nt p z; rw [h] at e; cases e) (.cons (.int 0) .nil), rfl⟩
theorem dtvs_all {N : List Addr} {H : Hp} {P : PyData → Prop} {R : V → Prop} (f : ∀ v, R v → ∃ d, DtV N H v d ∧ P d) : ∀ xs : List V, (∀ x ∈ xs, R x) → ∃ ds, DtVs N H xs ds ∧ ∀ d ∈ ds, P d
  | [], _ => ⟨[], .nil, fun _ h => nomatch h⟩
  | x :: xs, h => by
    obtain ⟨d, h1, h2⟩ := f x (h x (List.mem_cons_self ..))
    obtain ⟨ds, h3, h4⟩ := dtvs_all f xs fun y hy => h y (List.mem_cons_of_mem _ hy)
    refine ⟨d :: ds, .cons h1 h3, fun e he => ?_⟩
    rcases List.mem_cons.mp he with rfl | he
    · exact h2
    · exact h4 e he
theorem RwV.data {k : Nat} {N : List Addr} {H : Hp} {v : V} (nt : ∀ b ∈ N, ∃ xs, H b = some (.lst xs)) (h : RwV k N H v) : ∃ d, DtV N H v d ∧ rowF k d := by
  obtain ⟨p, ys, rfl, h1, n, h2, h3⟩ := h
  obtain ⟨ds, g1, g2⟩ := dtvs_all (fun v hv => LfV.data nt hv) ys h3
  have := g1.len
  rcases h1 with h1 | h1
  · exact ⟨_, .tup h1 n g1, ds, .inl rfl, by omega, g2⟩
  · exact ⟨_, .lst h1 n g1, ds, .inr rfl, by omega, g2⟩
theorem FmV.data {k : Nat} {N : List Addr} {H : Hp} {v : V} (nt : ∀ b ∈ N, ∃ xs, H b = some (.lst xs)) (h : FmV k N H v) : ∃ d, DtV N H v d ∧ frmF k d := by
  obtain ⟨p, ys, rfl, h1, n, h2, h3⟩ := h
  obtain ⟨ds, g1, g2⟩ := dtvs_all (fun v hv => RwV.data nt hv) ys h3
  have := g1.len
  rcases h1 with h1 | h1
  · exact ⟨_, .tup h1 n g1, ds, .inl rfl, by omega, g2⟩
  · exact ⟨_, .lst h1 n g1, ds, .inr rfl, by omega, g2⟩
theorem frmF.small {k : Nat} {d : PyData} (h : frmF k d) (hk : k ≤ 50) : smallD d := by
  obtain ⟨rs, h1, h2, h3⟩ := h
  intro ds e
  subst e
  rcases h1 with h1 | h1
  · injection h1 with h1
    subst h1
    refine ⟨by omega, fun r hr es e => ?_⟩
    obtain ⟨es', g1, g2, _⟩ := h3 r hr
    rw [e] at g1
    rcases g1 with g1 | g1
    · injection g1 with g1
      subst g1
      omega
    · cases g1
  · cases h1
theorem layAll : ∀ {es : List PyData}, (∀ e ∈ es, e.canLay0 = true) → PyData.canLayAll0 es = true
  | [], _ => by simp [PyData.canLayAll0]
  | e :: es, h => by
    simp only [PyData.canLayAll0, Bool.and_eq_true]
    exact ⟨h e (List.mem_cons_self ..), layAll fun x hx => h x (List.mem_cons_of_mem _ hx)⟩
theorem depAll {n : Nat} : ∀ {es : List PyData}, (∀ e ∈ es, e.depth ≤ n) → PyData.depthAll es ≤ n
  | [], _ => by simp [PyData.depthAll]
  | e :: es, h => by
    simp only [PyData.depthAll]
    exact Nat.max_le.mpr ⟨h e (List.mem_cons_self ..), depAll fun x hx => h x (List.mem_cons_of_mem _ hx)⟩
theorem leaf_lay {d : PyData} (h : leafD d = true) : d.canLay0 = true ∧ d.depth ≤ 1 := by
  unfold leafD at h
  split at h
  · simp [PyData.canLay0, PyData.depth]
  · simp [PyData.canLay0, PyData.depth]
  · simp [PyData.canLay0, PyData.depth]
  · rename_i z
    have e : z = "0" := by simpa using h
    subst e
    exact ⟨by decide +kernel, by decide +kernel⟩
  · simp [PyData.canLay0, PyData.canLayAll0, PyData.depth, PyData.depthAll]
  · cases h
theorem row_lay {k : Nat} {d : PyData} (h : rowF k d) : d.canLay0 = true ∧ d.depth ≤ 2 := by
  obtain ⟨es, h1, _, h3⟩ := h
  have a := layAll fun e he => (leaf_lay (h3 e he)).1
  have b := depAll (n := 1) fun e he => (leaf_lay (h3 e he)).2
  rcases h1 with rfl | rfl
  · simp [PyData.canLay0, PyData.depth, a]; omega
  · simp [PyData.canLay0, PyData.depth, a]; omega
theorem frm_shaped {k : Nat} {d : PyData} (h : frmF k d) : SeqAt.shaped d = true := by
  obtain ⟨es, h1, _, h3⟩ := h
  have a := layAll fun e he => (row_lay (h3 e he)).1
  have b := depAll (n := 2) fun e he => (row_lay (h3 e he)).2
  unfold SeqAt.shaped
  rcases h1 with rfl | rfl
  · simp [PyData.canLay0, PyData.depth, a]; omega
  · simp [PyData.canLay0, PyData.depth, a]; omega
theorem st_lists {st g l : Addr} {H : Hp} (S : StAt H st g l) : ∀ b ∈ [st, g, l], ∃ xs, H b = some (.lst xs) := fun b hb => by
  obtain ⟨⟨_, _, _, _, h1, h2, h3, _⟩, _⟩ := S
  simp only [List.mem_cons, List.not_mem_nil, or_false] at hb
  rcases hb with rfl | rfl | rfl
  · exact ⟨_, h1⟩
  · exact ⟨_, h2⟩
  · exact ⟨_, h3⟩
def sp_spoiled : Sp := fun vs H Q _ => ∃ (st g l : Addr) (v : V) (k : Nat), vs = [.ref st, v] ∧ StAt H st g l ∧ FmV k [st, g, l] H v ∧ k ≤ 40 ∧ ∀ v' H', FmV (k + 1) [st, g, l] H' v' → StAt H' st g l → Kp st g l H H' → Q v' H'
theorem if_three {c : TT} {t u : TS} {D : Ends} {σ : L2.St} {H : Hp} (B : Bool → Hp → Prop) (h1 : ∀ Q : Bool → Hp → Prop, (∀ b H1, B b H1 → Q b H1) → c σ H Q) (h2 : ∀ H1, B true H1 → t D σ H1) (h3 : ∀ H1, B false H1 → u D σ H1) : tIfS c t u D σ H := h1 _ fun b H1 hb => by
  cases b with
  | false => exact iteF (h3 _ hb)
  | true => exact iteT (h2 _ hb)
theorem no_empty {N : List Addr} {H : Hp} {xs : List V} {ds : List PyData} (h : DtVs N H xs ds) (e : (ds.any fun z => PyData.eqv z (.tuple [])) = false) {p : Addr} (hx : V.ref p ∈ xs) : H p ≠ some (.tup []) := fun hp => by
  obtain ⟨d, hd, h2⟩ := h.mem hx
  have : d = .tuple [] := by
    cases h2 with
    | lst h1 _ _ => rw [h1] at hp; cases hp
    | tup h1 _ h3 =>
      rw [h1] at hp
      cases hp
      cases h3
      rfl
  subst this
  have := List.any_eq_false.mp e _ hd
  exact this (by decide)
end Ni
namespace Lx
open PySem PySem.Spec PyProof.Rows L2 Ub Ur Ug Ue Up Uo Ve Va Vk Wb Pt Gr Sb Rw Ni
section
variable {P : Program} {w : World} {K : PySem.W.Frag} {mg : Str → Option Value} {base : Heap}
theorem sc_law_spoiled : FnScope ["_law_state", "_law_form_here", "_law_at_here", "_law_way", "_law_row", "_law_place", "_law_other", "_law_odd"] ["_law_state", "_law_form_here"] (defScope s_law_spoiled) := ⟨rfl, rfl, rfl, by decide +kernel, rfl, by decide +kernel, by decide +kernel⟩
theorem ok_law_spoiled {f : Addr} {fd : FuncData} (F : FunD K "_law_spoiled" "_law_spoiled" (defArgs s_law_spoiled) (defBody s_law_spoiled) (defScope s_law_spoiled) [] [] f fd) (T : Tx K mg) (c_law_draw : Cal P w K mg base 1 "_law_draw" ["_law_state", "_law_many"] sp_draw) (c_law_of : Cal P w K mg base 2 "_law_of" ["_law_state", "_law_some"] sp_of) : FnOk P w K mg base CX0 3 f fd ["_law_state", "_law_form_here"] sp_spoiled := by
  refine F.ok sc_law_spoiled (fun vs H Q E h => by obtain ⟨_, _, _, _, _, rfl, _⟩ := h; rfl) (fun cdv A outer s H vs Q E hr h => ?_)
  obtain ⟨st, g, l, v, k, rfl, S, fm, k40, q⟩ := h
  refine ⟨_, PSs.nox (pss_cons (ps_if (PW.pt (pw_or (pt_not (pt_val (pe_callB (call_isiK' K) (by rfl) T.isinstance (by decide +kernel) (pa_cons (pv 1) (pa_cons (pe_bltn (v := .ty "tuple") (by rfl) T.tuple (by decide +kernel) rfl) pa_nil))))) (pw_or (pt_cmpR (op_eq_nilK K hr.units0) (pv 1) (pe_tup pa_nil) (nomark _)) (pw_or1 (pt_cmpR (Ni.op_inTK K (units65 hr)) (pe_tup pa_nil) (pv 1) (by rfl))))))
        (pss_one (ps_ret (pv 1)))
        pss_nil)
      (pss_cons (ps_if (pt_not (pt_val (pe_callB (cr_allK K rfl) (by rfl) T.all (by decide +kernel) (pa_cons (pe_lc (own := [("_law_row", 4)]) (by rfl) sc_law_spoiled.nd (pi_tupK K (pv 1)) (blkOk_by (N := ["_law_state", "_law_form_here", "_law_at_here", "_law_way", "_law_row", "_law_place", "_law_other", "_law_odd"]) (sc := (defScope s_law_spoiled)) (by decide +kernel)) (fun _ _ _ _ _ => (pg_name (i := 4) sc_law_spoiled.nd rfl (by first | exact Or.inl rfl | exact Or.inr rfl))) (fun _ _ _ _ _ => pts_nil) (fun _ _ _ _ _ => (pe_callB (call_isiK' K) (by rfl) T.isinstance (by decide +kernel) (pa_cons (pv 4) (pa_cons (pe_bltn (v := .ty "tuple") (by rfl) T.tuple (by decide +kernel) rfl) pa_nil))))) pa_nil))))
        (pss_one (ps_ret (pv 1)))
        pss_nil)
      (pss_cons (ps_set (i := 2) sc_law_spoiled.nd rfl (by first | exact Or.inl rfl | exact Or.inr rfl) (pe_cal c_law_draw (hr.mono (by omega)) (by rfl) (pa_cons (pv 0) (pa_cons (pe_callB (call_len_seqK K) (by rfl) T.len (by decide +kernel) (pa_cons (pv 1) pa_nil)) pa_nil))))
      (pss_cons (ps_set (i := 3) sc_law_spoiled.nd rfl (by first | exact Or.inl rfl | exact Or.inr rfl) (pe_cal c_law_draw (hr.mono (by omega)) (by rfl) (pa_cons (pv 0) (pa_cons pe_int pa_nil))))
      (pss_cons (ps_set (i := 4) sc_law_spoiled.nd rfl (by first | exact Or.inl rfl | exact Or.inr rfl) (pe_callTy (call_list_ofK K) (by rfl) T.list (by decide +kernel) (pa_cons (pe_ix (ix_tupK K) (pv 1) (pv 2) (fun _ _ => rfl)) pa_nil)))
      (pss_cons (ps_set (i := 5) sc_law_spoiled.nd rfl (by first | exact Or.inl rfl | exact Or.inr rfl) (pe_cal c_law_draw (hr.mono (by omega)) (by rfl) (pa_cons (pv 0) (pa_cons (pe_callB (call_len_seqK K) (by rfl) T.len (by decide +kernel) (pa_cons (pv 4) pa_nil)) pa_nil))))
      (pss_cons (ps_set (i := 6) sc_law_spoiled.nd rfl (by first | exact Or.inl rfl | exact Or.inr rfl) (pe_cal c_law_draw (hr.mono (by omega)) (by rfl) (pa_cons (pv 0) (pa_cons (pe_callB (call_len_seqK K) (by rfl) T.len (by decide +kernel) (pa_cons (pv 4) pa_nil)) pa_nil))))
      (pss_cons (ps_if (pt_cmpR op_lt (pv 3) pe_int (nomark _))
        (pss_one (ps_asg (pe_op op_sub (pe_cal c_law_draw (hr.mono (by omega)) (by rfl) (pa_cons (pv 0) (pa_cons pe_int pa_nil))) pe_int) (pg_sub (pv 4) (pv 5) set_list)))
        (pss_one (ps_if (pt_cmpR op_lt (pv 3) pe_int (nomark _))
            (pss_one (ps_asg (pe_tup (pa_cons (pe_ix (ix_listK K) (pv 4) (pv 6) (fun _ _ => rfl)) (pa_cons (pe_ix (ix_listK K) (pv 4) (pv 5) (fun _ _ => rfl)) pa_nil))) (pg_tupK K (n := 2) rfl (pgs_cons (pg_sub (pv 4) (pv 5) set_list) (pgs_cons (pg_sub (pv 4) (pv 6) set_list) pgs_nil)))))
            (pss_one (ps_if (pt_cmpR op_eq (pv 3) pe_int (nomark _))
                (pss_cons (ps_set (i := 7) sc_law_spoiled.nd rfl (by first | exact Or.inl rfl | exact Or.inr rfl) (pe_lst (pa_cons pe_bl (pa_cons pe_bl (pa_cons pe_non (pa_cons pe_str (pa_cons (pe_tup (pa_cons pe_int pa_nil)) (pa_cons (pe_op op_pow pe_int pe_int) pa_nil))))))))
                  (pss_one (ps_asg (pe_cal c_law_of (hr.mono (by omega)) (by rfl) (pa_cons (pv 0) (pa_cons (pv 7) pa_nil))) (pg_sub (pv 4) (pv 5) set_list))))
                (pss_one (ps_if (pt_cmpR op_eq (pv 3) pe_int (nomark _))
                    (pss_one (ps_set (i := 4) sc_law_spoiled.nd rfl (by first | exact Or.inl rfl | exact Or.inr rfl) (pe_slice (sl_listK K) (pv 4) po_none (po_some (pe_un un_neg pe_int)))))
                    (pss_one (ps_if (pt_cmpR op_eq (pv 3) pe_int (nomark _))
                        (pss_one (ps_set (i := 4) sc_law_spoiled.nd rfl (by first | exact Or.inl rfl | exact Or.inr rfl) (pe_op op_cat (pv 4) (pe_lst (pa_cons (pe_cal c_law_draw (hr.mono (by omega)) (by rfl) (pa_cons (pv 0) (pa_cons pe_int pa_nil))) pa_nil)))))
                        pss_nil)))))))))
      (pss_cons (ps_if (pt_cmpR op_eq (pv 3) pe_int (nomark _))
        (pss_one (ps_ret (pe_ifExp (pt_truthK K (pv 6) (by intro _; rfl)) (pe_callTy (call_list_ofK K) (by rfl) T.list (by decide +kernel) (pa_cons (pv 1) pa_nil)) (pe_op (op_catAK K) (pv 1) (pe_tup (pa_cons (pe_tup (pa_cons pe_int pa_nil)) pa_nil))))))
        pss_nil)
      (pss_cons (ps_if (PW.pt (pw_and (pt_cmpR op_eq (pv 3) pe_int (nomark _)) (pw_and1 (pt_truthK K (pv 6) (by intro _; rfl)))))
        (pss_one (ps_ret (pe_slice (sl_tupAK K) (pv 1) po_none (po_some (pe_un un_neg pe_int)))))
        pss_nil)
      (pss_cons (ps_if (pt_cmpR op_eq (pv 3) pe_int (nomark _))
        (pss_one (ps_ret (pe_op (op_catAK K) (pe_op (op_catAK K) (pe_slice (sl_tupAK K) (pv 1) po_none (po_some (pv 2))) (pe_tup (pa_cons (pv 4) pa_nil))) (pe_slice (sl_tupAK K) (pv 1) (po_some (pe_op op_add (pv 2) pe_int)) po_none))))
        pss_nil)
      (pss_one (ps_ret (pe_op (op_catAK K) (pe_op (op_catAK K) (pe_slice (sl_tupAK K) (pv 1) po_none (po_some (pv 2))) (pe_tup (pa_cons (pe_callTy (call_tuple_ofK K) (by rfl) T.tuple (by decide +kernel) (pa_cons (pv 4) pa_nil)) pa_nil))) (pe_slice (sl_tupAK K) (pv 1) (po_some (pe_op op_add (pv 2) pe_int)) po_none))))))))))))))), ?_⟩
  have ret : ∀ H1, Same H H1 → Q v H1 := fun H1 s1 => q v H1 ((fm.kp S (Kp.of s1)).le (by omega)) (S.same s1) (Kp.of s1)
  obtain ⟨d, dv, fd0⟩ := fm.data (st_lists S)
  have sh := frm_shaped fd0
  refine if_three (fun b H1 => Same H H1 ∧ (b = false → ∃ (p : Addr) (xs : List V), v = .ref p ∧ H p = some (.tup xs) ∧ xs ≠ [] ∧ ∀ c : Addr, V.ref c ∈ xs → H c ≠ some (.tup []))) (fun Q0 hq => ?_) (fun H1 hb => ?_) (fun H1 hb => ?_)
  · obtain ⟨T0, t1, t2⟩ := dv.free.tyT (K := K)
    refine ⟨_, rfl, _, _, _, _, _, rfl, .ty "tuple", t1, kit_ty t2, _, rfl, ?_⟩
    rcases dv.tupOr with ⟨p, xs, ds, rfl, rfl, hp, hx⟩ | no
    rotate_left
    · rw [no]
      exact iteT (hq _ _ ⟨Same.refl _, (fun z => nomatch z)⟩)
    refine iteF ?_
    refine ⟨_, rfl, Nat.zero_le _, fun e ne => ?_⟩
    have s1 := same_upd (o := .tup []) ne
    refine ⟨p, e, xs, rfl, rfl, .inl (.inl (s1 _ _ hp)), .inl (.inl upd_same), _, rfl, ?_⟩
    cases ex : xs.isEmpty with
    | true => exact iteT (hq _ _ ⟨s1, (fun z => nomatch z)⟩)
    | false =>
    refine iteF ?_
    refine ⟨Nat.zero_le _, fun e2 ne2 => ⟨_, rfl, ?_⟩⟩
    have s2 := same_upd (o := .tup []) ne2
    have s12 := s1.trans s2
    refine ⟨.tuple [], ds, (DtV.tup (N := []) upd_same (by simp) .nil).dp, (dv.same s12).free.dp, by decide, sh, _, rfl, hq _ _ ⟨s12, fun z => ⟨p, xs, rfl, hp, (fun z2 => by rw [z2] at ex; cases ex), fun c hc => no_empty hx z hc⟩⟩⟩
  · obtain ⟨s1, _⟩ := hb
    exact ⟨_, rfl, ret _ s1⟩
  obtain ⟨s1, hb⟩ := hb
  obtain ⟨p, xs, rfl, hp, xne, hno⟩ := hb rfl
  clear hb d dv fd0 sh
  dsimp only [tNext]
  obtain ⟨d, dv, _⟩ := fm.data (st_lists S)
  obtain ⟨ds, rfl, hx⟩ : ∃ ds, d = .tuple ds ∧ DtVs [st, g, l] H xs ds := by
    cases dv with
    | lst h1 _ _ => rw [h1] at hp; cases hp
    | tup h1 _ h3 => rw [h1] at hp; cases hp; exact ⟨_, rfl, h3⟩
  obtain ⟨p', xs', ep, hor, np, lk, hrows⟩ := fm
  cases ep
  have : xs' = xs := by
    rcases hor with h | h
    · rw [h] at hp; cases hp; rfl
    · rw [h] at hp; cases hp
  subst this
  clear hor dv
  refine if_three (fun b H2 => Same H H2 ∧ (b = false → ∀ x ∈ xs', ∃ (c : Addr) (ys : List V), x = .ref c ∧ H c = some (.tup ys) ∧ ys ≠ [] ∧ ys.length ≤ k ∧ ∀ y ∈ ys, LfV H y)) (fun Q0 hq => ?_) (fun H1 hb => ?_) (fun H2 hb => ?_)
  · refine ⟨_, rfl, p, rfl, ⟨_, .inl (.inl (s1 _ _ hp))⟩, fun D hD => ?_⟩
    refine lcM (walk_tup (xs := xs')) ds hx.len.symm (fun m => some (.bl (isTup m))) (fun H s => Same.tup s (.inl (.inl (s1 _ _ hp)))) (Nat.le_trans (show xs'.length ≤ 40 by omega) (by decide)) hD (fun i x m H' hxi hm' s' => ?_) (fun H3 s3 d3 => ?_)
    · obtain ⟨m', g1, g2⟩ := hx.get hxi
      rw [g1] at hm'
      cases hm'
      intro Q1 Q0 h1 h0
      obtain ⟨T0, t1, t2⟩ := ((g2.same s1).same s').free.tyT (K := K)
      exact ⟨rfl, _, rfl, _, _, _, _, _, rfl, .ty "tuple", t1, kit_ty t2, h1 _ _ rfl (Same.refl _)⟩
    have em : (ds.filterMap fun m => some (V.bl (isTup m))) = (ds.map isTup).map V.bl := by
      rw [List.filterMap_eq_map', List.map_map]
      rfl
    rw [em] at d3
    refine ⟨D, ds.map isTup, rfl, .inl (.inl d3), _, rfl, hq _ _ ⟨s1.trans s3, fun z x hxm => ?_⟩⟩
    obtain ⟨c, ys, rfl, hor, nc, ly, lfs⟩ := hrows x hxm
    obtain ⟨dd, hdd, g2⟩ := hx.mem hxm
    have z : (ds.map isTup).all id = true := by simpa using z
    have z2 : isTup dd = true := by simpa using List.all_eq_true.mp z (isTup dd) (List.mem_map.mpr ⟨dd, hdd, rfl⟩)
    rcases hor with h | h
    · exact ⟨c, ys, rfl, h, fun z => hno c hxm (by rw [h, z]), ly, lfs⟩
    · cases g2 with
      | lst _ _ _ => cases z2
      | tup h1 _ _ => rw [h1] at h; cases h
  · obtain ⟨s2, _⟩ := hb
    exact ⟨_, rfl, ret _ s2⟩
  obtain ⟨s2, hb⟩ := hb
  have hb := hb rfl
  have S2 := S.same s2
  clear hx s1 hno
  dsimp only [tNext]
  have hp2 := s2 _ _ hp
  have lx1 : 1 ≤ xs'.length := by
    cases xs' with
    | nil => exact absurd rfl xne
    | cons _ _ => exact Nat.succ_le_succ (Nat.zero_le _)
  -- at, way
  refine ⟨_, rfl, _, rfl, p, xs', rfl, .inr (.inl (.inl hp2)), st, g, l, (xs'.length : Nat), rfl, by omega, by omega, S2, fun a H3 a0 a1 S3 k3 => ?_⟩
  dsimp only [gName]
  refine ⟨_, rfl, st, g, l, 12, rfl, by decide, by decide, S3, fun wy H4 w0 w1 S4 k4 => ?_⟩
  dsimp only [gName]
  have k04 := ((Kp.of (st := st) (g := g) (l := l) s2).trans k3).trans k4
  obtain ⟨a, rfl⟩ : ∃ n : Nat, a = (n : Int) := ⟨a.toNat, by omega⟩
  have ha : a < xs'.length := by omega
  obtain ⟨x, hxa⟩ : ∃ x, xs'[a]? = some x := ⟨_, List.getElem?_eq_getElem ha⟩
  obtain ⟨c, ys, rfl, hc, yne, ly, lfs⟩ := hb x (List.mem_of_getElem? hxa)
  have hp4 := kp_tups S k04 _ _ hp
  have hc4 := kp_tups S k04 _ _ hc
  -- row
  refine ⟨_, rfl, _, rfl, p, xs', ((a : Nat) : Int), .ref c, rfl, rfl, .inl (.inl hp4), atI_nat hxa, c, ys, rfl, .inr (.inl (.inl hc4)), fun R nR => ?_⟩
  have s5 := same_upd (o := .lst ys) nR
  obtain ⟨r1, r2, r3⟩ := S4.ne nR
  have nR0 := S4.back k04 nR
  have S5 := S4.same s5
  have k05 := k04.trans (Kp.of s5)
  have eR : (upd H4 R (.lst ys)) R = some (.lst ys) := upd_same
  generalize upd H4 R (.lst ys) = H5 at *
  clear s5 S4 k4 S3 k3 hc4 hp4 nR
  dsimp only [gName]
  have ly1 : 1 ≤ ys.length := by
    cases ys with
    | nil => exact absurd rfl yne
    | cons _ _ => exact Nat.succ_le_succ (Nat.zero_le _)
  have lyk : (ys.length : Int) ≤ 1000000 := by omega
  refine ⟨_, rfl, _, rfl, R, ys, rfl, .inl (.inl (.inl eR)), st, g, l, (ys.length : Nat), rfl, by omega, by omega, S5, fun pl H6 p0 p1 S6 k6 => ?_⟩
  dsimp only [gName]
  have eR6 := k6 _ _ eR r1 r2 r3
  refine ⟨_, rfl, _, rfl, R, ys, rfl, .inl (.inl (.inl eR6)), st, g, l, (ys.length : Nat), rfl, by omega, by omega, S6, fun ot H7 o0 o1 S7 k7 => ?_⟩
  dsimp only [gName]
  have eR7 := k7 _ _ eR6 r1 r2 r3
  have k07 := (k05.trans k6).trans k7
  have lf7 : ∀ y ∈ ys, LfV H7 y := fun y hy => (lfs y hy).tups (kp_tups S k07)
  clear eR eR6 S5 S6 k05 k6 k7 lyk
  obtain ⟨pl, rfl⟩ : ∃ n : Nat, pl = (n : Int) := ⟨pl.toNat, by omega⟩
  obtain ⟨ot, rfl⟩ : ∃ n : Nat, ot = (n : Int) := ⟨ot.toNat, by omega⟩
  have hpl : pl < ys.length := by omega
  have hot : ot < ys.length := by omega
  have nRN : R ∉ [st, g, l] := by
    simp only [List.mem_cons, List.not_mem_nil, or_false, not_or]
    exact ⟨r1, r2, r3⟩
  have putR : ∀ (J : Hp) (zs : List V) (i : Nat) (y : V), Kp st g l H J → StAt J st g l → J R = some (.lst zs) → (∀ z ∈ zs, LfV J z) → LfV J y → (upd J R (.lst (zs.set i y))) R = some (.lst (zs.set i y)) ∧ (∀ z ∈ zs.set i y, LfV (upd J R (.lst (zs.set i y))) z) ∧ StAt (upd J R (.lst (zs.set i y))) st g l ∧ Kp st g l H (upd J R (.lst (zs.set i y))) := fun J zs i y kJ SJ eJ hz hy => by
    have mt := mut_tups (ys := zs.set i y) eJ
    refine ⟨upd_same, fun z hzm => ?_, SJ.upd r1 r2 r3, fun b o e b1 b2 b3 => by rw [upd_ne (ne_of_none e nR0)]; exact kJ b o e b1 b2 b3⟩
    rcases List.mem_or_eq_of_mem_set hzm with h | h
    · exact (hz z h).tups mt
    · rw [h]; exact hy.tups mt
  refine seq_split3 (fun σ' J => ∃ (R' : Addr) (zs : List V) (y7 : Option V), σ' = [some (.ref st), some (.ref p), some (.int (a : Nat)), some (.int wy), some (.ref R'), some (.int (pl : Nat)), some (.int (ot : Nat)), y7] ∧ J R' = some (.lst zs) ∧ R' ∉ [st, g, l] ∧ zs.length ≤ k + 1 ∧ (∀ z ∈ zs, LfV J z) ∧ StAt J st g l ∧ Kp st g l H J) (fun Dx hDx => ?_) fun σ' J hJ => ?_
  · refine ⟨_, rfl, _, _, rfl, rfl, _, rfl, ?_⟩
    by_cases c5 : wy < 5
    · refine iteY c5 ?_
      refine ⟨_, rfl, st, g, l, 7, rfl, by decide, by decide, S7, fun d H8 d0 d1 S8 k8 => ⟨_, _, rfl, rfl, ?_⟩⟩
      have eR8 := k8 _ _ eR7 r1 r2 r3
      refine ⟨_, rfl, _, rfl, R, ys, ((pl : Nat) : Int), pl, rfl, rfl, eR8, ixN_nat hpl, ?_⟩
      obtain ⟨g1, g2, g3, g4⟩ := putR H8 ys pl (.int (d - 1)) (k07.trans k8) S8 eR8 (fun y hy => (lf7 y hy).tups (kp_tups S7 k8)) (.inl ⟨_, rfl⟩)
      exact hDx _ _ ⟨R, _, _, rfl, g1, nRN, by rw [List.length_set]; omega, g2, g3, g4⟩
    refine iteN c5 ?_
    refine ⟨_, rfl, _, _, rfl, rfl, _, rfl, ?_⟩
    by_cases c7 : wy < 7
    · refine iteY c7 ?_
      obtain ⟨yo, hyo⟩ : ∃ y, ys[ot]? = some y := ⟨_, List.getElem?_eq_getElem hot⟩
      obtain ⟨yp, hyp⟩ : ∃ y, ys[pl]? = some y := ⟨_, List.getElem?_eq_getElem hpl⟩
      refine ⟨_, rfl, _, rfl, R, ys, ((ot : Nat) : Int), yo, rfl, rfl, .inl (.inl eR7), atI_nat hyo, _, rfl, _, rfl, R, ys, ((pl : Nat) : Int), yp, rfl, rfl, .inl (.inl eR7), atI_nat hyp, by show 2 ≤ sizeLine; decide, fun t2 nt2 => ?_⟩
      have st2 := same_upd (o := .tup [yo, yp]) nt2
      have et2 : (upd H7 t2 (.tup [yo, yp])) t2 = some (.tup [yo, yp]) := upd_same
      have eR8 := st2 _ _ eR7
      have k08 := k07.trans (Kp.of st2)
      have S8 := S7.same st2
      have lf8 : ∀ y ∈ ys, LfV (upd H7 t2 (.tup [yo, yp])) y := fun y hy => (lf7 y hy).tups fun c xs e => st2 _ _ e
      generalize upd H7 t2 (.tup [yo, yp]) = H8 at *
      obtain ⟨g1, g2, g3, g4⟩ := putR H8 ys pl yo k08 S8 eR8 lf8 (lf8 _ (List.mem_of_getElem? hyo))
      refine ⟨t2, _, rfl, .inl (.inl et2), rfl, _, _, rfl, _, rfl, _, rfl, R, ys, ((pl : Nat) : Int), pl, rfl, rfl, eR8, ixN_nat hpl, ?_⟩
      have mt := mut_tups (ys := ys.set pl yo) eR8
      have lf8p := (lf8 _ (List.mem_of_getElem? hyp)).tups mt
      generalize upd H8 R (.lst (ys.set pl yo)) = H9 at *
      refine ⟨_, _, rfl, _, rfl, _, rfl, R, _, ((ot : Nat) : Int), ot, rfl, rfl, g1, ixN_nat (by rw [List.length_set]; exact hot), ?_⟩
      obtain ⟨f1, f2, f3, f4⟩ := putR H9 _ ot yp g4 g3 g1 g2 lf8p
      refine ⟨rfl, hDx _ _ ⟨R, _, _, rfl, f1, nRN, by rw [List.length_set, List.length_set]; omega, f2, f3, f4⟩⟩
    refine iteN c7 ?_
    refine ⟨_, rfl, rfl, _, rfl, ?_⟩
    by_cases c7 : wy = 7
    · refine iteY (by rw [c7]) ?_
      refine ⟨by show 1 ≤ sizeLine; decide, fun t2 nt2 => ?_⟩
      have s8 := same_upd (o := .tup [.int 0]) nt2
      have et8 : (upd H7 t2 (.tup [.int 0])) t2 = some (.tup [.int 0]) := upd_same
      have S8 := S7.same s8
      have eR8 := s8 _ _ eR7
      generalize upd H7 t2 (.tup [.int 0]) = H8 at *
      refine ⟨_, _, rfl, rfl, ⟨by decide, by decide, by decide⟩, by show 6 ≤ sizeLine; decide, fun L nL => ?_⟩
      obtain ⟨q1, q2, q3⟩ := S8.ne nL
      have odd : ∀ v ∈ [V.bl true, .bl false, .non, .str "0", .ref t2, .int (10 ^ (29 : Int).toNat)], LfV H8 v := fun v hv => by
        simp only [List.mem_cons, List.not_mem_nil, or_false] at hv
        rcases hv with rfl | rfl | rfl | rfl | rfl | rfl
        · exact .inr (.inl ⟨_, rfl⟩)
        · exact .inr (.inl ⟨_, rfl⟩)
        · exact .inr (.inr (.inl rfl))
        · exact .inr (.inr (.inr (.inl rfl)))
        · exact .inr (.inr (.inr (.inr ⟨_, rfl, et8⟩)))
        · exact .inl ⟨_, rfl⟩
      dsimp only [gName]
      have s9 := same_upd (o := .lst [V.bl true, .bl false, .non, .str "0", .ref t2, .int (10 ^ (29 : Int).toNat)]) nL
      refine ⟨_, rfl, _, rfl, st, g, l, L, _, rfl, upd_same, q1, q2, q3, by simp, by show 6 ≤ 1000; decide, S8.same s9, fun v H10 hv S10 k10 => ?_⟩
      have k78 := (Kp.of (st := st) (g := g) (l := l) (s8.trans s9)).trans k10
      have eR10 := k78 _ _ eR7 r1 r2 r3
      refine ⟨_, rfl, _, rfl, R, ys, ((pl : Nat) : Int), pl, rfl, rfl, eR10, ixN_nat hpl, ?_⟩
      obtain ⟨g1, g2, g3, g4⟩ := putR H10 ys pl v (k07.trans k78) S10 eR10 (fun y hy => (lf7 y hy).tups (kp_tups S7 k78)) ((odd v hv).tups fun c xs e => kp_tups (S8.same s9) k10 _ _ (s9 _ _ e))
      exact hDx _ _ ⟨R, _, _, rfl, g1, nRN, by rw [List.length_set]; omega, g2, g3, g4⟩
    refine iteN (fun z => c7 (by injection z)) ?_
    refine ⟨_, rfl, rfl, _, rfl, ?_⟩
    by_cases c8 : wy = 8
    · refine iteY (by rw [c8]) ?_
      obtain ⟨l0, x0, rfl⟩ : ∃ l x, ys = l ++ [x] := ⟨_, _, (List.dropLast_concat_getLast yne).symm⟩
      refine ⟨_, rfl, _, rfl, _, rfl, R, _, rfl, .inl (.inl eR7), fun R2 nR2 => ?_⟩
      rw [cut_last]
      have s8 := same_upd (o := .lst l0) nR2
      obtain ⟨q1, q2, q3⟩ := S7.ne nR2
      refine hDx _ _ ⟨R2, l0, _, rfl, upd_same, by simp only [List.mem_cons, List.not_mem_nil, or_false, not_or]; exact ⟨q1, q2, q3⟩, by rw [List.length_append] at ly; omega, fun z hz => (lf7 z (List.mem_append_left _ hz)).tups fun c xs e => s8 _ _ e, S7.same s8, k07.trans (Kp.of s8)⟩
    refine iteN (fun z => c8 (by injection z)) ?_
    refine ⟨_, rfl, rfl, _, rfl, ?_⟩
    by_cases c9 : wy = 9
    · refine iteY (by rw [c9]) ?_
      refine ⟨_, rfl, _, rfl, st, g, l, 4, rfl, by decide, by decide, S7, fun d H8 d0 d1 S8 k8 => ⟨by show 1 ≤ sizeLine; decide, fun R1 nR1 => ?_⟩⟩
      have s9 := same_upd (o := .lst [.int d]) nR1
      have eR9 := s9 _ _ (k8 _ _ eR7 r1 r2 r3)
      refine ⟨R, R1, ys, [.int d], rfl, rfl, eR9, upd_same, Nat.le_trans (show ys.length + 1 ≤ 50 by omega) (by decide), fun R2 nR2 => ?_⟩
      have s10 := same_upd (o := .lst (ys ++ [.int d])) nR2
      obtain ⟨q1, q2, q3⟩ := (S8.same s9).ne nR2
      refine hDx _ _ ⟨R2, ys ++ [.int d], _, rfl, upd_same, by simp only [List.mem_cons, List.not_mem_nil, or_false, not_or]; exact ⟨q1, q2, q3⟩, by rw [List.length_append]; show ys.length + 1 ≤ k + 1; omega, fun z hz => ?_, (S8.same s9).same s10, ((k07.trans k8).trans (Kp.of s9)).trans (Kp.of s10)⟩
      rcases List.mem_append.mp hz with h | h
      · exact ((lf7 z h).tups (kp_tups S7 k8)).tups fun c xs e => s10 _ _ (s9 _ _ e)
      · rw [List.mem_singleton.mp h]
        exact .inl ⟨_, rfl⟩
    refine iteN (fun z => c9 (by injection z)) ?_
    exact hDx _ _ ⟨R, ys, _, rfl, eR7, nRN, by omega, lf7, S7, k07⟩
  obtain ⟨R2, zs, y7, rfl, eR2, nR2, lz, lfz, SJ, kJ⟩ := hJ
  clear putR lf7 eR7 S7 k07 nRN nR0 r1 r2 r3
  have hpJ := kp_tups S kJ _ _ hp
  have rows : ∀ x ∈ xs', RwV k [st, g, l] J x := fun x hx => (hrows x hx).kp S kJ
  have npt : ∀ {HH : Hp} {b : Addr} {zs : List V}, StAt HH st g l → HH b = some (.tup zs) → b ∉ [st, g, l] := fun S h z => by
    obtain ⟨ws, e⟩ := st_lists S _ z
    rw [e] at h
    cases h
  refine ⟨_, rfl, rfl, _, rfl, ?_⟩
  by_cases c10 : wy = 10
  · refine iteY (by rw [c10]) ?_
    refine ⟨_, rfl, ((ot : Nat) : Int) != 0, rfl, ?_⟩
    cases hot0 : (((ot : Nat) : Int) != 0) with
    | true =>
      refine iteT ?_
      refine ⟨_, rfl, p, xs', rfl, .inr (.inl (.inl hpJ)), fun R3 nR3 => ?_⟩
      have s3 := same_upd (o := .lst xs') nR3
      obtain ⟨q1, q2, q3⟩ := SJ.ne nR3
      exact q _ _ ⟨R3, xs', rfl, .inr upd_same, by simp only [List.mem_cons, List.not_mem_nil, or_false, not_or]; exact ⟨q1, q2, q3⟩, by omega, fun x hx => ((rows x hx).kp SJ (Kp.of s3)).le (by omega)⟩ (SJ.same s3) (kJ.trans (Kp.of s3))
    | false =>
      refine iteF ?_
      refine ⟨_, rfl, by show 1 ≤ sizeLine; decide, fun t1 nt1 => ⟨by show 1 ≤ sizeLine; decide, fun t2 nt2 => ?_⟩⟩
      have s3 := same_upd (o := .tup [.int 0]) nt1
      have et1 : (upd J t1 (.tup [.int 0])) t1 = some (.tup [.int 0]) := upd_same
      generalize upd J t1 (.tup [.int 0]) = J1 at *
      have s4 := same_upd (o := .tup [.ref t1]) nt2
      have s34 := s3.trans s4
      refine cat_any (s34 _ _ hpJ) (upd_same (a := t2)) (by show xs'.length + 1 ≤ 1000; omega) fun p3 J3 s5 e5 _ => ?_
      have s35 := s34.trans s5
      refine q _ _ ⟨p3, _, rfl, .inl e5, npt (SJ.same s35) e5, by rw [List.length_append]; show xs'.length + 1 ≤ k + 1; omega, fun x hx => ?_⟩ (SJ.same s35) (kJ.trans (Kp.of s35))
      rcases List.mem_append.mp hx with h | h
      · exact ((rows x h).kp SJ (Kp.of s35)).le (by omega)
      · rw [List.mem_singleton.mp h]
        have e3 := s5 _ _ (s4 _ _ et1)
        exact ⟨t1, _, rfl, .inl e3, npt (SJ.same s35) e3, by show 1 ≤ k + 1; omega, fun y hy => by rw [List.mem_singleton.mp hy]; exact .inl ⟨_, rfl⟩⟩
  refine iteN (fun z => c10 (by injection z)) ?_
  dsimp only [tNext]
  have fin : ∀ (J5 : Hp) (r p5 : Addr), Same J J5 → RwV (k + 1) [st, g, l] J5 (.ref r) → J5 p5 = some (.tup (xs'.take a ++ [.ref r] ++ xs'.drop (a + 1))) → Q (.ref p5) J5 := fun J5 r p5 s5 hr e5 => by
    refine q _ _ ⟨p5, _, rfl, .inl e5, npt (SJ.same s5) e5, ?_, fun x hx => ?_⟩ (SJ.same s5) (kJ.trans (Kp.of s5))
    · rw [List.length_append, List.length_append, List.length_take, List.length_drop]
      show min a xs'.length + 1 + _ ≤ k + 1
      omega
    · rcases List.mem_append.mp hx with h | h
      · rcases List.mem_append.mp h with h | h
        · exact ((rows x (List.mem_of_mem_take h)).kp SJ (Kp.of s5)).le (by omega)
        · rw [List.mem_singleton.mp h]; exact hr
      · exact ((rows x (List.mem_of_mem_drop h)).kp SJ (Kp.of s5)).le (by omega)
  have e1a : ((a : Nat) : Int) + 1 = ((a + 1 : Nat) : Int) := by omega
  refine if_three (fun b J1 => J1 = J) (fun Q0 hq => ?_) (fun J1 hb => ?_) (fun J1 hb => ?_)
  · refine ⟨_, rfl, rfl, _, rfl, ?_⟩
    by_cases c11 : wy = 11
    · exact iteY (by rw [c11]) ⟨_, rfl, _, rfl, hq _ _ rfl⟩
    · exact iteN (fun z => c11 (by injection z)) (hq _ _ rfl)
  · subst hb
    obtain ⟨l0, x0, rfl⟩ : ∃ l x, xs' = l ++ [x] := ⟨_, _, (List.dropLast_concat_getLast xne).symm⟩
    refine ⟨_, rfl, _, rfl, _, rfl, sl_any hpJ (cut_last _ _) fun p3 J3 s3 e3 _ => ?_⟩
    refine q _ _ ⟨p3, _, rfl, .inl e3, npt (SJ.same s3) e3, by rw [List.length_append] at lk; omega, fun x hx => ((rows x (List.mem_append_left _ hx)).kp SJ (Kp.of s3)).le (by omega)⟩ (SJ.same s3) (kJ.trans (Kp.of s3))
  subst hb
  dsimp only [tNext]
  refine if_three (fun b J2 => J2 = J1) (fun Q0 hq => ?_) (fun J2 hb => ?_) (fun J2 hb => ?_)
  · exact ⟨_, rfl, rfl, _, rfl, hq _ _ rfl⟩
  · subst hb
    refine ⟨_, rfl, _, rfl, _, rfl, sl_any hpJ (cut_take (by omega)) fun p3 J3 s3 e3 _ => ?_⟩
    refine ⟨_, rfl, by show 1 ≤ sizeLine; decide, fun t1 nt1 => ?_⟩
    have s4 := same_upd (o := .tup [.ref R2]) nt1
    have s34 := s3.trans s4
    refine cat_any (s4 _ _ e3) (upd_same (a := t1)) (by rw [List.length_take]; show min a xs'.length + 1 ≤ 1000; omega) fun p4 J4 s5 e4 _ => ?_
    have s35 := s34.trans s5
    refine ⟨_, rfl, _, rfl, _, _, rfl, rfl, _, rfl, ?_⟩
    rw [e1a]
    refine noPart ?_
    refine sl_any (s35 _ _ hpJ) (cut_drop (i := a + 1) (by omega)) fun p5 J5 s6 e5 _ => ?_
    have s36 := s35.trans s6
    refine cat_any (s6 _ _ e4) e5 (by rw [List.length_append, List.length_take, List.length_drop]; show min a xs'.length + 1 + _ ≤ 1000; omega) fun p6 J6 s7 e6 _ => ?_
    have s37 := s36.trans s7
    exact fin J6 R2 p6 s37 ⟨R2, zs, rfl, .inr (s37 _ _ eR2), nR2, lz, fun z hz => (lfz z hz).tups fun c xs e => s37 _ _ e⟩ e6
  subst hb
  dsimp only [tNext]
  refine ⟨_, rfl, _, rfl, _, rfl, sl_any hpJ (cut_take (by omega)) fun p3 J3 s3 e3 _ => ?_⟩
  refine ⟨_, rfl, R2, zs, rfl, .inl ⟨.inl (.inl (s3 _ _ eR2)), fun u nu => ⟨by show 1 ≤ sizeLine; decide, fun t1 nt1 => ?_⟩⟩⟩
  have su := same_upd (o := .tup zs) nu
  have eu : (upd J3 u (.tup zs)) u = some (.tup zs) := upd_same
  generalize upd J3 u (.tup zs) = J3' at *
  have s3u := s3.trans su
  have s4 := same_upd (o := .tup [.ref u]) nt1
  have s34 := s3u.trans s4
  refine cat_any (s4 _ _ (su _ _ e3)) (upd_same (a := t1)) (by rw [List.length_take]; show min a xs'.length + 1 ≤ 1000; omega) fun p4 J4 s5 e4 _ => ?_
  have s35 := s34.trans s5
  refine ⟨_, rfl, _, rfl, _, _, rfl, rfl, _, rfl, ?_⟩
  rw [e1a]
  refine noPart ?_
  refine sl_any (s35 _ _ hpJ) (cut_drop (i := a + 1) (by omega)) fun p5 J5 s6 e5 _ => ?_
  have s36 := s35.trans s6
  refine cat_any (s6 _ _ e4) e5 (by rw [List.length_append, List.length_take, List.length_drop]; show min a xs'.length + 1 + _ ≤ 1000; omega) fun p6 J6 s7 e6 _ => ?_
  have s37 := s36.trans s7
  have eu6 := s7 _ _ (s6 _ _ (s5 _ _ (s4 _ _ eu)))
  exact fin J6 u p6 s37 ⟨u, zs, rfl, .inl eu6, npt (SJ.same s37) eu6, lz, fun z hz => (lfz z hz).tups fun c xs e => s37 _ _ e⟩ e6
end
end Lx
namespace Ni
open PySem PySem.Spec PyProof.Rows L2 Ub Ur Ug Ue Up Uo Ve Va Vk Wb Pt Gr Sb Rw
theorem rowI_len {known keys : List Int} : (rowI known keys).length = keys.length := List.length_map _
theorem rowI_cons {known keys : List Int} {k : Int} : rowI known (k :: keys) = ((ixF k (ext1 known k) : Nat) : Int) :: rowI (ext1 known k) keys := by
  show (((ixF k (extI known (k :: keys)) : Nat) : Int)) :: _ = _
  have e : extI known (k :: keys) = extI (ext1 known k) keys := rfl
  rw [e, (extI_sub (keys := keys) (ext1_mem (l := known) (k := k))).2]
  rfl
theorem numd_row : ∀ (keys known : List Int), numd known.length (rowI known keys) = true ∧ mostF known.length (rowI known keys) = (extI known keys).length
  | [], _ => ⟨rfl, rfl⟩
  | k :: keys, known => by
    obtain ⟨h1, h2⟩ := numd_row keys (ext1 known k)
    rw [rowI_cons]
    have step : (ixF k (ext1 known k) ≤ known.length) ∧ (if ((ixF k (ext1 known k) : Nat) : Int) = ((known.length : Nat) : Int) then known.length + 1 else known.length) = (ext1 known k).length := by
      unfold ext1
      split
      · rename_i h
        have := ixF_lt h
        refine ⟨by omega, ?_⟩
        rw [if_neg (by omega)]
      · rename_i h
        rw [ixF_new h, if_pos rfl, List.length_append]
        exact ⟨Nat.le_refl _, rfl⟩
    constructor
    · show ((decide (0 ≤ ((ixF k (ext1 known k) : Nat) : Int)) && decide (((ixF k (ext1 known k) : Nat) : Int) ≤ ((known.length : Nat) : Int))) && numd (if ((ixF k (ext1 known k) : Nat) : Int) = ((known.length : Nat) : Int) then known.length + 1 else known.length) (rowI (ext1 known k) keys)) = true
      rw [step.2, h1, decide_eq_true (by omega), decide_eq_true (by have := step.1; omega)]
      rfl
    · show mostF (if ((ixF k (ext1 known k) : Nat) : Int) = ((known.length : Nat) : Int) then known.length + 1 else known.length) (rowI (ext1 known k) keys) = _
      rw [step.2, h2]
      rfl
theorem numd_row0 (keys : List Int) : numd 0 (rowI [] keys) = true := (numd_row keys []).1
theorem numd_row2 (a b : List Int) : numd 0 (rowI [] a ++ rowI (extI [] a) b) = true := by
  have h1 := numd_row a []
  have h2 := numd_row b (extI [] a)
  have e : mostF 0 (rowI [] a) = (extI [] a).length := h1.2
  rw [numd_app, e, h2.1, show numd 0 (rowI [] a) = true from h1.1]
  rfl
theorem numd_row3 (a b c : List Int) : numd 0 (rowI [] a ++ (rowI (extI [] a) b ++ rowI (extI (extI [] a) b) c)) = true := by
  have h1 := numd_row a []
  have h2 := numd_row b (extI [] a)
  have h3 := numd_row c (extI (extI [] a) b)
  have e : mostF 0 (rowI [] a) = (extI [] a).length := h1.2
  rw [numd_app, numd_app, e, h2.1, h2.2, h3.1, show numd 0 (rowI [] a) = true from h1.1]
  rfl
theorem cells_of {ts : List Tr} {G : Gi} (T : Ty ts G) {t : Tr} {m : Nat} (h : ts[m]? = some t) : CellsT ts t (cellsI G (m : Nat)) := by
  have l1 : m < ts.length := (List.getElem?_eq_some_iff.mp h).1
  obtain ⟨cs, hc⟩ : ∃ cs, G[m]? = some cs := ⟨_, List.getElem?_eq_getElem (by rw [T.len]; exact l1)⟩
  have e : cellsI G (m : Nat) = cs := by
    unfold cellsI
    rw [Int.toNat_natCast, hc]
    rfl
  rw [e]
  exact T.cs m t cs h hc
def NodP (ts : List Tr) (G : Gi) (f g : Int → Int) (ns : List Int) (p : Pl) : Prop := ∃ (s : Tr) (m : Nat), s.isNil = false ∧ ts[m]? = some s ∧ ((m : Nat) : Int) ∈ ns ∧ p = (s, (nodI G s (m : Nat)).map f, (contI G s (m : Nat)).map g)
theorem plF_mem {ts : List Tr} {G : Gi} (T : Ty ts G) {f g : Int → Int} : ∀ (t : Tr) (cs : List Int), CellsT ts t cs → ∀ p ∈ Ni.plF t ((nodC G t cs).map f) ((contC G t cs).map g), NodP ts G f g (nodC G t cs) p
  | .nil, _, _, p, h => nomatch h
  | .cons w t r, cs, hc, p, h => by
    obtain ⟨c, cs', rfl, hn, hc'⟩ := hc
    have eN : nodC G (.cons w t r) (c :: cs') = nodI G t c ++ nodC G r cs' := rfl
    have eC : contC G (.cons w t r) (c :: cs') = contI G t c ++ contC G r cs' := rfl
    rw [eN, eC, List.map_append, List.map_append] at h
    have lN : ((nodI G t c).map f).length = t.recs := by rw [List.length_map]; exact nodI_len
    have lC : ((contI G t c).map g).length = t.plains := by rw [List.length_map]; exact contI_len
    have h : p ∈ (if t.isNil then [] else (t, ((nodI G t c).map f ++ (nodC G r cs').map f).take t.recs, ((contI G t c).map g ++ (contC G r cs').map g).take t.plains) :: Ni.plF t ((((nodI G t c).map f ++ (nodC G r cs').map f).take t.recs).drop 1) (((contI G t c).map g ++ (contC G r cs').map g).take t.plains)) ++ Ni.plF r (((nodI G t c).map f ++ (nodC G r cs').map f).drop t.recs) (((contI G t c).map g ++ (contC G r cs').map g).drop t.plains) := h
    rw [List.take_left' lN, List.take_left' lC, List.drop_left' lN, List.drop_left' lC] at h
    rw [eN]
    rcases List.mem_append.mp h with h | h
    · cases e : t.isNil with
      | true => rw [e, if_pos rfl] at h; cases h
      | false =>
        rw [e, if_neg (by simp)] at h
        obtain ⟨m, rfl, hm⟩ := hn e
        have eN2 : nodI G t (m : Nat) = ((m : Nat) : Int) :: nodC G t (cellsI G (m : Nat)) := by unfold nodI; rw [e]; rfl
        have eC2 : contI G t (m : Nat) = contC G t (cellsI G (m : Nat)) := by unfold contI; rw [e]; rfl
        rcases List.mem_cons.mp h with h | h
        · exact ⟨t, m, e, hm, List.mem_append_left _ (by rw [eN2]; exact List.mem_cons_self ..), h⟩
        · rw [eN2, eC2] at h
          obtain ⟨s, k, h1, h2, h3, h4⟩ := plF_mem T t _ (cells_of T hm) p h
          exact ⟨s, k, h1, h2, List.mem_append_left _ (by rw [eN2]; exact List.mem_cons_of_mem _ h3), h4⟩
    · obtain ⟨s, k, h1, h2, h3, h4⟩ := plF_mem T r cs' hc' p h
      exact ⟨s, k, h1, h2, List.mem_append_right _ h3, h4⟩
theorem plT_mem {ts : List Tr} {G : Gi} (T : Ty ts G) {f g : Int → Int} {t : Tr} {c : Int} (hn : NodeT ts t c) : ∀ p ∈ Ni.plT t ((nodI G t c).map f) ((contI G t c).map g), NodP ts G f g (nodI G t c) p := fun p h => by
  unfold Ni.plT at h
  cases e : t.isNil with
  | true => rw [e, if_pos rfl] at h; cases h
  | false =>
    rw [e, if_neg (by simp)] at h
    obtain ⟨m, rfl, hm⟩ := hn e
    have eN2 : nodI G t (m : Nat) = ((m : Nat) : Int) :: nodC G t (cellsI G (m : Nat)) := by unfold nodI; rw [e]; rfl
    have eC2 : contI G t (m : Nat) = contC G t (cellsI G (m : Nat)) := by unfold contI; rw [e]; rfl
    rcases List.mem_cons.mp h with h | h
    · exact ⟨t, m, e, hm, by rw [eN2]; exact List.mem_cons_self .., h⟩
    · rw [eN2, eC2] at h
      obtain ⟨s, k, h1, h2, h3, h4⟩ := plF_mem T t _ (cells_of T hm) p h
      exact ⟨s, k, h1, h2, by rw [eN2]; exact List.mem_cons_of_mem _ h3, h4⟩
theorem nodes_agree {ts : List Tr} {G : Gi} {f g : Int → Int} {ns : List Int} {l : List Pl} (hl : ∀ p ∈ l, NodP ts G f g ns p) (inj : ∀ x ∈ ns, ∀ y ∈ ns, f x = f y → x = y) : consW [] l = true := by
  rw [cons_agree, agreeB_iff]
  intro p hp q hq e
  obtain ⟨s, m, n1, h1, i1, rfl⟩ := hl p hp
  obtain ⟨s', m', n2, h2, i2, rfl⟩ := hl q hq
  have hd : ∀ (s : Tr) (m : Nat), s.isNil = false → headI (s, (nodI G s (m : Nat)).map f, (contI G s (m : Nat)).map g) = f ((m : Nat) : Int) := fun s m n => by
    unfold headI nodI
    rw [n]
    rfl
  rw [hd s m n1, hd s' m' n2] at e
  have em := inj _ i1 _ i2 e
  have em : m = m' := by omega
  subst em
  rw [h1] at h2
  cases h2
  rfl
theorem row_same {known keys more : List Int} : rowI known keys = keys.map fun k => ((ixF k (extI (extI known keys) more) : Nat) : Int) := by
  unfold rowI
  refine List.map_congr_left fun k hk => ?_
  rw [(extI_sub (keys := more) (extI_mem (known := known) hk)).2]
theorem ix_inj {known keys : List Int} : ∀ x ∈ keys, ∀ y ∈ keys, ((ixF x (extI known keys) : Nat) : Int) = ((ixF y (extI known keys) : Nat) : Int) → x = y := fun x hx y hy e => ixF_inj (l := extI known keys) (extI_mem hx) (extI_mem hy) (by omega)
theorem wholes_row {known keys : List Int} {n : Nat} (h : keys.length = n) : wholesD (intsD (rowI known keys)) n = true := by
  have := wholesD_ints (rowI known keys)
  rw [rowI_len, h] at this
  exact this
theorem form_world {ts : List Tr} {G : Gi} (T : Ty ts G) {t : Tr} {c : Int} (hn : NodeT ts t c) : formD t (.tuple [intsD (rowI [] (nodI G t c)), intsD (rowI [] (contI G t c))]) = true := by
  show ((wholesD _ t.recs && wholesD _ t.plains) && ((numd 0 (intsOf _) && numd 0 (intsOf _)) && consW [] (plAll [(t, intsOf _, intsOf _)]))) = true
  rw [intsOf_ints, intsOf_ints, wholes_row nodI_len, wholes_row contI_len, numd_row0, numd_row0]
  simp only [Bool.true_and]
  refine nodes_agree (ts := ts) (G := G) (f := fun k => ((ixF k (extI [] (nodI G t c)) : Nat) : Int)) (g := fun k => ((ixF k (extI [] (contI G t c)) : Nat) : Int)) (ns := nodI G t c) (fun p hp => ?_) ix_inj
  have hp : p ∈ Ni.plT t (rowI [] (nodI G t c)) (rowI [] (contI G t c)) ++ [] := hp
  rw [List.append_nil] at hp
  exact plT_mem T hn p hp
theorem held_world {ts : List Tr} {G : Gi} (T : Ty ts G) {t u : Tr} {c x : Int} (hn : NodeT ts t c) (hx : NodeT ts u x) {seen : List Int} (hs : seen.length = u.plains) : heldD t u (.tuple [intsD (rowI [] (nodI G t c)), intsD (rowI [] (contI G t c)), intsD (rowI (extI [] (nodI G t c)) (nodI G u x)), intsD (rowI (extI [] (contI G t c)) (contI G u x)), intsD (rowI (extI (extI [] (contI G t c)) (contI G u x)) seen)]) = true := by
  show ((wholesD _ t.recs && wholesD _ t.plains) && ((wholesD _ u.recs && wholesD _ u.plains) && (wholesD _ u.plains && ((numd 0 (intsOf _ ++ intsOf _) && numd 0 (intsOf _ ++ (intsOf _ ++ intsOf _))) && consW [] (plAll [(t, intsOf _, intsOf _), (u, intsOf _, intsOf _)]))))) = true
  simp only [intsOf_ints]
  rw [wholes_row nodI_len, wholes_row contI_len, wholes_row nodI_len, wholes_row contI_len, wholes_row hs, numd_row2, numd_row3]
  simp only [Bool.true_and]
  refine nodes_agree (ts := ts) (G := G) (f := fun k => ((ixF k (extI (extI [] (nodI G t c)) (nodI G u x)) : Nat) : Int)) (g := fun k => ((ixF k (extI (extI [] (contI G t c)) (contI G u x)) : Nat) : Int)) (ns := nodI G t c ++ nodI G u x) (fun p hp => ?_) (fun a ha b hb e => ?_)
  · have hp : p ∈ Ni.plT t (rowI [] (nodI G t c)) (rowI [] (contI G t c)) ++ (Ni.plT u (rowI (extI [] (nodI G t c)) (nodI G u x)) (rowI (extI [] (contI G t c)) (contI G u x)) ++ []) := hp
    rw [List.append_nil, row_same (known := []) (keys := nodI G t c) (more := nodI G u x), row_same (known := []) (keys := contI G t c) (more := contI G u x)] at hp
    rcases List.mem_append.mp hp with hp | hp
    · obtain ⟨s, m, h1, h2, h3, h4⟩ := plT_mem T hn p hp
      exact ⟨s, m, h1, h2, List.mem_append_left _ h3, h4⟩
    · obtain ⟨s, m, h1, h2, h3, h4⟩ := plT_mem T hx p hp
      exact ⟨s, m, h1, h2, List.mem_append_right _ h3, h4⟩
  · have inn : ∀ z ∈ nodI G t c ++ nodI G u x, z ∈ extI (extI [] (nodI G t c)) (nodI G u x) := fun z hz => by
      rcases List.mem_append.mp hz with h | h
      · exact (extI_sub (keys := nodI G u x) (extI_mem (known := []) h)).1
      · exact extI_mem h
    exact ixF_inj (inn a ha) (inn b hb) (by have e : ((ixF a _ : Nat) : Int) = ((ixF b _ : Nat) : Int) := e; omega)
end Ni
namespace Lx
open PySem PySem.Spec PyProof.Rows L2 Ub Ur Ug Ue Up Uo Ve Va Vk Pt Gr Ni
section
variable {P : Program} {w : World} {K : PySem.W.Frag} {mg : Str → Option Value} {base : Heap}
theorem sc_law_at : FnScope ["_law_tree_here", "_law_word_here", "_law_pair"] ["_law_tree_here", "_law_word_here"] (defScope s_law_at) := ⟨rfl, rfl, rfl, by decide +kernel, rfl, by decide +kernel, by decide +kernel⟩
theorem ok_law_at {f : Addr} {fd : FuncData} (F : FunD K "_law_at" "_law_at" (defArgs s_law_at) (defBody s_law_at) (defScope s_law_at) [] [] f fd) (T : Tx K mg) : FnOk P w K mg base CX0 1 f fd ["_law_tree_here", "_law_word_here"] sp_at := by
  refine F.ok sc_law_at (fun vs H Q E h => by obtain ⟨t, v, w, rfl, _⟩ := h; rfl) (fun cdv A outer s H vs Q E hr h => ?_)
  obtain ⟨t, v, w, rfl, ht, hl, hw, q⟩ := h
  refine ⟨_, PSs.nox (pss_one (ps_ret (pe_bmK K PySem.F.plainAttrs_list PySem.F.slot_list_index PySem.F.type_list_index (Gr.mt_indexK K) (pe_lc (own := [("_law_pair", 2)]) (by rfl) sc_law_at.nd (pi_tupK K (pv 0)) (blkOk_by (N := ["_law_tree_here", "_law_word_here", "_law_pair"]) (sc := (defScope s_law_at)) (by decide +kernel)) (fun _ _ _ _ _ => (pg_name (i := 2) sc_law_at.nd rfl (by first | exact Or.inl rfl | exact Or.inr rfl))) (fun _ _ _ _ _ => pts_nil) (fun _ _ _ _ _ => (pe_ix (ix_tupK K) (pv 2) pe_int (fun _ _ => rfl)))) (pa_cons (pv 1) pa_nil)))), ?_⟩
  obtain ⟨a, us, rfl, ha, hf⟩ := ht
  have lp := hf.len
  refine ⟨_, rfl, a, rfl, ⟨_, .inl (.inl ha)⟩, fun D nD => ?_⟩
  have sD := same_upd (o := .lst []) nD
  refine lc_tup (K := K) (a := a) (xs := us) (fun j HX => Same H HX ∧ HX D = some (.lst (((t.fields.map (·.1)).take j).map V.str))) ⟨sD, upd_same⟩ (fun j HX hj p => .inl (.inl (p.1 _ _ ha))) (fun j x HX hx p => ?_) (fun HX p => ?_)
  · obtain ⟨sX, eD⟩ := p
    have hj : j < t.fields.length := by rw [← lp]; exact (List.getElem?_eq_some_iff.mp hx).1
    obtain ⟨m, hm⟩ : ∃ m, t.fields[j]? = some m := ⟨_, List.getElem?_eq_getElem hj⟩
    obtain ⟨p, q', g1, g2, g3⟩ := hf.get hm
    rw [g1] at hx
    cases hx
    refine ⟨rfl, _, rfl, p, _, 0, .str m.1, rfl, rfl, .inl (.inl (sX _ _ g2)), rfl, ?_⟩
    refine ⟨_, eD, Nat.lt_of_le_of_lt (show _ ≤ 1000 by rw [List.length_map, List.length_take, List.length_map]; omega) (by decide), same_mut sX nD, ?_⟩
    rw [upd_same, List.take_add_one, List.getElem?_map, hm, List.map_append]
    rfl
  obtain ⟨sX, eD⟩ := p
  rw [lp, show t.fields.length = (t.fields.map (·.1)).length by rw [List.length_map], List.take_length] at eD
  refine ⟨.inl ⟨rfl, _, .inl (.inl eD)⟩, _, rfl, ixS_any eD hw ?_⟩
  exact q _ sX
theorem sc_law_below : FnScope ["_law_tree_here", "_law_words", "_law_word_here"] ["_law_tree_here", "_law_words"] (defScope s_law_below) := ⟨rfl, rfl, rfl, by decide +kernel, rfl, by decide +kernel, by decide +kernel⟩
theorem ok_law_below {f : Addr} {fd : FuncData} (F : FunD K "_law_below" "_law_below" (defArgs s_law_below) (defBody s_law_below) (defScope s_law_below) [] [] f fd) (T : Tx K mg) (c_law_at : Cal P w K mg base 1 "_law_at" ["_law_tree_here", "_law_word_here"] sp_at) : FnOk P w K mg base CX0 2 f fd ["_law_tree_here", "_law_words"] sp_below := by
  refine F.ok sc_law_below (fun vs H Q E h => by obtain ⟨t, v, x, _, _, _, rfl, _⟩ := h; rfl) (fun cdv A outer s H vs Q E hr h => ?_)
  obtain ⟨t, v, x, a, ws, s, rfl, ht, gt, rfl, ha, hw, q⟩ := h
  refine ⟨_, PSs.nox (pss_cons (ps_for PassesOwn.never rfl (Ub.pi_sqK K (pv 1)) (pg_name (i := 2) sc_law_below.nd rfl (by first | exact Or.inl rfl | exact Or.inr rfl))
        (pss_one (ps_set (i := 0) sc_law_below.nd rfl (by first | exact Or.inl rfl | exact Or.inr rfl) (pe_ix (ix_tupK K) (pe_ix (ix_tupK K) (pv 0) (pe_cal c_law_at (hr.mono (by omega)) (by rfl) (pa_cons (pv 0) (pa_cons (pv 2) pa_nil))) (fun _ _ => rfl)) pe_int (fun _ _ => rfl)))))
      (pss_one (ps_ret (pv 0)))), ?_⟩
  rcases ha with ha | ha
  · refine .inl ⟨_, rfl, a, rfl, ⟨_, .inl (.inl ha)⟩, ?_⟩
    refine for_list (K := K) (a := a) (xs := ws.map V.str) (fun j σ HX => ∃ (vj : V) (tj : Tr) (y2 : Option V), σ = [some vj, some (.ref a), y2] ∧ Ub.TrAt HX tj vj ∧ good tj ∧ (ws.drop j, s) ∈ wpaths tj ∧ Same H HX) ⟨v, t, none, rfl, ht, gt, hw, fun _ _ e => e⟩ (fun j σ HX _ pp => ?_) (fun j x σ HX hx pp => ?_) (fun σ HX pp => ?_)
    · obtain ⟨_, _, _, _, _, _, _, sX⟩ := pp
      exact .inl (.inl (sX _ _ ha))
    · obtain ⟨vj, tj, y2, rfl, hj, gj, wj, sX⟩ := pp
      rw [List.getElem?_map] at hx
      obtain ⟨wd, hwd, rfl⟩ := Option.map_eq_some_iff.mp hx
      have ed : ws.drop j = wd :: ws.drop (j + 1) := drop_cons hwd
      rw [ed] at wj
      obtain ⟨f, hf, rfl, wf⟩ := below_fs wj
      have hi := ixW_fs gj hf
      obtain ⟨b, us, rfl, hb, hfs⟩ := id hj
      obtain ⟨p, q', g1, g2, g3⟩ := hfs.get hi
      have gm : good f.2 := ((good_fields gj).1 f hf).1
      have lf : tj.fields.length ≤ 1000 := by
        have h1 := (good_has gj).2.1
        have h2 := tj.fields_len
        omega
      dsimp only [gName]
      refine ⟨_, rfl, _, rfl, _, rfl, tj, _, f.1, rfl, hj, lf, List.mem_map.mpr ⟨f, hf, rfl⟩, fun H2 s2 => ?_⟩
      refine ⟨b, us, ((ixW tj f.1 : Nat) : Int), .ref p, rfl, rfl, .inl (.inl (s2 _ _ hb)), atI_nat g1, p, _, 1, q', rfl, rfl, .inl (.inl (s2 _ _ g2)), rfl, ?_⟩
      exact ⟨q', f.2, _, rfl, g3.same s2, gm, wf, sX.trans s2⟩
    · obtain ⟨vj, tj, y2, rfl, hj, gj, wj, sX⟩ := pp
      rw [List.length_map, List.drop_length] at wj
      have es : s = tj := wp_nil2 wj
      subst es
      exact ⟨_, rfl, q _ _ hj sX⟩
  · refine .inr ⟨_, rfl, a, rfl, ⟨_, .inl (.inl ha)⟩, ?_⟩
    refine for_tup (K := K) (a := a) (xs := ws.map V.str) (fun j σ HX => ∃ (vj : V) (tj : Tr) (y2 : Option V), σ = [some vj, some (.ref a), y2] ∧ Ub.TrAt HX tj vj ∧ good tj ∧ (ws.drop j, s) ∈ wpaths tj ∧ Same H HX) ⟨v, t, none, rfl, ht, gt, hw, fun _ _ e => e⟩ (fun j σ HX _ pp => ?_) (fun j x σ HX hx pp => ?_) (fun σ HX pp => ?_)
    · obtain ⟨_, _, _, _, _, _, _, sX⟩ := pp
      exact .inl (.inl (sX _ _ ha))
    · obtain ⟨vj, tj, y2, rfl, hj, gj, wj, sX⟩ := pp
      rw [List.getElem?_map] at hx
      obtain ⟨wd, hwd, rfl⟩ := Option.map_eq_some_iff.mp hx
      have ed : ws.drop j = wd :: ws.drop (j + 1) := drop_cons hwd
      rw [ed] at wj
      obtain ⟨f, hf, rfl, wf⟩ := below_fs wj
      have hi := ixW_fs gj hf
      obtain ⟨b, us, rfl, hb, hfs⟩ := id hj
      obtain ⟨p, q', g1, g2, g3⟩ := hfs.get hi
      have gm : good f.2 := ((good_fields gj).1 f hf).1
      have lf : tj.fields.length ≤ 1000 := by
        have h1 := (good_has gj).2.1
        have h2 := tj.fields_len
        omega
      dsimp only [gName]
      refine ⟨_, rfl, _, rfl, _, rfl, tj, _, f.1, rfl, hj, lf, List.mem_map.mpr ⟨f, hf, rfl⟩, fun H2 s2 => ?_⟩
      refine ⟨b, us, ((ixW tj f.1 : Nat) : Int), .ref p, rfl, rfl, .inl (.inl (s2 _ _ hb)), atI_nat g1, p, _, 1, q', rfl, rfl, .inl (.inl (s2 _ _ g2)), rfl, ?_⟩
      exact ⟨q', f.2, _, rfl, g3.same s2, gm, wf, sX.trans s2⟩
    · obtain ⟨vj, tj, y2, rfl, hj, gj, wj, sX⟩ := pp
      rw [List.length_map, List.drop_length] at wj
      have es : s = tj := wp_nil2 wj
      subst es
      exact ⟨_, rfl, q _ _ hj sX⟩
end
section
variable {P : Program} {w : World} {K : PySem.W.Frag} {mg : Str → Option Value} {base : Heap}
theorem sc_law_get : FnScope ["_law_heap", "_law_tree_here", "_law_node", "_law_words", "_law_word_here"] ["_law_heap", "_law_tree_here", "_law_node", "_law_words"] (defScope s_law_get) := ⟨rfl, rfl, rfl, by decide +kernel, rfl, by decide +kernel, by decide +kernel⟩
theorem ok_law_get {f : Addr} {fd : FuncData} (F : FunD K "_law_get" "_law_get" (defArgs s_law_get) (defBody s_law_get) (defScope s_law_get) [] [] f fd) (T : Tx K mg) (c_law_at : Cal P w K mg base 1 "_law_at" ["_law_tree_here", "_law_word_here"] sp_at) (c_law_below : Cal P w K mg base 2 "_law_below" ["_law_tree_here", "_law_words"] sp_below) : FnOk P w K mg base CX0 3 f fd ["_law_heap", "_law_tree_here", "_law_node", "_law_words"] sp_get := by
  refine F.ok sc_law_get (fun vs H Q E h => by obtain ⟨_, _, _, _, _, _, _, _, _, _, rfl, _⟩ := h; rfl) (fun cdv A outer s H vs Q E hr h => ?_)
  obtain ⟨hp, t, v, c, a, ws, s, G, as, ts, rfl, hh, Ty1, ht, gt, hn, ha, hw, q⟩ := h
  refine ⟨_, PSs.nox (pss_cons (ps_for PassesOwn.never rfl (pi_tupK K (pv 3)) (pg_name (i := 4) sc_law_get.nd rfl (by first | exact Or.inl rfl | exact Or.inr rfl))
        (pss_cons (ps_set (i := 2) sc_law_get.nd rfl (by first | exact Or.inl rfl | exact Or.inr rfl) (pe_ix (ix_listK K) (pe_ix (ix_listK K) (pv 0) (pv 2) (fun _ _ => rfl)) (pe_cal c_law_at (hr.mono (by omega)) (by rfl) (pa_cons (pv 1) (pa_cons (pv 4) pa_nil))) (fun _ _ => rfl)))
          (pss_one (ps_set (i := 1) sc_law_get.nd rfl (by first | exact Or.inl rfl | exact Or.inr rfl) (pe_cal c_law_below (hr.mono (by omega)) (by rfl) (pa_cons (pv 1) (pa_cons (pe_lst (pa_cons (pv 4) pa_nil)) pa_nil)))))))
      (pss_one (ps_ret (pv 2)))), ?_⟩
  refine ⟨_, rfl, a, rfl, ⟨_, .inl (.inl ha)⟩, ?_⟩
  refine for_tup (K := K) (a := a) (xs := ws.map V.str) (fun j σ HX => ∃ (vj : V) (tj : Tr) (cj : Int) (y2 : Option V), σ = [some (.ref hp), some vj, some (.int cj), some (.ref a), y2] ∧ Ub.TrAt HX tj vj ∧ good tj ∧ (ws.drop j, s) ∈ wpaths tj ∧ NodeT ts tj cj ∧ Same H HX) ⟨v, t, c, none, rfl, ht, gt, hw, hn, fun _ _ e => e⟩ (fun j σ HX _ pp => ?_) (fun j x σ HX hx pp => ?_) (fun σ HX pp => ?_)
  · obtain ⟨_, _, _, _, _, _, _, _, _, sX⟩ := pp
    exact .inl (.inl (sX _ _ ha))
  · obtain ⟨vj, tj, cj, y2, rfl, hj, gj, wj, nj, sX⟩ := pp
    rw [List.getElem?_map] at hx
    obtain ⟨wd, hwd, rfl⟩ := Option.map_eq_some_iff.mp hx
    rw [drop_cons hwd] at wj
    obtain ⟨f, hf, rfl, wf⟩ := below_fs wj
    have hi := ixW_fs gj hf
    have gm : good f.2 := ((good_fields gj).1 f hf).1
    have hX := hh.same sX
    obtain ⟨m, na, cs, rfl, hm, hna, hc, hcs, ct, _⟩ := hX.node Ty1 nj (isNil_fs hf)
    obtain ⟨c', hc', nc'⟩ := ct.get hi
    dsimp only [gName]
    refine ⟨_, rfl, _, rfl, hp, _, ((m : Nat) : Int), .ref na, rfl, rfl, .inl (.inl hX.at_), atI_nat (by rw [List.getElem?_map, hna]; rfl), _, rfl, _, rfl, tj, _, f.1, rfl, hj, lenF gj, List.mem_map.mpr ⟨f, hf, rfl⟩, fun H2 s2 => ?_⟩
    refine ⟨na, _, ((ixW tj f.1 : Nat) : Int), .int c', rfl, rfl, .inl (.inl (s2 _ _ hcs)), atI_nat (by rw [List.getElem?_map, hc']; rfl), ?_⟩
    dsimp only [gName]
    refine ⟨_, rfl, _, rfl, Nat.le_of_ble_eq_true rfl, fun D nD => ?_⟩
    have s3 := s2.trans (same_upd (o := .lst [.str f.1]) nD)
    refine ⟨tj, vj, _, D, [f.1], f.2, rfl, hj.same s3, gj, rfl, .inl upd_same, one_path hf, fun v' H4 tv s4 => ?_⟩
    exact ⟨v', f.2, c', _, rfl, tv, gm, wf, nc', sX.trans (s3.trans s4)⟩
  · obtain ⟨vj, tj, cj, y2, rfl, hj, gj, wj, nj, sX⟩ := pp
    rw [List.length_map, List.drop_length] at wj
    have es : s = tj := wp_nil2 wj
    subst es
    exact ⟨_, rfl, q _ _ nj sX⟩
theorem sc_law_set : FnScope ["_law_heap", "_law_tree_here", "_law_root", "_law_words", "_law_value", "_law_cells"] ["_law_heap", "_law_tree_here", "_law_root", "_law_words", "_law_value"] (defScope s_law_set) := ⟨rfl, rfl, rfl, by decide +kernel, rfl, by decide +kernel, by decide +kernel⟩
theorem ok_law_set {f : Addr} {fd : FuncData} (F : FunD K "_law_set" "_law_set" (defArgs s_law_set) (defBody s_law_set) (defScope s_law_set) [] [] f fd) (T : Tx K mg) (c_law_at : Cal P w K mg base 1 "_law_at" ["_law_tree_here", "_law_word_here"] sp_at) (c_law_below : Cal P w K mg base 2 "_law_below" ["_law_tree_here", "_law_words"] sp_below) (c_law_get : Cal P w K mg base 3 "_law_get" ["_law_heap", "_law_tree_here", "_law_node", "_law_words"] sp_get) : FnOk P w K mg base CX0 4 f fd ["_law_heap", "_law_tree_here", "_law_root", "_law_words", "_law_value"] sp_set := by
  refine F.ok sc_law_set (fun vs H Q E h => by obtain ⟨_, _, _, _, _, _, _, _, _, _, _, rfl, _⟩ := h; rfl) (fun cdv A outer s H vs Q E hr h => ?_)
  obtain ⟨hp, t, v, c, x, a, ws, s, G, as, ts, rfl, hh, Ty1, ht, gt, hn, ha, wne, hw, nx, q⟩ := h
  refine ⟨_, PSs.nox (pss_cons (ps_set (i := 5) sc_law_set.nd rfl (by first | exact Or.inl rfl | exact Or.inr rfl) (pe_ix (ix_listK K) (pv 0) (pe_cal c_law_get (hr.mono (by omega)) (by rfl) (pa_cons (pv 0) (pa_cons (pv 1) (pa_cons (pv 2) (pa_cons (pe_slice (sl_tupAK K) (pv 3) po_none (po_some (pe_un un_neg pe_int))) pa_nil))))) (fun _ _ => rfl)))
      (pss_one (ps_asg (pv 4) (pg_sub (pv 5) (pe_cal c_law_at (hr.mono (by omega)) (by rfl) (pa_cons (pe_cal c_law_below (hr.mono (by omega)) (by rfl) (pa_cons (pv 1) (pa_cons (pe_slice (sl_tupAK K) (pv 3) po_none (po_some (pe_un un_neg pe_int))) pa_nil))) (pa_cons (pe_ix (ix_tupK K) (pv 3) (pe_un un_neg pe_int) (fun _ _ => rfl)) pa_nil))) set_list)))), ?_⟩
  obtain ⟨ws0, w0, rfl⟩ : ∃ l x, ws = l ++ [x] := ⟨_, _, (List.dropLast_concat_getLast wne).symm⟩
  obtain ⟨u, f, hu, hf, rfl, rfl⟩ := snoc_path hw
  have ecut : cutV ((ws0 ++ [f.1]).map V.str) none (some (-1)) = ws0.map V.str := by
    rw [List.map_append]
    exact cut_last _ _
  refine ⟨_, rfl, _, rfl, _, rfl, _, rfl, _, rfl, _, rfl, ?_⟩
  refine ⟨_, rfl, sl_any ha ecut fun p1 H1 s1 e1 _ => ?_⟩
  refine ⟨hp, t, v, c, p1, ws0, u, G, as, ts, rfl, hh.same s1, Ty1, ht.same s1, gt, hn, e1, hu, fun c' H2 nc s2 => ?_⟩
  have h2 := (hh.same s1).same s2
  have gu : good u := by
    have hmp : (ptext ws0, u) ∈ paths t := by rw [← wpaths_text]; exact List.mem_map.mpr ⟨_, hu, rfl⟩
    exact (paths_good 3 (good_has gt).1 gt _ hmp).g
  obtain ⟨m, na, cs, rfl, hm, hna, hc, hcs, ct, _⟩ := h2.node Ty1 nc (isNil_fs hf)
  refine ⟨hp, _, ((m : Nat) : Int), .ref na, rfl, rfl, .inl (.inl h2.at_), atI_nat (by rw [List.getElem?_map, hna]; rfl), ?_⟩
  dsimp only [gName]
  refine ⟨_, rfl, _, rfl, ?_⟩
  have ha2 := s2 _ _ (s1 _ _ ha)
  refine ⟨_, rfl, _, rfl, _, rfl, _, rfl, sl_any ha2 ecut fun p2 H3 s3 e3 _ => ?_⟩
  have s13 := (s1.trans s2).trans s3
  refine ⟨t, v, _, p2, ws0, u, rfl, ht.same s13, gt, rfl, .inr e3, hu, fun v' H4 tv s4 => ?_⟩
  have ha4 := s4 _ _ (s3 _ _ ha2)
  refine ⟨_, rfl, _, rfl, ?_⟩
  trace_state
  refine ⟨a, _, (-1 : Int), .str f.1, rfl, rfl, .inl (.inl ha4), by rw [List.map_append]; exact atI_last _ _, ?_⟩
  refine ⟨u, v', f.1, rfl, tv, lenF gu, List.mem_map.mpr ⟨f, hf, rfl⟩, fun H5 s5 => ?_⟩
  have hi := ixW_fs gu hf
  have h5 := (h2.same (s3.trans s4)).same s5
  have hcs5 := s5 _ _ (s4 _ _ (s3 _ _ hcs))
  have li : ixW u f.1 < cs.length := by rw [ct.len]; exact (List.getElem?_eq_some_iff.mp hi).1
  refine ⟨na, _, ((ixW u f.1 : Nat) : Int), ixW u f.1, rfl, rfl, hcs5, ixN_nat (by rw [List.length_map]; exact li), ?_⟩
  rw [← List.map_set]
  exact q _ _ (h5.set hna) (Ty1.set hm hc hi nx) (fun b o e n => by
    rw [upd_ne fun z => n (by rw [z]; exact List.mem_of_getElem? hna)]
    exact s5 _ _ (s4 _ _ (s13 _ _ e)))
end
end Lx
namespace Lx
open PySem PySem.Spec PyProof.Rows L2 Ub Ur Ug Ue Up Uo Ve Va Pt
section
variable {P : Program} {w : World} {K : PySem.W.Frag} {mg : Str → Option Value} {base : Heap}
theorem sc_law_fields : FnScope ["_law_tree_here", "_law_pair"] ["_law_tree_here"] (defScope s_law_fields) := ⟨rfl, rfl, rfl, by decide +kernel, rfl, by decide +kernel, by decide +kernel⟩
theorem ok_law_fields {k d : Nat} {f : Addr} {fd : FuncData} (F : FunD K "_law_fields" "_law_fields" (defArgs s_law_fields) (defBody s_law_fields) (defScope s_law_fields) [] [] f fd) (T : Tx K mg) (c_law_text : Cal P w K mg base k "_law_text" ["_law_tree_here"] (sp_tree d fun t => .str t.text)) : FnOk P w K mg base CX0 (k + 1) f fd ["_law_tree_here"] (sp_fields d) := by
  refine F.ok sc_law_fields (fun vs H Q E h => by obtain ⟨_, _, _, rfl, _⟩ := h; rfl) (fun cdv A outer s H vs Q E hr h => ?_)
  obtain ⟨t, a, ps, rfl, ha, hf, hd, hsz, hsh, q⟩ := h
  refine ⟨_, PSs.nox (pss_one (ps_ret (pe_join pe_str (pe_lc (own := [("_law_pair", 1)]) (by rfl) sc_law_fields.nd (Ub.pi_sqK K (pv 0)) (blkOk_by (N := ["_law_tree_here", "_law_pair"]) (sc := (defScope s_law_fields)) (by decide +kernel)) (fun _ _ _ _ _ => (pg_name (i := 1) sc_law_fields.nd rfl (by first | exact Or.inl rfl | exact Or.inr rfl))) (fun _ _ _ _ _ => pts_nil) (fun _ _ _ _ _ => (pe_op op_add_str (pe_op op_add_str (pe_ix (ix_tupK K) (pv 1) pe_int (fun _ _ => rfl)) pe_str) (pe_cal c_law_text (hr.mono (by omega)) (by rfl) (pa_cons (pe_ix (ix_tupK K) (pv 1) pe_int (fun _ _ => rfl)) pa_nil)))))))), ?_⟩
  have hl := hf.len
  have hfl := t.fields_len
  have jl := (Tr.join_le hsh).1
  have e3 : ((", " : Str)).length = 2 := by decide +kernel
  have el : (t.fields.filterMap fun m => some (V.str (m.1 ++ ": " ++ m.2.text))) = t.pieces.map V.str := by
    rw [List.filterMap_eq_map', Tr.pieces_eq, List.map_map]
    rfl
  rcases ha with ha | ha
  · refine ⟨⟨_, rfl⟩, .inl ⟨_, rfl, a, rfl, ⟨_, .inl (.inl ha)⟩, fun D hD => ?_⟩⟩
    refine lcM (walk_list (xs := ps)) t.fields hl.symm (fun m => some (.str (m.1 ++ ": " ++ m.2.text))) (fun H s => s.seq (.inl (.inl ha))) (sz4 (by omega)) hD (fun i x m H' hx hm' s' => ?_) (fun H1 s2 d1 => ?_)
    · obtain ⟨p, q', g1, g2, g3⟩ := hf.get hm'
      rw [g1] at hx
      cases hx
      intro Q1 Q0 h1 h0
      have sl := Tr.size_mem (List.mem_of_getElem? hm')
      have dl := Tr.sdep_mem (List.mem_of_getElem? hm')
      obtain ⟨w8, sh⟩ := Tr.short_mem hsh (List.mem_of_getElem? hm')
      have tl := (Tr.join_le sh).2
      have e2 : ((": " : Str)).length = 2 := by decide +kernel
      have l2 : (m.1 ++ ": ").length ≤ 10 := by rw [len_app, e2]; omega
      exact ⟨rfl, _, rfl, p, _, 0, .str m.1, rfl, rfl, .inl (.inl (s' _ _ g2)), rfl, m.1, ": ", rfl, rfl, sz5 (by omega), _, rfl, p, _, 1, q', rfl, rfl, .inl (.inl (s' _ _ g2)), rfl, m.2, q', rfl, g3.same s', by omega, by omega, sh, fun H2 s4 => ⟨_, _, rfl, rfl, sz5 (by omega), h1 _ _ rfl s4⟩⟩
    rw [el] at d1
    refine ⟨", ", D, t.pieces, rfl, rfl, .inl (.inl (.inl d1)), ?_, ?_⟩
    · rw [e3]
      omega
    rw [TL.join_eq]
    exact q _ s2
  · refine ⟨⟨_, rfl⟩, .inr ⟨_, rfl, a, rfl, ⟨_, .inl (.inl ha)⟩, fun D hD => ?_⟩⟩
    refine lcM (walk_tup (xs := ps)) t.fields hl.symm (fun m => some (.str (m.1 ++ ": " ++ m.2.text))) (fun H s => Same.tup s (.inl (.inl ha))) (sz4 (by omega)) hD (fun i x m H' hx hm' s' => ?_) (fun H1 s2 d1 => ?_)
    · obtain ⟨p, q', g1, g2, g3⟩ := hf.get hm'
      rw [g1] at hx
      cases hx
      intro Q1 Q0 h1 h0
      have sl := Tr.size_mem (List.mem_of_getElem? hm')
      have dl := Tr.sdep_mem (List.mem_of_getElem? hm')
      obtain ⟨w8, sh⟩ := Tr.short_mem hsh (List.mem_of_getElem? hm')
      have tl := (Tr.join_le sh).2
      have e2 : ((": " : Str)).length = 2 := by decide +kernel
      have l2 : (m.1 ++ ": ").length ≤ 10 := by rw [len_app, e2]; omega
      exact ⟨rfl, _, rfl, p, _, 0, .str m.1, rfl, rfl, .inl (.inl (s' _ _ g2)), rfl, m.1, ": ", rfl, rfl, sz5 (by omega), _, rfl, p, _, 1, q', rfl, rfl, .inl (.inl (s' _ _ g2)), rfl, m.2, q', rfl, g3.same s', by omega, by omega, sh, fun H2 s4 => ⟨_, _, rfl, rfl, sz5 (by omega), h1 _ _ rfl s4⟩⟩
    rw [el] at d1
    refine ⟨", ", D, t.pieces, rfl, rfl, .inl (.inl (.inl d1)), ?_, ?_⟩
    · rw [e3]
      omega
    rw [TL.join_eq]
    exact q _ s2
theorem sc_law_text : FnScope ["_law_tree_here"] ["_law_tree_here"] (defScope s_law_text) := ⟨rfl, rfl, rfl, by decide +kernel, rfl, by decide +kernel, by decide +kernel⟩
theorem ok_law_text {f f2 : Addr} {fd fd2 : FuncData} (F : FunD K "_law_text" "_law_text" (defArgs s_law_text) (defBody s_law_text) (defScope s_law_text) [] [] f fd) (F2 : FunD K "_law_fields" "_law_fields" (defArgs s_law_fields) (defBody s_law_fields) (defScope s_law_fields) [] [] f2 fd2) (T : Tx K mg) (hm : mg "_law_text" = some (.ref f)) (hb : Binds K fd ["_law_tree_here"] []) (hm2 : mg "_law_fields" = some (.ref f2)) (hb2 : Binds K fd2 ["_law_tree_here"] []) : ∀ d, FnOk P w K mg base CX0 (2 * d) f fd ["_law_tree_here"] (sp_tree d fun t => .str t.text)
  | 0 => no_tree
  | d + 1 => by
    have c_law_text : Cal P w K mg base (2 * d) "_law_text" ["_law_tree_here"] (sp_tree d fun t => .str t.text) := ⟨f, fd, ok_law_text F F2 T hm hb hm2 hb2 d, hm, F.kp, hb⟩
    have c_law_fields : Cal P w K mg base (2 * d + 1) "_law_fields" ["_law_tree_here"] (sp_fields d) := ⟨f2, fd2, ok_law_fields F2 T c_law_text, hm2, F2.kp, hb2⟩
    refine F.ok sc_law_text (fun vs H Q E h => h.len1) (fun cdv A outer s H vs Q E hr h => ?_)
    obtain ⟨t, v, rfl, ht, hd, hsz, hsh, q⟩ := h
    replace hr : Room (2 * d + 1) _ := hr
    refine ⟨_, PSs.nox (pss_one (ps_ret (pe_ifExp (pt_cmpR (op_eq_nilK K hr.units0) (pv 0) (pe_tup pa_nil) (nomark _)) pe_str (pe_op op_add_str (pe_op op_add_str pe_str (pe_cal c_law_fields (hr.mono (by omega)) (by rfl) (pa_cons (pv 0) pa_nil))) pe_str)))), ?_⟩
    obtain ⟨a, ps, rfl, ha, hf⟩ := ht
    refine ⟨_, rfl, Nat.zero_le _, fun e ne => ?_⟩
    have s3 := same_upd (o := .tup []) ne
    refine ⟨a, e, ps, rfl, rfl, .inl (.inl (s3 _ _ ha)), .inl (.inl upd_same), _, rfl, ?_⟩
    refine iteE hf.nil_iff (fun e0 => ?_) (fun e0 => ?_)
    · have := q _ s3
      rw [Tr.nil_of e0] at this
      exact this
    have et := text_eq e0
    have tl := (Tr.join_le hsh).2
    rw [et, len_app, len_app] at tl
    have e4 : (("{" : Str)).length = 1 := by decide +kernel
    have e5 : (("}" : Str)).length = 1 := by decide +kernel
    have hdd : t.sdep < d := by
      unfold Tr.depth at hd
      rw [show t.isNil = false by simpa using e0] at hd
      have hd : 1 + t.sdep < d + 1 := hd
      omega
    refine ⟨_, rfl, t, a, ps, rfl, .inr (s3 _ _ ha), hf.same s3, hdd, hsz, hsh, fun H2 s4 => ?_⟩
    refine ⟨"{", _, rfl, rfl, sz5 (by omega), _, _, rfl, rfl, sz5 (by rw [len_app]; omega), ?_⟩
    have qq : Q (.str t.text) _ := q _ (s3.trans s4)
    rw [et] at qq
    exact qq
end
section
variable {P : Program} {w : World} {K : PySem.W.Frag} {mg : Str → Option Value} {base : Heap}
theorem sc_law_path : FnScope ["_law_words"] ["_law_words"] (defScope s_law_path) := ⟨rfl, rfl, rfl, by decide +kernel, rfl, by decide +kernel, by decide +kernel⟩
theorem ok_law_path {f : Addr} {fd : FuncData} (F : FunD K "_law_path" "_law_path" (defArgs s_law_path) (defBody s_law_path) (defScope s_law_path) [] [] f fd) (T : Tx K mg) : FnOk P w K mg base CX0 1 f fd ["_law_words"] sp_wpath := by
  refine F.ok sc_law_path (fun vs H Q E h => by obtain ⟨_, _, rfl, _⟩ := h; rfl) (fun cdv A outer s H vs Q E hr h => ?_)
  obtain ⟨a, ws, rfl, ha, hw, hl, q⟩ := h
  refine ⟨_, PSs.nox (pss_one (ps_ret (pe_op op_add_str pe_str (pe_join pe_str (pv 0))))), ?_⟩
  have jl := Tr.join_len "." ws
  have e1 : (("." : Str)).length = 1 := by decide +kernel
  rw [e1] at jl
  have sl : (ws.map (·.length)).sum ≤ ws.length * 8 := by
    refine Nat.le_trans (Gk.sum_le8 fun x hx => ?_) (by rw [List.length_map]; exact Nat.le_refl _)
    obtain ⟨z, hz, rfl⟩ := List.mem_map.mp hx
    exact (isWord_len (hw z hz)).2
  refine ⟨⟨_, rfl⟩, _, rfl, ".", a, ws, rfl, rfl, .inr (.inl (.inl ha)), by rw [e1]; omega, ?_⟩
  rw [TL.join_eq]
  refine ⟨".", _, rfl, rfl, by rw [e1]; exact Nat.le_trans (show _ ≤ 1000 by omega) (by decide), ?_⟩
  have := q H (Same.refl _)
  cases ws with
  | nil => exact this
  | cons z ws =>
    rw [ptext_join fun y hy => hw y (List.mem_cons_of_mem _ hy)] at this
    exact this
theorem sc_law_paths : FnScope ["_law_tree_here", "_law_found", "_law_word_here", "_law_field", "_law_words", "_law_below_here"] ["_law_tree_here"] (defScope s_law_paths) := ⟨rfl, rfl, rfl, by decide +kernel, rfl, by decide +kernel, by decide +kernel⟩
theorem ok_law_paths {f : Addr} {fd : FuncData} (F : FunD K "_law_paths" "_law_paths" (defArgs s_law_paths) (defBody s_law_paths) (defScope s_law_paths) [] [] f fd) (T : Tx K mg) (hm : mg "_law_paths" = some (.ref f)) (hb : Binds K fd ["_law_tree_here"] []) : ∀ d, FnOk P w K mg base CX0 d f fd ["_law_tree_here"] (sp_wpaths3 d)
  | 0 => no_wpaths3
  | d + 1 => by
    have c_law_paths : Cal P w K mg base d "_law_paths" ["_law_tree_here"] (sp_wpaths3 d) := ⟨f, fd, ok_law_paths F T hm hb d, hm, F.kp, hb⟩
    refine F.ok sc_law_paths (fun vs H Q E h => by obtain ⟨t, v, rfl, _⟩ := h; rfl) (fun cdv A outer s H vs Q E hr h => ?_)
    obtain ⟨t, v, rfl, hv, hd, hg, q⟩ := h
    refine ⟨_, PSs.nox (pss_cons (ps_set (i := 1) sc_law_paths.nd rfl (by first | exact Or.inl rfl | exact Or.inr rfl) (pe_lst (pa_cons (pe_tup (pa_cons (pe_tup pa_nil) (pa_cons (pv 0) pa_nil))) pa_nil)))
      (pss_cons (ps_for PassesOwn.never rfl (pi_tupK K (pv 0)) (pg_tupK K (n := 2) rfl (pgs_cons (pg_name (i := 2) sc_law_paths.nd rfl (by first | exact Or.inl rfl | exact Or.inr rfl)) (pgs_cons (pg_name (i := 3) sc_law_paths.nd rfl (by first | exact Or.inl rfl | exact Or.inr rfl)) pgs_nil)))
        (pss_one (ps_for PassesOwn.never rfl (pi_listK K (pe_cal c_law_paths (hr.mono (by omega)) (by rfl) (pa_cons (pv 3) pa_nil))) (pg_tupK K (n := 2) rfl (pgs_cons (pg_name (i := 4) sc_law_paths.nd rfl (by first | exact Or.inl rfl | exact Or.inr rfl)) (pgs_cons (pg_name (i := 5) sc_law_paths.nd rfl (by first | exact Or.inl rfl | exact Or.inr rfl)) pgs_nil)))
            (pss_one (ps_expr (pe_bmK K PySem.F.plainAttrs_list PySem.F.slot_list_append PySem.F.type_list_append mt_append (pv 1) (pa_cons (pe_tup (pa_cons (pe_op (op_catAK K) (pe_tup (pa_cons (pv 2) pa_nil)) (pv 4)) (pa_cons (pv 5) pa_nil))) pa_nil)))))))
      (pss_one (ps_ret (pv 1))))), ?_⟩
    obtain ⟨hdep, hsz, hsh⟩ := good_has hg
    obtain ⟨a, us, rfl, ha, hf⟩ := id hv
    have lp := hf.len
    refine ⟨Nat.zero_le _, fun W0 nW0 => ⟨_, rfl, (by show 2 ≤ sizeLine; decide), fun p0 np0 => ⟨(by show 1 ≤ sizeLine; decide), fun D nD => ?_⟩⟩⟩
    have s0 := (same_upd (o := .tup []) nW0).trans (same_upd (o := .tup [.ref W0, .ref a]) np0)
    have s1 := s0.trans (same_upd (o := .lst [.ref p0]) nD)
    have nDH : H D = none := s0.free nD
    have eD1 : (upd (upd (upd H W0 (.tup [])) p0 (.tup [.ref W0, .ref a])) D (.lst [.ref p0])) D = some (.lst [.ref p0]) := upd_same
    have eP1 := same_upd (o := .lst [.ref p0]) nD _ _ (show (upd (upd H W0 (.tup [])) p0 (.tup [.ref W0, .ref a])) p0 = some (.tup [.ref W0, .ref a]) from upd_same)
    have eW1 := same_upd (o := .lst [.ref p0]) nD _ _ (same_upd (o := .tup [.ref W0, .ref a]) np0 _ _ (show (upd H W0 (.tup [])) W0 = some (.tup []) from upd_same))
    generalize upd (upd (upd H W0 (.tup [])) p0 (.tup [.ref W0, .ref a])) D (.lst [.ref p0]) = H1 at *
    have w0 : WpsAt H1 (uptoW t 0) [.ref p0] := WpsAt.nil.snoc (m := ([], t)) ⟨p0, W0, .ref a, rfl, eP1, eW1, hv.same s1⟩
    dsimp only [gName]
    refine ⟨_, rfl, a, rfl, ⟨_, .inl (.inl (s1 _ _ ha))⟩, ?_⟩
    refine for_tup (K := K) (a := a) (xs := us) (fun i σ HZ => ∃ (y2 y3 y4 y5 : Option V) (ps : List V), σ = [some (.ref a), some (.ref D), y2, y3, y4, y5] ∧ Same H HZ ∧ HZ D = some (.lst ps) ∧ WpsAt HZ (uptoW t i) ps) ⟨_, _, _, _, _, rfl, s1, eD1, w0⟩ (fun i σ HZ _ pp => ?_) (fun i v σ HZ hx pp => ?_) (fun σ HZ pp => ?_)
    · obtain ⟨_, _, _, _, _, _, sZ, _⟩ := pp
      exact .inl (.inl (sZ _ _ ha))
    · obtain ⟨y2, y3, y4, y5, ps, rfl, sZ, eD, hps⟩ := pp
      have hi : i < t.fields.length := by rw [← lp]; exact (List.getElem?_eq_some_iff.mp hx).1
      obtain ⟨m, hm2⟩ : ∃ m, t.fields[i]? = some m := ⟨_, List.getElem?_eq_getElem hi⟩
      obtain ⟨p, q', g1, g2, g3⟩ := hf.get hm2
      rw [g1] at hx
      cases hx
      have hmm := List.mem_of_getElem? hm2
      have dl := Tr.depth_lt hmm
      have sl := Tr.size_mem hmm
      have gm : good m.2 := ((good_fields hg).1 m hmm).1
      refine ⟨p, _, rfl, .inl (.inl (sZ _ _ g2)), rfl, _, _, rfl, _, _, rfl, rfl, ?_⟩
      dsimp only
      refine ⟨_, rfl, m.2, q', rfl, g3.same sZ, by omega, gm, fun D2 ps2 H2 s2 nD2 eD2 w2 => ?_⟩
      refine ⟨D2, rfl, ⟨_, .inl (.inl eD2)⟩, ?_⟩
      have DD : D ≠ D2 := fun z => by rw [← z, eD] at nD2; cases nD2
      refine for_list (K := K) (a := D2) (xs := ps2) (fun j σ HY => ∃ (y4 y5 : Option V) (qs : List V), σ = [some (.ref a), some (.ref D), some (.str m.1), some q', y4, y5] ∧ Same H HY ∧ HY D2 = some (.lst ps2) ∧ WpsAt HY (wpaths m.2) ps2 ∧ HY D = some (.lst qs) ∧ WpsAt HY (uptoW t i ++ ((wpaths m.2).take j).map fun n => (m.1 :: n.1, n.2)) qs) ⟨_, _, ps, rfl, sZ.trans s2, eD2, w2, s2 _ _ eD, (by rw [List.take_zero, List.map_nil, List.append_nil]; exact hps.tups fun c xs e => s2 _ _ e)⟩ (fun j σ HY _ pp => ?_) (fun j v σ HY hx pp => ?_) (fun σ HY pp => ?_)
      · obtain ⟨_, _, _, _, _, h, _⟩ := pp
        exact .inl (.inl h)
      · obtain ⟨y4, y5, qs, rfl, sY, eD2Y, w2Y, eDY, wq⟩ := pp
        obtain ⟨n, hn, p, wsn, tv, rfl, k1, k2, k3⟩ := w2Y.get hx
        refine ⟨p, _, rfl, .inl (.inl k1), rfl, _, _, rfl, _, _, rfl, rfl, ?_⟩
        dsimp only
        refine ⟨_, rfl, .inl ⟨rfl, _, .inl (.inl eDY)⟩, _, rfl, (by show 1 ≤ sizeLine; decide), fun c nc => ⟨_, rfl, ?_⟩⟩
        have ln : n.1.length ≤ 3 := by
          have h1 := wp_depth gm (List.mem_of_getElem? hn)
          have h2 := (good_has gm).1
          omega
        dsimp only
        have sc := same_upd (o := .tup [.str m.1]) nc
        refine cat_any (xs := [.str m.1]) (ys := n.1.map V.str) upd_same (sc _ _ k2) (by rw [List.length_map]; show 1 + n.1.length ≤ 1000; omega) fun x H5 s5 e5 _ => ?_
        refine ⟨_, rfl, by show 2 ≤ sizeLine; decide, fun tp ntp => ?_⟩
        have stp := same_upd (o := .tup [.ref x, tv]) ntp
        have etp : (upd H5 tp (.tup [.ref x, tv])) tp = some (.tup [.ref x, tv]) := upd_same
        have sY6 := sc.trans (s5.trans stp)
        have eX6 := stp _ _ e5
        generalize upd H5 tp (.tup [.ref x, tv]) = H6 at *
        have eD6 := sY6 _ _ eDY
        have lq : qs.length ≤ 200 := by
          rw [wq.1, List.length_append, List.length_map, List.length_take]
          have h1 := uptoW_le t i
          have h2 : (wpaths m.2).length = 1 + m.2.size := wp_len
          have h3 := (good_has gm).2.1
          omega
        refine ⟨D, _, _, rfl, rfl, eD6, Nat.lt_of_le_of_lt lq (by decide), ?_⟩
        have mt := mut_tups (ys := qs ++ [V.ref tp]) eD6
        have hw6 : WpAt H6 (.ref tp) (m.1 :: n.1, n.2) := ⟨tp, x, tv, rfl, etp, eX6, k3.same sY6⟩
        refine ⟨_, _, qs ++ [.ref tp], rfl, same_mut (sY.trans sY6) nDH, by rw [upd_ne DD.symm]; exact sY6 _ _ eD2Y, (w2Y.tups fun c xs e => sY6 _ _ e).tups mt, upd_same, ?_⟩
        rw [List.take_add_one, hn, List.map_append, ← List.append_assoc]
        exact ((wq.tups fun c xs e => sY6 _ _ e).tups mt).snoc (hw6.tups mt)
      · obtain ⟨y4, y5, qs, rfl, sY, eD2Y, w2Y, eDY, wq⟩ := pp
        refine ⟨_, _, _, _, qs, rfl, sY, eDY, ?_⟩
        rw [w2Y.1, List.take_length] at wq
        rw [uptoW_succ hm2]
        exact wq
    · obtain ⟨y2, y3, y4, y5, ps, rfl, sZ, eD, hps⟩ := pp
      rw [lp, uptoW_all] at hps
      exact ⟨_, rfl, q D ps HZ sZ nDH eD hps⟩
end
end Lx
namespace Ub
open PySem PySem.Spec PyProof.Rows L2 Ur Ug Ue Up Uo Ve Va
end Ub
namespace Rw
open PySem PySem.Spec PyProof.Rows L2 Ub Ur Ug Ue Up Uo Ve Va Vk Pt
theorem _root_.Ub.WpsAt.drop1 {H : Hp} {t : Tr} {ps : List V} (h : WpsAt H (wpaths t) ps) : WpsAt H (wfp t) (ps.drop 1) := by
  refine ⟨by rw [List.length_drop, h.1]; rfl, fun i v m a b => ?_⟩
  rw [List.getElem?_drop] at a
  exact h.2 (1 + i) v m a (by rw [Nat.add_comm]; exact b)
theorem drop1_cut (us : List V) (h : 1 ≤ us.length) : cutV us (some 1) none = us.drop 1 := cut_drop (us := us) (i := 1) h
end Rw
namespace Lx
open PySem PySem.Spec PyProof.Rows L2 Ub Ur Ug Ue Up Uo Ve Va Vk Pt Gr Ni Rw
section
variable {P : Program} {w : World} {K : PySem.W.Frag} {mg : Str → Option Value} {base : Heap}
theorem sc_law_shared : FnScope ["_law_state", "_law_heap", "_law_tree_here", "_law_roots", "_law_paths_here", "_law_turn", "_law_target", "_law_kind", "_law_likes", "_law_source", "_law_value", "_law_pair"] ["_law_state", "_law_heap", "_law_tree_here", "_law_roots"] (defScope s_law_shared) := ⟨rfl, rfl, rfl, by decide +kernel, rfl, by decide +kernel, by decide +kernel⟩
theorem ok_law_shared {f : Addr} {fd : FuncData} (F : FunD K "_law_shared" "_law_shared" (defArgs s_law_shared) (defBody s_law_shared) (defScope s_law_shared) [] [] f fd) (T : Tx K mg) (c_law_draw : Cal P w K mg base 1 "_law_draw" ["_law_state", "_law_many"] sp_draw) (c_law_of : Cal P w K mg base 2 "_law_of" ["_law_state", "_law_some"] sp_of) (c_law_paths : Cal P w K mg base 4 "_law_paths" ["_law_tree_here"] (sp_wpaths3 4)) (c_law_get : Cal P w K mg base 3 "_law_get" ["_law_heap", "_law_tree_here", "_law_node", "_law_words"] sp_get) (c_law_set : Cal P w K mg base 4 "_law_set" ["_law_heap", "_law_tree_here", "_law_root", "_law_words", "_law_value"] sp_set) : FnOk P w K mg base CX0 5 f fd ["_law_state", "_law_heap", "_law_tree_here", "_law_roots"] sp_shared := by
  refine F.ok sc_law_shared (fun vs H Q E h => by obtain ⟨_, _, _, _, _, _, _, _, _, _, _, rfl, _⟩ := h; rfl) (fun cdv A outer s H vs Q E hr h => ?_)
  obtain ⟨st, g, l, hp, ra, t, v, rs, G, as, ts, rfl, S, hh, Ty1, ht, gt, tn, hra, rne, lrs, hrs, off, nra, q⟩ := h
  refine ⟨_, PSs.nox (pss_cons (ps_set (i := 4) sc_law_shared.nd rfl (by first | exact Or.inl rfl | exact Or.inr rfl) (pe_cal c_law_paths (hr.mono (by omega)) (by rfl) (pa_cons (pv 2) pa_nil)))
      (pss_one (ps_for PassesOwn.never rfl (pi_range1 (by rfl) T.range (pa_cons (pe_cal c_law_draw (hr.mono (by omega)) (by rfl) (pa_cons (pv 0) (pa_cons pe_int pa_nil))) pa_nil)) (pg_name (i := 5) sc_law_shared.nd rfl (by first | exact Or.inl rfl | exact Or.inr rfl))
        (pss_cons (ps_asg (pe_cal c_law_of (hr.mono (by omega)) (by rfl) (pa_cons (pv 0) (pa_cons (pe_slice (sl_listK K) (pv 4) (po_some pe_int) po_none) pa_nil))) (pg_tupK K (n := 2) rfl (pgs_cons (pg_name (i := 6) sc_law_shared.nd rfl (by first | exact Or.inl rfl | exact Or.inr rfl)) (pgs_cons (pg_name (i := 7) sc_law_shared.nd rfl (by first | exact Or.inl rfl | exact Or.inr rfl)) pgs_nil))))
          (pss_cons (ps_setLc (i := 8) (own := [("_law_pair", 11)]) (by rfl) sc_law_shared.nd rfl rfl (sw_true rfl rfl rfl (by decide +kernel)) (pi_listK K (pv 4)) (blkOk_by (N := ["_law_state", "_law_heap", "_law_tree_here", "_law_roots", "_law_paths_here", "_law_turn", "_law_target", "_law_kind", "_law_likes", "_law_source", "_law_value", "_law_pair"]) (sc := (defScope s_law_shared)) (by decide +kernel)) (fun _ _ _ _ _ => (pg_name (i := 11) sc_law_shared.nd rfl (by first | exact Or.inl rfl | exact Or.inr rfl))) (fun _ _ _ _ _ => pts_one (pt_cmpR (op_eqDK K hr.units) (pe_ix (ix_tupK K) (pv 11) pe_int (fun _ _ => rfl)) (pv 7) (nomark _))) (fun _ _ _ _ _ => (pe_ix (ix_tupK K) (pv 11) pe_int (fun _ _ => rfl))))
          (pss_cons (ps_set (i := 9) sc_law_shared.nd rfl (by first | exact Or.inl rfl | exact Or.inr rfl) (pe_cal c_law_of (hr.mono (by omega)) (by rfl) (pa_cons (pv 0) (pa_cons (pv 8) pa_nil))))
          (pss_cons (ps_set (i := 10) sc_law_shared.nd rfl (by first | exact Or.inl rfl | exact Or.inr rfl) (pe_cal c_law_get (hr.mono (by omega)) (by rfl) (pa_cons (pv 1) (pa_cons (pv 2) (pa_cons (pe_cal c_law_of (hr.mono (by omega)) (by rfl) (pa_cons (pv 0) (pa_cons (pv 3) pa_nil))) (pa_cons (pv 9) pa_nil))))))
          (pss_one (ps_expr (pe_cal c_law_set (hr.mono (by omega)) (by rfl) (pa_cons (pv 1) (pa_cons (pv 2) (pa_cons (pe_cal c_law_of (hr.mono (by omega)) (by rfl) (pa_cons (pv 0) (pa_cons (pv 3) pa_nil))) (pa_cons (pv 6) (pa_cons (pv 10) pa_nil))))))))))))))), ?_⟩
  have md := (good_has gt).1
  refine ⟨_, rfl, t, v, rfl, ht, by omega, gt, fun D ps H1 s1 nD eD wps => ?_⟩
  have S1 := S.same s1
  have h1 := hh.same s1
  have nDN : D ∉ st :: g :: l :: as := fun z => by
    obtain ⟨xs, e⟩ := shN S hh z
    rw [nD] at e
    cases e
  have raN : ra ∉ st :: g :: l :: as := fun z => nra (by simp only [List.mem_cons] at z ⊢; rcases z with z | z | z | z <;> simp [z])
  have T1 : ∀ c xs, H1 c = some (.tup xs) → c ∉ st :: g :: l :: as := fun c xs e z => by
    obtain ⟨ys, e2⟩ := shN S1 h1 z
    rw [e] at e2
    cases e2
  have hra1 := s1 _ _ hra
  have ht1 := ht.same s1
  have k0 : Kn (st :: g :: l :: as) H H1 := .of s1
  dsimp only [gName]
  refine ⟨_, rfl, st, g, l, 7, rfl, by decide, by decide, S1, fun dn H2 d0 d1 S2 k2 => ?_⟩
  obtain ⟨dm, rfl⟩ : ∃ n : Nat, dn = (n : Int) := ⟨dn.toNat, by omega⟩
  refine ⟨_, rfl, by omega, by omega, ?_⟩
  rw [Int.toNat_natCast]
  refine for_range (lo := 0) (n := dm) (fun i σ HX => ∃ (G' : Gi) (y5 y6 y7 y8 y9 y10 y11 : Option V), σ = [some (.ref st), some (.ref hp), some v, some (.ref ra), some (.ref D), y5, y6, y7, y8, y9, y10, y11] ∧ HpAt HX hp G' as ∧ Ty ts G' ∧ StAt HX st g l ∧ Kn (st :: g :: l :: as) H1 HX) ⟨G, _, _, _, _, _, _, _, rfl, h1.kp k2 off, Ty1, S2, Kn.kp k2 (by simp) (by simp) (by simp)⟩ (fun i σ HX hi pp => ?_) (fun σ HX pp => ?_)
  rotate_left
  · obtain ⟨G', _, _, _, _, _, _, _, rfl, hX, TyX, SX, kX⟩ := pp
    exact q G' HX hX TyX SX (k0.trans kX)
  obtain ⟨G', y5, y6, y7, y8, y9, y10, y11, rfl, hX, TyX, SX, kX⟩ := pp
  have tuX : ∀ c xs, H1 c = some (.tup xs) → HX c = some (.tup xs) := fun c xs e => kX _ _ e (T1 _ _ e)
  have eDX := kX _ _ eD nDN
  have raX := kX _ _ hra1 raN
  have wX := wps.tups tuX
  have htX := ht1.tups tuX
  obtain ⟨D1, D2, D3⟩ : D ≠ st ∧ D ≠ g ∧ D ≠ l := ⟨fun z => nDN (by simp [z]), fun z => nDN (by simp [z]), fun z => nDN (by simp [z])⟩
  obtain ⟨r1, r2, r3⟩ : ra ≠ st ∧ ra ≠ g ∧ ra ≠ l := ⟨fun z => raN (by simp [z]), fun z => raN (by simp [z]), fun z => raN (by simp [z])⟩
  clear T1 k2 S2 S1 h1 eD hra1 wps ht1
  dsimp only [gName]
  have lps : ps.length = (wpaths t).length := wX.1
  have lwp : (wpaths t).length = 1 + t.size := wp_len
  have szt := (good_has gt).2.1
  have tpos : 1 ≤ t.size := by
    cases t with
    | nil => cases tn
    | cons w a b => show 1 ≤ 1 + a.size + b.size; omega
  refine ⟨_, rfl, _, rfl, 1, rfl, noPart ⟨D, _, rfl, .inl (.inl eDX), fun Eq0 nE0 => ?_⟩⟩
  rw [drop1_cut _ (by omega)]
  have sE := same_upd (o := .lst (ps.drop 1)) nE0
  have eE : (upd HX Eq0 (.lst (ps.drop 1))) Eq0 = some (.lst (ps.drop 1)) := upd_same
  have nE3 := SX.ne nE0
  have hE := hX.same sE
  have SE := SX.same sE
  have kE : Kn (st :: g :: l :: as) H1 (upd HX Eq0 (.lst (ps.drop 1))) := kX.trans (.of sE)
  have wE := wX.tups fun c xs e => sE _ _ e
  have htE := htX.same sE
  have raE := sE _ _ raX
  have eDE := sE _ _ eDX
  generalize upd HX Eq0 (.lst (ps.drop 1)) = H3 at *
  clear hX SX kX wX htX raX eDX nE0 sE tuX
  have ld : (ps.drop 1).length = t.size := by rw [List.length_drop]; omega
  refine ⟨st, g, l, Eq0, _, rfl, eE, nE3.1, nE3.2.1, nE3.2.2, fun z => by rw [z] at ld; simp at ld; omega, by omega, SE, fun v1 H4 hv S4 k4 => ?_⟩
  obtain ⟨m, hm, pm, wm, tvm, rfl, q1, q2, q3⟩ := wE.drop1.mem hv
  have tu4 := kp_tups SE k4
  have h4 := hE.kp k4 off
  have kk4 : Kn (st :: g :: l :: as) H1 H4 := kE.trans (Kn.kp k4 (by simp) (by simp) (by simp))
  have w4 := wE.tups tu4
  have ht4 := htE.tups tu4
  have ra4 := k4 _ _ raE r1 r2 r3
  have eD4 := k4 _ _ eDE D1 D2 D3
  have q14 := tu4 _ _ q1
  have q24 := tu4 _ _ q2
  have q34 := q3.tups tu4
  clear hE SE kE wE htE raE eDE q1 q2 q3 tu4 k4 eE nE3
  have hmw : m ∈ wpaths t := List.mem_cons_of_mem _ hm
  have gm : good m.2 := wp_good gt hmw
  refine ⟨pm, _, rfl, .inl (.inl q14), rfl, _, _, rfl, _, _, rfl, rfl, ?_⟩
  dsimp only
  -- the likes
  refine ⟨_, rfl, D, rfl, ⟨_, .inl (.inl eD4)⟩, fun Lk nLk => ?_⟩
  refine lc_list (K := K) (a := D) (xs := ps) (fun j HY => Same H4 HY ∧ ∃ ss, HY Lk = some (.lst ss) ∧ (∀ v ∈ ss, ∃ n : List Str × Tr, n ∈ wpaths t ∧ n.2 = m.2 ∧ ∃ b, v = .ref b ∧ HY b = some (.tup (n.1.map V.str))) ∧ ss.length ≤ j ∧ (m ∈ (wpaths t).take j → ss ≠ [])) ⟨same_upd nLk, [], upd_same, (fun _ h => nomatch h), Nat.le_refl _, fun h => nomatch h⟩ (fun j HY hj p => .inl (.inl (p.1 _ _ eD4))) (fun j y HY hy p => ?_) (fun HY p => ?_)
  · obtain ⟨sY, ss, eS, hss, ls, hin⟩ := p
    have hjj := (List.getElem?_eq_some_iff.mp hy).1
    obtain ⟨n, hn2, pn, wsm, tvn, rfl, k1, k2, k3⟩ := w4.get hy
    have hnm := List.mem_of_getElem? hn2
    refine ⟨rfl, _, rfl, pn, _, 1, tvn, rfl, rfl, .inl (.inl (sY _ _ k1)), rfl, _, rfl, tree_eq (wp_good gt hnm) gm (k3.same sY) (q34.same sY) ⟨_, rfl, ?_⟩⟩
    refine ite2 (fun e => ?_) (fun e => ⟨sY, ss, eS, hss, by omega, fun h => hin ?_⟩)
    · have e2 : n.2 = m.2 := (eqT_iff _ _).mp e
      refine ⟨_, rfl, pn, _, 0, .ref wsm, rfl, rfl, .inl (.inl (sY _ _ k1)), rfl, ?_⟩
      refine ⟨_, eS, Nat.lt_of_le_of_lt (show ss.length ≤ 1000 by omega) (by decide), same_mut sY nLk, ss ++ [.ref wsm], upd_same, ?_, by rw [List.length_append]; show ss.length + 1 ≤ _; omega, fun _ => by simp⟩
      intro v hv
      rcases List.mem_append.mp hv with h | h
      · exact (hss v h).imp fun n' hn' => ⟨hn'.1, hn'.2.1, hn'.2.2.imp fun b hb => ⟨hb.1, mut_tups eS _ _ hb.2⟩⟩
      · rw [List.mem_singleton.mp h]
        exact ⟨n, hnm, e2, wsm, rfl, mut_tups eS _ _ (sY _ _ k2)⟩
    · rw [List.take_add_one, hn2] at h
      rcases List.mem_append.mp h with h | h
      · exact h
      · have e3 : m = n := by simpa using h
        rw [e3] at e
        exact (e ((eqT_iff _ _).mpr rfl)).elim
  obtain ⟨sY, ss, eS, hss, ls, hin⟩ := p
  rw [lps, List.take_length] at hin
  have ssne := hin hmw
  have SY := S4.same sY
  have nL3 : Lk ≠ st ∧ Lk ≠ g ∧ Lk ≠ l := S4.ne nLk
  have hY := h4.same sY
  have kY : Kn (st :: g :: l :: as) H1 HY := kk4.trans (.of sY)
  have q2Y := sY _ _ q24
  have raY := sY _ _ ra4
  have htY := ht4.same sY
  clear S4 h4 kk4 w4 ht4 ra4 eD4 q14 q24 q34 sY nLk
  dsimp only [gName]
  refine ⟨_, rfl, _, rfl, st, g, l, Lk, ss, rfl, eS, nL3.1, nL3.2.1, nL3.2.2, ssne, by omega, SY, fun v2 H5 hv2 S5 k5 => ?_⟩
  obtain ⟨n, hn, en, wn, rfl, ewn⟩ := hss v2 hv2
  have tu5 := kp_tups SY k5
  have h5 := hY.kp k5 off
  have kk5 : Kn (st :: g :: l :: as) H1 H5 := kY.trans (Kn.kp k5 (by simp) (by simp) (by simp))
  have ra5 := k5 _ _ raY r1 r2 r3
  have ht5 := htY.tups tu5
  have wm5 := tu5 _ _ q2Y
  have wn5 := tu5 _ _ ewn
  clear SY hY kY raY htY q2Y ewn hss eS tu5 k5
  dsimp only [gName]
  have rsne : rs.map V.int ≠ [] := fun z => rne (List.map_eq_nil_iff.mp z)
  have lr : (rs.map V.int).length ≤ 1000 := by rw [List.length_map]; omega
  refine ⟨_, rfl, _, rfl, _, rfl, _, rfl, st, g, l, ra, _, rfl, ra5, r1, r2, r3, rsne, lr, S5, fun v3 H6 hv3 S6 k6 => ?_⟩
  obtain ⟨c1, hc1, rfl⟩ := List.mem_map.mp hv3
  have tu6 := kp_tups S5 k6
  refine ⟨_, rfl, hp, t, v, c1, wn, n.1, n.2, G', as, ts, rfl, h5.kp k6 off, TyX, ht5.tups tu6, gt, hrs c1 hc1, tu6 _ _ wn5, hn, fun x H7 nx s7 => ?_⟩
  dsimp only [gName]
  have S7 := S6.same s7
  have h7 := (h5.kp k6 off).same s7
  have k7 : Kn (st :: g :: l :: as) H1 H7 := kk5.trans ((Kn.kp k6 (by simp) (by simp) (by simp)).trans (.of s7))
  have ra7 := s7 _ _ (k6 _ _ ra5 r1 r2 r3)
  have wm7 := s7 _ _ (tu6 _ _ wm5)
  have ht7 := (ht5.tups tu6).same s7
  refine ⟨_, rfl, _, rfl, _, rfl, _, rfl, st, g, l, ra, _, rfl, ra7, r1, r2, r3, rsne, lr, S7, fun v4 H8 hv4 S8 k8 => ?_⟩
  obtain ⟨c2, hc2, rfl⟩ := List.mem_map.mp hv4
  have tu8 := kp_tups S7 k8
  rw [en] at nx
  have mne : m.1 ≠ [] := fun z => wfp_ne (t := t) (s := m.2) (by rw [← z]; exact hm)
  refine ⟨_, rfl, _, rfl, hp, t, v, c2, x, wm, m.1, m.2, G', as, ts, rfl, h7.kp k8 off, TyX, ht7.tups tu8, gt, hrs c2 hc2, tu8 _ _ wm7, mne, hmw, nx, fun G9 H9 h9 T9 k9 => ?_⟩
  have offS : ∀ b ∈ [st, g, l], b ∉ as := fun b hb z => off b (List.mem_cons_of_mem _ z) hb
  refine ⟨G9, _, _, _, _, _, _, _, rfl, h9, T9, ?_, (k7.trans (Kn.kp k8 (by simp) (by simp) (by simp))).trans fun b o e n => k9 b o e fun z => n (by simp [z])⟩
  obtain ⟨⟨gs, ls0, c0, x0, y1, y2, y3, y4⟩, m1, m2, m3⟩ := S8
  exact ⟨⟨gs, ls0, c0, x0, k9 _ _ y1 (offS _ (by simp)), k9 _ _ y2 (offS _ (by simp)), k9 _ _ y3 (offS _ (by simp)), y4⟩, m1, m2, m3⟩
end
section
variable {P : Program} {w : World} {K : PySem.W.Frag} {mg : Str → Option Value} {base : Heap}
theorem no_content {k : Nat} {f : Addr} {fd : FuncData} {x y z : Str} : FnOk P w K mg base CX0 k f fd [x, y, z] (sp_walk contI 0) :=
  ⟨fun vs H Q E h => by obtain ⟨_, _, _, _, _, _, _, rfl, _⟩ := h; rfl, fun A outer s H args us vs Q E _ _ _ _ h => by
    obtain ⟨_, _, _, _, _, _, _, _, _, _, _, _, h, _⟩ := h
    exact absurd h (Nat.not_lt_zero _)⟩
theorem sc_law_content : FnScope ["_law_heap", "_law_tree_here", "_law_node", "_law_found", "_law_at_here", "_law_below_here"] ["_law_heap", "_law_tree_here", "_law_node"] (defScope s_law_content) := ⟨rfl, rfl, rfl, by decide +kernel, rfl, by decide +kernel, by decide +kernel⟩
theorem ok_law_content {f : Addr} {fd : FuncData} (F : FunD K "_law_content" "_law_content" (defArgs s_law_content) (defBody s_law_content) (defScope s_law_content) [] [] f fd) (T : Tx K mg) (hm : mg "_law_content" = some (.ref f)) (hb : Binds K fd ["_law_heap", "_law_tree_here", "_law_node"] []) : ∀ d, FnOk P w K mg base CX0 d f fd ["_law_heap", "_law_tree_here", "_law_node"] (sp_walk contI d)
  | 0 => no_content
  | d + 1 => by
    have c_law_content : Cal P w K mg base d "_law_content" ["_law_heap", "_law_tree_here", "_law_node"] (sp_walk contI d) := ⟨f, fd, ok_law_content F T hm hb d, hm, F.kp, hb⟩
    refine F.ok sc_law_content (fun vs H Q E h => by obtain ⟨_, _, _, _, _, _, _, rfl, _⟩ := h; rfl) (fun cdv A outer s H vs Q E hr h => ?_)
    obtain ⟨hp, t, v, c, G, as, ts, rfl, hh, Ty1, ht, gt, hd, hn, q⟩ := h
    refine ⟨_, PSs.nox (pss_cons (ps_if (pt_cmpR (op_eq_nilK K hr.units0) (pv 1) (pe_tup pa_nil) (nomark _))
        (pss_one (ps_ret (pe_lst (pa_cons (pv 2) pa_nil))))
        pss_nil)
      (pss_cons (ps_set (i := 3) sc_law_content.nd rfl (by first | exact Or.inl rfl | exact Or.inr rfl) (pe_lst pa_nil))
      (pss_cons (ps_for PassesOwn.never rfl (pi_range1 (by rfl) T.range (pa_cons (pe_callB (call_len_seqK K) (by rfl) T.len (by decide +kernel) (pa_cons (pv 1) pa_nil)) pa_nil)) (pg_name (i := 4) sc_law_content.nd rfl (by first | exact Or.inl rfl | exact Or.inr rfl))
        (pss_cons (ps_set (i := 5) sc_law_content.nd rfl (by first | exact Or.inl rfl | exact Or.inr rfl) (pe_ix (ix_listK K) (pe_ix (ix_listK K) (pv 0) (pv 2) (fun _ _ => rfl)) (pv 4) (fun _ _ => rfl)))
          (pss_one (ps_set (i := 3) sc_law_content.nd rfl (by first | exact Or.inl rfl | exact Or.inr rfl) (pe_op op_cat (pv 3) (pe_cal c_law_content (hr.mono (by omega)) (by rfl) (pa_cons (pv 0) (pa_cons (pe_ix (ix_tupK K) (pe_ix (ix_tupK K) (pv 1) (pv 4) (fun _ _ => rfl)) pe_int (fun _ _ => rfl)) (pa_cons (pv 5) pa_nil)))))))))
      (pss_one (ps_ret (pv 3)))))), ?_⟩
    obtain ⟨a, us, rfl, ha, hf⟩ := id ht
    have lp := hf.len
    have lt := lenF gt
    refine ⟨_, rfl, Nat.zero_le _, fun e ne => ?_⟩
    have s1 := same_upd (o := .tup []) ne
    refine ⟨a, e, us, rfl, rfl, .inl (.inl (s1 _ _ ha)), .inl (.inl upd_same), _, rfl, ?_⟩
    refine iteE hf.nil_iff (fun e0 => ?_) (fun e0 => ?_)
    · refine ⟨_, rfl, Nat.le_of_ble_eq_true rfl, fun D nD => q D _ (s1.trans (same_upd nD)) (s1.free nD) ?_⟩
      rw [upd_same, Tr.nil_of e0]
      rfl
    have e0 : t.isNil = false := by simpa using e0
    dsimp only [tNext]
    refine ⟨Nat.zero_le _, fun D0 nD0 => ?_⟩
    have s2 := s1.trans (same_upd (o := .lst []) nD0)
    have nD0H := s1.free nD0
    have eD0 : (upd (upd H e (.tup [])) D0 (.lst [])) D0 = some (.lst (([] : List Int).map V.int)) := upd_same
    generalize upd (upd H e (.tup [])) D0 (.lst []) = H2 at *
    obtain ⟨m, na, cs, rfl, hm0, hna, hc, hcs, ct, ec⟩ := hh.node Ty1 hn e0
    have eAll : contI G t ((m : Nat) : Int) = (t.fields.zip cs).flatMap fun m => contI G m.1.2 m.2 := by
      unfold contI
      rw [e0, if_neg (by simp), ec, contC_fs ct.len]
      rfl
    have lAll : ((t.fields.zip cs).flatMap fun m => contI G m.1.2 m.2).length ≤ 40 := by
      rw [← eAll, contI_len]
      exact Nat.le_trans gt.2.2 (by decide)
    dsimp only [gName]
    refine ⟨_, rfl, a, us, rfl, .inr (.inl (.inl (s2 _ _ ha))), _, rfl, by omega, by omega, ?_⟩
    rw [Int.toNat_natCast, lp]
    refine for_range (lo := 0) (n := t.fields.length) (fun j σ HX => ∃ (D : Addr) (y4 y5 : Option V), σ = [some (.ref hp), some (.ref a), some (.int ((m : Nat) : Int)), some (.ref D), y4, y5] ∧ Same H HX ∧ H D = none ∧ HX D = some (.lst ((((t.fields.zip cs).take j).flatMap fun m => contI G m.1.2 m.2).map V.int))) ⟨D0, none, none, rfl, s2, nD0H, eD0⟩ (fun j σ HX hj pp => ?_) (fun σ HX pp => ?_)
    · obtain ⟨D, y4, y5, rfl, sX, nD, eD⟩ := pp
      obtain ⟨fl, hfl⟩ : ∃ fl, t.fields[j]? = some fl := ⟨_, List.getElem?_eq_getElem hj⟩
      obtain ⟨cj, hcj, ncj⟩ := ct.get hfl
      obtain ⟨p, q', g1, g2, g3⟩ := hf.get hfl
      have hX := hh.same sX
      have gm : good fl.2 := ((good_fields gt).1 fl (List.mem_of_getElem? hfl)).1
      have dl := Tr.depth_lt (List.mem_of_getElem? hfl)
      dsimp only [gName]
      refine ⟨_, rfl, _, rfl, hp, _, ((m : Nat) : Int), .ref na, rfl, rfl, .inl (.inl hX.at_), atI_nat (by rw [List.getElem?_map, hna]; rfl), _, rfl, na, _, (0 + (j : Int)), .int cj, rfl, rfl, .inl (.inl (sX _ _ hcs)), by rw [Int.zero_add]; exact atI_nat (by rw [List.getElem?_map, hcj]; rfl), ?_⟩
      dsimp only [gName]
      refine ⟨_, rfl, _, rfl, _, rfl, _, rfl, a, us, (0 + (j : Int)), .ref p, rfl, rfl, .inl (.inl (sX _ _ ha)), by rw [Int.zero_add]; exact atI_nat g1, p, _, 1, q', rfl, rfl, .inl (.inl (sX _ _ g2)), rfl, _, rfl, ?_⟩
      refine ⟨hp, fl.2, q', cj, G, as, ts, rfl, hX, Ty1, g3.same sX, gm, by omega, ncj, fun D2 H3 s3 nD2 e2 => ?_⟩
      have l1 := fm_le (l := t.fields.zip cs) (f := fun m => contI G m.1.2 m.2) (j := j)
      have l2 : (contI G fl.2 cj).length ≤ 5 := by
        rw [contI_len]
        exact gm.2.2
      refine ⟨D, D2, _, _, rfl, rfl, s3 _ _ eD, e2, Nat.le_trans (show _ ≤ 100 by rw [List.length_map, List.length_map]; omega) (by decide), fun D3 nD3 => ?_⟩
      have s4 := s3.trans (same_upd (o := .lst (((((t.fields.zip cs).take j).flatMap fun m => contI G m.1.2 m.2).map V.int) ++ (contI G fl.2 cj).map V.int)) nD3)
      refine ⟨D3, _, _, rfl, sX.trans s4, (sX.trans s3).free nD3, ?_⟩
      rw [upd_same, zip_succ hfl hcj, fm_snoc, List.map_append]
    · obtain ⟨D, y4, y5, rfl, sX, nD, eD⟩ := pp
      refine ⟨_, rfl, q D HX sX nD ?_⟩
      rw [eD, eAll]
      rw [List.take_of_length_le (by rw [List.length_zip]; omega)]
theorem no_nodes {k : Nat} {f : Addr} {fd : FuncData} {x y z : Str} : FnOk P w K mg base CX0 k f fd [x, y, z] (sp_walk nodI 0) :=
  ⟨fun vs H Q E h => by obtain ⟨_, _, _, _, _, _, _, rfl, _⟩ := h; rfl, fun A outer s H args us vs Q E _ _ _ _ h => by
    obtain ⟨_, _, _, _, _, _, _, _, _, _, _, _, h, _⟩ := h
    exact absurd h (Nat.not_lt_zero _)⟩
theorem sc_law_nodes : FnScope ["_law_heap", "_law_tree_here", "_law_node", "_law_found", "_law_at_here", "_law_below_here"] ["_law_heap", "_law_tree_here", "_law_node"] (defScope s_law_nodes) := ⟨rfl, rfl, rfl, by decide +kernel, rfl, by decide +kernel, by decide +kernel⟩
theorem ok_law_nodes {f : Addr} {fd : FuncData} (F : FunD K "_law_nodes" "_law_nodes" (defArgs s_law_nodes) (defBody s_law_nodes) (defScope s_law_nodes) [] [] f fd) (T : Tx K mg) (hm : mg "_law_nodes" = some (.ref f)) (hb : Binds K fd ["_law_heap", "_law_tree_here", "_law_node"] []) : ∀ d, FnOk P w K mg base CX0 d f fd ["_law_heap", "_law_tree_here", "_law_node"] (sp_walk nodI d)
  | 0 => no_nodes
  | d + 1 => by
    have c_law_nodes : Cal P w K mg base d "_law_nodes" ["_law_heap", "_law_tree_here", "_law_node"] (sp_walk nodI d) := ⟨f, fd, ok_law_nodes F T hm hb d, hm, F.kp, hb⟩
    refine F.ok sc_law_nodes (fun vs H Q E h => by obtain ⟨_, _, _, _, _, _, _, rfl, _⟩ := h; rfl) (fun cdv A outer s H vs Q E hr h => ?_)
    obtain ⟨hp, t, v, c, G, as, ts, rfl, hh, Ty1, ht, gt, hd, hn, q⟩ := h
    refine ⟨_, PSs.nox (pss_cons (ps_set (i := 3) sc_law_nodes.nd rfl (by first | exact Or.inl rfl | exact Or.inr rfl) (pe_ifExp (pt_cmpR (op_neDK K hr.units) (pv 1) (pe_tup pa_nil) (nomark _)) (pe_lst (pa_cons (pv 2) pa_nil)) (pe_lst pa_nil)))
      (pss_cons (ps_for PassesOwn.never rfl (pi_range1 (by rfl) T.range (pa_cons (pe_callB (call_len_seqK K) (by rfl) T.len (by decide +kernel) (pa_cons (pv 1) pa_nil)) pa_nil)) (pg_name (i := 4) sc_law_nodes.nd rfl (by first | exact Or.inl rfl | exact Or.inr rfl))
        (pss_cons (ps_set (i := 5) sc_law_nodes.nd rfl (by first | exact Or.inl rfl | exact Or.inr rfl) (pe_ix (ix_listK K) (pe_ix (ix_listK K) (pv 0) (pv 2) (fun _ _ => rfl)) (pv 4) (fun _ _ => rfl)))
          (pss_one (ps_set (i := 3) sc_law_nodes.nd rfl (by first | exact Or.inl rfl | exact Or.inr rfl) (pe_op op_cat (pv 3) (pe_cal c_law_nodes (hr.mono (by omega)) (by rfl) (pa_cons (pv 0) (pa_cons (pe_ix (ix_tupK K) (pe_ix (ix_tupK K) (pv 1) (pv 4) (fun _ _ => rfl)) pe_int (fun _ _ => rfl)) (pa_cons (pv 5) pa_nil)))))))))
      (pss_one (ps_ret (pv 3))))), ?_⟩
    obtain ⟨a, us, rfl, ha, hf⟩ := id ht
    have lp := hf.len
    have lt := lenF gt
    refine ⟨_, rfl, Nat.zero_le _, fun e ne => ?_⟩
    have s1 := same_upd (o := .tup []) ne
    refine tree_ne gt good_nil (ht.same s1) ⟨e, [], rfl, upd_same, rfl⟩ ⟨_, rfl, ?_⟩
    have enil : eqT t .nil = t.isNil := by
      cases em : t.isNil with
      | true => rw [Tr.nil_of em]; exact eqT_self _
      | false =>
        cases ee : eqT t .nil with
        | false => rfl
        | true => rw [(eqT_iff _ _).mp ee] at em; cases em
    rw [enil]
    cases e0 : t.isNil with
    | true =>
      refine (if_neg (by simp)).mpr ⟨Nat.zero_le _, fun D0 nD0 => ?_⟩
      have s2 := s1.trans (same_upd (o := .lst []) nD0)
      have eD0 : (upd (upd H e (.tup [])) D0 (.lst [])) D0 = some (.lst []) := upd_same
      generalize upd (upd H e (.tup [])) D0 (.lst []) = H2 at *
      have ef : t.fields = [] := by rw [Tr.nil_of e0]; rfl
      dsimp only [gName]
      refine ⟨_, rfl, a, us, rfl, .inr (.inl (.inl (s2 _ _ ha))), _, rfl, by omega, by omega, ?_⟩
      rw [Int.toNat_natCast, lp, ef]
      refine for_range (lo := 0) (n := 0) (fun j σ HX => σ = [some (.ref hp), some (.ref a), some (.int c), some (.ref D0), none, none] ∧ HX = H2) ⟨rfl, rfl⟩ (fun j σ HX hj pp => absurd hj (Nat.not_lt_zero _)) (fun σ HX pp => ?_)
      obtain ⟨rfl, rfl⟩ := pp
      refine ⟨_, rfl, q D0 _ s2 (s1.free nD0) ?_⟩
      rw [eD0, Tr.nil_of e0]
      rfl
    | false =>
    refine (if_pos (by simp)).mpr ⟨_, rfl, Nat.le_of_ble_eq_true rfl, fun D0 nD0 => ?_⟩
    have s2 := s1.trans (same_upd (o := .lst [.int c]) nD0)
    have nD0H := s1.free nD0
    have eD0 : (upd (upd H e (.tup [])) D0 (.lst [.int c])) D0 = some (.lst (([c] : List Int).map V.int)) := upd_same
    generalize upd (upd H e (.tup [])) D0 (.lst [.int c]) = H2 at *
    obtain ⟨m, na, cs, rfl, hm0, hna, hc, hcs, ct, ec⟩ := hh.node Ty1 hn e0
    have eAll : nodI G t ((m : Nat) : Int) = ((m : Nat) : Int) :: (t.fields.zip cs).flatMap fun m => nodI G m.1.2 m.2 := by
      unfold nodI
      rw [e0, if_neg (by simp), ec, nodC_fs ct.len]
      congr 1
    have lAll : ((t.fields.zip cs).flatMap fun m => nodI G m.1.2 m.2).length ≤ 40 := by
      have h1 := nodI_len (G := G) (t := t) (c := ((m : Nat) : Int))
      rw [eAll, List.length_cons] at h1
      have h2 : t.recs ≤ 5 := gt.2.1
      omega
    dsimp only [gName]
    refine ⟨_, rfl, a, us, rfl, .inr (.inl (.inl (s2 _ _ ha))), _, rfl, by omega, by omega, ?_⟩
    rw [Int.toNat_natCast, lp]
    refine for_range (lo := 0) (n := t.fields.length) (fun j σ HX => ∃ (D : Addr) (y4 y5 : Option V), σ = [some (.ref hp), some (.ref a), some (.int ((m : Nat) : Int)), some (.ref D), y4, y5] ∧ Same H HX ∧ H D = none ∧ HX D = some (.lst ((((m : Nat) : Int) :: ((t.fields.zip cs).take j).flatMap fun m => nodI G m.1.2 m.2).map V.int))) ⟨D0, none, none, rfl, s2, nD0H, eD0⟩ (fun j σ HX hj pp => ?_) (fun σ HX pp => ?_)
    · obtain ⟨D, y4, y5, rfl, sX, nD, eD⟩ := pp
      obtain ⟨fl, hfl⟩ : ∃ fl, t.fields[j]? = some fl := ⟨_, List.getElem?_eq_getElem hj⟩
      obtain ⟨cj, hcj, ncj⟩ := ct.get hfl
      obtain ⟨p, q', g1, g2, g3⟩ := hf.get hfl
      have hX := hh.same sX
      have gm : good fl.2 := ((good_fields gt).1 fl (List.mem_of_getElem? hfl)).1
      have dl := Tr.depth_lt (List.mem_of_getElem? hfl)
      dsimp only [gName]
      refine ⟨_, rfl, _, rfl, hp, _, ((m : Nat) : Int), .ref na, rfl, rfl, .inl (.inl hX.at_), atI_nat (by rw [List.getElem?_map, hna]; rfl), _, rfl, na, _, (0 + (j : Int)), .int cj, rfl, rfl, .inl (.inl (sX _ _ hcs)), by rw [Int.zero_add]; exact atI_nat (by rw [List.getElem?_map, hcj]; rfl), ?_⟩
      dsimp only [gName]
      refine ⟨_, rfl, _, rfl, _, rfl, _, rfl, a, us, (0 + (j : Int)), .ref p, rfl, rfl, .inl (.inl (sX _ _ ha)), by rw [Int.zero_add]; exact atI_nat g1, p, _, 1, q', rfl, rfl, .inl (.inl (sX _ _ g2)), rfl, _, rfl, ?_⟩
      refine ⟨hp, fl.2, q', cj, G, as, ts, rfl, hX, Ty1, g3.same sX, gm, by omega, ncj, fun D2 H3 s3 nD2 e2 => ?_⟩
      have l1 := fm_le (l := t.fields.zip cs) (f := fun m => nodI G m.1.2 m.2) (j := j)
      have l2 : (nodI G fl.2 cj).length ≤ 5 := by
        rw [nodI_len]
        exact gm.2.1
      refine ⟨D, D2, _, _, rfl, rfl, s3 _ _ eD, e2, Nat.le_trans (show _ ≤ 100 by rw [List.length_map, List.length_map, List.length_cons]; omega) (by decide), fun D3 nD3 => ?_⟩
      have s4 := s3.trans (same_upd (o := .lst (((((m : Nat) : Int) :: ((t.fields.zip cs).take j).flatMap fun m => nodI G m.1.2 m.2).map V.int) ++ (nodI G fl.2 cj).map V.int)) nD3)
      refine ⟨D3, _, _, rfl, sX.trans s4, (sX.trans s3).free nD3, ?_⟩
      rw [upd_same, zip_succ hfl hcj, fm_snoc, ← List.map_append]
      rfl
    · obtain ⟨D, y4, y5, rfl, sX, nD, eD⟩ := pp
      refine ⟨_, rfl, q D HX sX nD ?_⟩
      rw [eD, eAll, List.take_of_length_le (by rw [List.length_zip]; omega)]
end
section
variable {P : Program} {w : World} {K : PySem.W.Frag} {mg : Str → Option Value} {base : Heap}
theorem no_made {k : Nat} {f : Addr} {fd : FuncData} {x y z : Str} : FnOk P w K mg base CX0 k f fd [x, y, z] (sp_made 0) :=
  ⟨fun vs H Q E h => by obtain ⟨_, _, _, _, _, _, _, _, rfl, _⟩ := h; rfl, fun A outer s H args us vs Q E _ _ _ _ h => by
    obtain ⟨_, _, _, _, _, _, _, _, _, _, _, _, _, h, _⟩ := h
    exact absurd h (Nat.not_lt_zero _)⟩
theorem sc_law_made : FnScope ["_law_heap", "_law_tree_here", "_law_values", "_law_cells", "_law_pair"] ["_law_heap", "_law_tree_here", "_law_values"] (defScope s_law_made) := ⟨rfl, rfl, rfl, by decide +kernel, rfl, by decide +kernel, by decide +kernel⟩
theorem ok_law_made {f : Addr} {fd : FuncData} (F : FunD K "_law_made" "_law_made" (defArgs s_law_made) (defBody s_law_made) (defScope s_law_made) [] [] f fd) (T : Tx K mg) (hm : mg "_law_made" = some (.ref f)) (hb : Binds K fd ["_law_heap", "_law_tree_here", "_law_values"] []) : ∀ d, FnOk P w K mg base CX0 d f fd ["_law_heap", "_law_tree_here", "_law_values"] (sp_made d)
  | 0 => no_made
  | d + 1 => by
    have c_law_made : Cal P w K mg base d "_law_made" ["_law_heap", "_law_tree_here", "_law_values"] (sp_made d) := ⟨f, fd, ok_law_made F T hm hb d, hm, F.kp, hb⟩
    refine F.ok sc_law_made (fun vs H Q E h => by obtain ⟨_, _, _, _, _, _, _, _, rfl, _⟩ := h; rfl) (fun cdv A outer s H vs Q E hr h => ?_)
    obtain ⟨hp, vl, t, v, G, as, ts, is, rfl, hh, Ty1, ht, gt, hd, tn, hvl, lis, l50, nvl, l100, q⟩ := h
    refine ⟨_, PSs.nox (pss_cons (ps_set (i := 3) sc_law_made.nd rfl (by first | exact Or.inl rfl | exact Or.inr rfl) (pe_lst pa_nil))
      (pss_cons (ps_for PassesOwn.never rfl (pi_tupK K (pv 1)) (pg_name (i := 4) sc_law_made.nd rfl (by first | exact Or.inl rfl | exact Or.inr rfl))
        (pss_one (ps_if (pt_cmpR (op_eq_nilK K hr.units0) (pe_ix (ix_tupK K) (pv 4) pe_int (fun _ _ => rfl)) (pe_tup pa_nil) (nomark _))
            (pss_one (ps_expr (pe_bmK K PySem.F.plainAttrs_list PySem.F.slot_list_append PySem.F.type_list_append mt_append (pv 3) (pa_cons (pe_bmK K PySem.F.plainAttrs_list PySem.F.slot_list_pop PySem.F.type_list_pop mt_popAt (pv 2) (pa_cons pe_int pa_nil)) pa_nil))))
            (pss_one (ps_expr (pe_bmK K PySem.F.plainAttrs_list PySem.F.slot_list_append PySem.F.type_list_append mt_append (pv 3) (pa_cons (pe_cal c_law_made (hr.mono (by omega)) (by rfl) (pa_cons (pv 0) (pa_cons (pe_ix (ix_tupK K) (pv 4) pe_int (fun _ _ => rfl)) (pa_cons (pv 2) pa_nil)))) pa_nil)))))))
      (pss_cons (ps_expr (pe_bmK K PySem.F.plainAttrs_list PySem.F.slot_list_append PySem.F.type_list_append mt_append (pv 0) (pa_cons (pv 3) pa_nil)))
      (pss_one (ps_ret (pe_op op_sub (pe_callB (call_len_seqK K) (by rfl) T.len (by decide +kernel) (pa_cons (pv 0) pa_nil)) pe_int)))))), ?_⟩
    obtain ⟨a, us, rfl, ha, hf⟩ := id ht
    have lp := hf.len
    refine ⟨Nat.zero_le _, fun D nD => ?_⟩
    have sD := same_upd (o := .lst []) nD
    have nDh := no_new hh nD
    have Dvl : D ≠ vl := fun z => by rw [z, hvl] at nD; cases nD
    have h1 := hh.same sD
    have eD : (upd H D (.lst [])) D = some (.lst (([] : List Int).map V.int)) := upd_same
    have hv1 := sD _ _ hvl
    have k1 : Kn [hp, vl] H (upd H D (.lst [])) := .of sD
    generalize upd H D (.lst []) = H1 at *
    have T0 : ∀ b xs, H b = some (.tup xs) → b ∉ [hp, vl] := fun b xs e z => by
      simp only [List.mem_cons, List.not_mem_nil, or_false] at z
      rcases z with z | z
      · rw [z, hh.at_] at e; cases e
      · rw [z, hvl] at e; cases e
    dsimp only [gName]
    refine ⟨_, rfl, a, rfl, ⟨_, .inl (.inl (k1 _ _ ha (T0 _ _ ha)))⟩, ?_⟩
    refine for_tup (K := K) (a := a) (xs := us) (fun j σ HX => ∃ (G2 : Gi) (ts2 : List Tr) (as2 : List Addr) (cs : List Int) (y4 : Option V), σ = [some (.ref hp), some (.ref a), some (.ref vl), some (.ref D), y4] ∧ HpAt HX hp (G ++ G2) (as ++ as2) ∧ Ty (ts ++ ts2) (G ++ G2) ∧ HX D = some (.lst (cs.map V.int)) ∧ D ∉ hp :: (as ++ as2) ∧ cs.length = j ∧ (∀ (i : Nat) (fl : Str × Tr), i < j → t.fields[i]? = some fl → ∃ c, cs[i]? = some c ∧ NodeT (ts ++ ts2) fl.2 c) ∧ HX vl = some (.lst ((is.drop ((t.fields.take j).map fun p => p.2.plains).sum).map V.int)) ∧ vl ∉ hp :: (as ++ as2) ∧ (∀ b ∈ as2, H b = none) ∧ Kn [hp, vl] H HX ∧ G2.length ≤ ((t.fields.take j).map fun p => p.2.recs).sum) ⟨[], [], [], [], none, rfl, by rw [List.append_nil, List.append_nil]; exact h1, by rw [List.append_nil, List.append_nil]; exact Ty1, eD, by rw [List.append_nil]; exact nDh, rfl, (fun i fl h => absurd h (Nat.not_lt_zero _)), hv1, by rw [List.append_nil]; exact nvl, (fun _ h => nomatch h), k1, Nat.le_refl _⟩ (fun j σ HX _ pp => ?_) (fun j v σ HX hx pp => ?_) (fun σ HX pp => ?_)
    · obtain ⟨_, _, _, _, _, _, _, _, _, _, _, _, _, _, _, k, _⟩ := pp
      exact .inl (.inl (k _ _ ha (T0 _ _ ha)))
    · obtain ⟨G2, ts2, as2, cs, y4, rfl, hX, TyX, eX, nX, lcs, cX, vX, nvX, fX, kX, lX⟩ := pp
      have hj : j < t.fields.length := by rw [← lp]; exact (List.getElem?_eq_some_iff.mp hx).1
      obtain ⟨fl, hfl⟩ : ∃ fl, t.fields[j]? = some fl := ⟨_, List.getElem?_eq_getElem hj⟩
      obtain ⟨p, q', g1, g2, g3⟩ := hf.get hfl
      rw [g1] at hx
      cases hx
      have gm : good fl.2 := ((good_fields gt).1 fl (List.mem_of_getElem? hfl)).1
      have dl := Tr.depth_lt (List.mem_of_getElem? hfl)
      have tuX : ∀ c xs, H c = some (.tup xs) → HX c = some (.tup xs) := fun c xs e => kX _ _ e (T0 _ _ e)
      have et : t.fields.take (j + 1) = t.fields.take j ++ [fl] := by rw [List.take_add_one, hfl]; rfl
      have sp1 : ((t.fields.take (j + 1)).map fun p => p.2.plains).sum = ((t.fields.take j).map fun p => p.2.plains).sum + fl.2.plains := by rw [et, List.map_append, List.sum_append]; rfl
      have sr1 : ((t.fields.take (j + 1)).map fun p => p.2.recs).sum = ((t.fields.take j).map fun p => p.2.recs).sum + fl.2.recs := by rw [et, List.map_append, List.sum_append]; rfl
      have sp2 := take_sum (f := fun p : Str × Tr => p.2.plains) (l := t.fields) (j + 1)
      have sr2 := take_sum (f := fun p : Str × Tr => p.2.recs) (l := t.fields) (j + 1)
      rw [← Tr.spla_eq] at sp2
      rw [← Tr.srec_eq] at sr2
      have tr : t.recs = 1 + t.srec := by unfold Tr.recs; rw [tn]; rfl
      have lf := lenF gt
      obtain ⟨b, ys, rfl, hb1, hb2⟩ := id g3
      dsimp only [gName]
      refine ⟨_, rfl, p, _, 1, .ref b, rfl, rfl, .inl (.inl (tuX _ _ g2)), rfl, Nat.zero_le _, fun e ne => ?_⟩
      have se := same_upd (o := .tup []) ne
      have hXe := hX.same se
      have eXe := se _ _ eX
      have vXe := se _ _ vX
      have kXe : Kn [hp, vl] H (upd HX e (.tup [])) := kX.trans (.of se)
      have tue : ∀ c xs, H c = some (.tup xs) → (upd HX e (.tup [])) c = some (.tup xs) := fun c xs e => se _ _ (tuX _ _ e)
      refine ⟨b, e, ys, rfl, rfl, .inl (.inl (se _ _ (tuX _ _ hb1))), .inl (.inl upd_same), _, rfl, ?_⟩
      clear hX eX vX kX tuX
      generalize upd HX e (.tup []) = H2 at *
      refine iteE hb2.nil_iff (fun e0 => ?_) (fun e0 => ?_)
      · have fn : fl.2.plains = 1 := by rw [Tr.nil_of e0]; rfl
        have fr : fl.2.recs = 0 := by rw [Tr.nil_of e0]; rfl
        obtain ⟨k, hk⟩ : ∃ k, ((t.fields.take j).map fun p => p.2.plains).sum = k := ⟨_, rfl⟩
        rw [hk] at vXe sp1
        obtain ⟨x, r, hxr⟩ : ∃ x r, is.drop k = x :: r := by
          cases h : is.drop k with
          | nil =>
            have := congrArg List.length h
            rw [List.length_drop] at this
            have h0 : ([] : List Int).length = 0 := rfl
            omega
          | cons x r => exact ⟨x, r, rfl⟩
        have hr1 : is.drop (k + 1) = r := by
          rw [← List.drop_drop, hxr]
          rfl
        rw [hxr] at vXe
        have seq0 : seqIndex? 0 ((x :: r).map V.int).length = some 0 := by
          unfold seqIndex?
          rw [List.length_map, List.length_cons]
          simp
        refine ⟨_, rfl, .inl ⟨rfl, _, .inl (.inl eXe)⟩, _, rfl, .inl ⟨rfl, _, .inl (.inl vXe)⟩, ?_⟩
        refine ⟨vl, _, 0, 0, .int x, rfl, rfl, vXe, by decide, by decide, seq0, rfl, ?_⟩
        have eX3 : (upd H2 vl (.lst (r.map V.int))) D = some (.lst (cs.map V.int)) := by rw [upd_ne Dvl]; exact eXe
        refine ⟨D, _, _, rfl, rfl, eX3, Nat.lt_of_le_of_lt (show _ ≤ 1000 by rw [List.length_map]; omega) (by decide), ?_⟩
        have ha : hp ≠ vl := fun z => nvX (by rw [z]; exact List.mem_cons_self ..)
        refine ⟨G2, ts2, as2, cs ++ [x], _, rfl, (hXe.kn (N := [D, vl]) (fun b o e n => ?_) fun b hb z => ?_), TyX, by rw [upd_same, List.map_append]; rfl, nX, by rw [List.length_append, lcs]; rfl, fun i f2 hi hf2 => ?_, ?_, nvX, fX, fun b o e n => ?_, by rw [sr1, fr]; exact lX⟩
        · rw [upd_ne fun z => n (by rw [z]; simp), upd_ne fun z => n (by rw [z]; simp)]
          exact e
        · simp only [List.mem_cons, List.not_mem_nil, or_false] at z
          rcases z with z | z
          · exact nX (by rw [← z]; exact hb)
          · exact nvX (by rw [← z]; exact hb)
        · rcases Nat.lt_or_ge i j with l | l
          · obtain ⟨c, e1, e2⟩ := cX i f2 l hf2
            exact ⟨c, by rw [List.getElem?_append_left (by rw [lcs]; exact l)]; exact e1, e2⟩
          · have ei : i = j := by omega
            subst ei
            rw [hfl] at hf2
            cases hf2
            exact ⟨x, by rw [List.getElem?_append_right (by omega), lcs, Nat.sub_self]; rfl, fun z => by rw [e0] at z; cases z⟩
        · rw [upd_ne Dvl.symm, upd_same, sp1, fn, hr1]
          rfl
        · rw [upd_ne (ne_of_none e nD), upd_ne fun z => n (by rw [z]; simp)]
          exact kXe _ _ e n
      · have e0 : fl.2.isNil = false := by simpa using e0
        have fp : fl.2.plains = fl.2.spla := by unfold Tr.plains; rw [e0]; rfl
        have lG := hXe.len
        refine ⟨_, rfl, .inl ⟨rfl, _, .inl (.inl eXe)⟩, _, rfl, _, rfl, p, _, 1, .ref b, rfl, rfl, .inl (.inl (tue _ _ g2)), rfl, _, rfl, ?_⟩
        refine ⟨hp, vl, fl.2, .ref b, G ++ G2, as ++ as2, ts ++ ts2, is.drop ((t.fields.take j).map fun p => p.2.plains).sum, rfl, hXe, TyX, g3.tups tue, gm, by omega, e0, vXe, by rw [List.length_drop]; omega, by rw [List.length_drop]; omega, nvX, by rw [List.length_append]; omega, fun G3 ts3 as3 n H3 h3 Ty3 hn3 v3 f3 k3 l3 => ?_⟩
        have Dk : D ∉ [hp, vl] := fun z => by
          simp only [List.mem_cons, List.not_mem_nil, or_false] at z
          rcases z with z | z
          · exact nX (by rw [z]; exact List.mem_cons_self ..)
          · exact Dvl z
        have eX3 := k3 _ _ eXe Dk
        refine ⟨D, _, _, rfl, rfl, eX3, Nat.lt_of_le_of_lt (show _ ≤ 1000 by rw [List.length_map]; omega) (by decide), ?_⟩
        rw [List.append_assoc] at h3 Ty3 hn3
        rw [List.append_assoc] at h3 Ty3
        have Dn3 : D ∉ hp :: (as ++ (as2 ++ as3)) := fun z => by
          rw [← List.append_assoc] at z
          rcases List.mem_cons.mp z with z | z
          · exact nX (by rw [z]; exact List.mem_cons_self ..)
          · rcases List.mem_append.mp z with z | z
            · exact nX (List.mem_cons_of_mem _ z)
            · have := f3 D z
              rw [eXe] at this
              cases this
        refine ⟨G2 ++ G3, ts2 ++ ts3, as2 ++ as3, cs ++ [((n : Nat) : Int)], _, rfl, h3.kn (N := [D]) (fun b o e n => by rw [upd_ne fun z => n (by rw [z]; simp)]; exact e) (fun b hb z => Dn3 (by rw [← List.mem_singleton.mp z]; exact hb)), Ty3, by rw [upd_same, List.map_append]; rfl, Dn3, by rw [List.length_append, lcs]; rfl, fun i f2 hi hf2 => ?_, ?_, fun z => ?_, fun c hc => ?_, fun b o e n => ?_, by rw [sr1, List.length_append]; omega⟩
        · rcases Nat.lt_or_ge i j with l | l
          · obtain ⟨c, e1, e2⟩ := cX i f2 l hf2
            exact ⟨c, by rw [List.getElem?_append_left (by rw [lcs]; exact l)]; exact e1, by rw [← List.append_assoc]; exact e2.mono⟩
          · have ei : i = j := by omega
            subst ei
            rw [hfl] at hf2
            cases hf2
            exact ⟨_, by rw [List.getElem?_append_right (by omega), lcs, Nat.sub_self]; rfl, fun _ => ⟨n, rfl, hn3⟩⟩
        · rw [upd_ne Dvl.symm, v3, List.drop_drop, sp1, fp]
        · rw [← List.append_assoc] at z
          rcases List.mem_cons.mp z with z | z
          · exact nvX (by rw [z]; exact List.mem_cons_self ..)
          · rcases List.mem_append.mp z with z | z
            · exact nvX (List.mem_cons_of_mem _ z)
            · have := f3 vl z
              rw [vXe] at this
              cases this
        · rcases List.mem_append.mp hc with z | z
          · exact fX c z
          · have h2 := f3 c z
            cases e9 : H c with
            | none => rfl
            | some o =>
              by_cases w9 : c ∈ [hp, vl]
              · simp only [List.mem_cons, List.not_mem_nil, or_false] at w9
                rcases w9 with w9 | w9
                · rw [w9, hXe.at_] at h2; cases h2
                · rw [w9, vXe] at h2; cases h2
              · rw [kXe _ _ e9 w9] at h2; cases h2
        · rw [upd_ne (ne_of_none e nD)]
          exact k3 _ _ (kXe _ _ e n) n
    · obtain ⟨G2, ts2, as2, cs, y4, rfl, hX, TyX, eX, nX, lcs, cX, vX, nvX, fX, kX, lX⟩ := pp
      rw [lp, List.take_length] at vX lX
      rw [lp] at lcs
      have tr : t.recs = 1 + t.srec := by unfold Tr.recs; rw [tn]; rfl
      have sp2 := Tr.spla_eq t
      have sr2 := Tr.srec_eq t
      have lG := hX.len
      rw [List.length_append, List.length_append] at lG
      have CT : CellsT (ts ++ ts2) t cs := CellsT.of lcs fun i fl hfl => cX i fl (by rw [lp]; exact (List.getElem?_eq_some_iff.mp hfl).1) hfl
      refine ⟨_, rfl, .inl ⟨rfl, _, .inl (.inl hX.at_)⟩, _, rfl, hp, _, _, rfl, rfl, hX.at_, Nat.lt_of_le_of_lt (show ((as ++ as2).map V.ref).length ≤ 1000 by rw [List.length_map, List.length_append]; omega) (by decide), ?_⟩
      have h4 := hX.push eX nX
      refine ⟨_, rfl, hp, _, rfl, .inl (.inl (.inl h4.at_)), _, _, rfl, rfl, ?_⟩
      have el : (((as ++ as2 ++ [D]).map V.ref).length : Int) - 1 = (((G ++ G2).length : Nat) : Int) := by
        rw [List.length_map, List.length_append, List.length_append, List.length_append]
        show ((as.length + as2.length + 1 : Nat) : Int) - 1 = _
        omega
      dsimp only
      rw [el]
      have h5 := h4
      rw [List.append_assoc, List.append_assoc] at h5
      have T5 := TyX.push CT
      rw [List.append_assoc, List.append_assoc] at T5
      have nk : hp ≠ vl := fun z => nvX (by rw [z]; exact List.mem_cons_self ..)
      refine q (G2 ++ [cs]) (ts2 ++ [t]) (as2 ++ [D]) (G ++ G2).length _ h5 T5 ?_ ?_ (fun b hb => ?_) (fun b o e n => ?_) (by rw [List.length_append]; show _ + 1 ≤ _; omega)
      · rw [← List.append_assoc, TyX.len, List.getElem?_append_right (Nat.le_refl _), Nat.sub_self]
        rfl
      · rw [upd_ne nk.symm, vX, sp2]
      · rcases List.mem_append.mp hb with z | z
        · exact fX b z
        · rw [List.mem_singleton.mp z]
          exact nD
      · rw [upd_ne fun z => n (by rw [z]; simp)]
        exact kX _ _ e n
end
end Lx
namespace Lx
open PySem PySem.Spec PyProof.Rows L2 Ub Ur Ug Ue Up Uo Ve Va Vk Wb Pt Gr Sb Rw Ni
section
variable {P : Program} {w : World} {K : PySem.W.Frag} {mg : Str → Option Value} {base : Heap}
theorem sc_are_numbered : FnScope ["rows", "most", "row", "number"] ["rows"] (defScope s_are_numbered) := ⟨rfl, rfl, rfl, by decide +kernel, rfl, by decide +kernel, by decide +kernel⟩
theorem ok_are_numbered {f : Addr} {fd : FuncData} (F : FunD K "are_numbered" "are_numbered" (defArgs s_are_numbered) (defBody s_are_numbered) (defScope s_are_numbered) [] [] f fd) (T : Tx K mg) : FnOk P w K mg base CX0 1 f fd ["rows"] sp_numd := by
  refine F.ok sc_are_numbered (fun vs H Q E h => by obtain ⟨_, _, _, rfl, _⟩ := h; rfl) (fun cdv A outer s H vs Q E hr h => ?_)
  obtain ⟨D, rs, xss, rfl, hD, hR, q⟩ := h
  refine ⟨_, PSs.nox (pss_cons (ps_set (i := 1) sc_are_numbered.nd rfl (by first | exact Or.inl rfl | exact Or.inr rfl) pe_int)
      (pss_cons (ps_for PassesOwn.never rfl (pi_listK K (pv 0)) (pg_name (i := 2) sc_are_numbered.nd rfl (by first | exact Or.inl rfl | exact Or.inr rfl))
        (pss_one (ps_for PassesOwn.never rfl (pi_tupK K (pv 2)) (pg_name (i := 3) sc_are_numbered.nd rfl (by first | exact Or.inl rfl | exact Or.inr rfl))
            (pss_cons (ps_if (pt_not (pt_chain op_le op_le pe_int (pv 3) (pv 1)))
                (pss_one (ps_ret pe_bl))
                pss_nil)
              (pss_one (ps_if (pt_cmpR op_eq (pv 3) (pv 1) (nomark _))
                (pss_one (ps_aug (i := 1) sc_are_numbered.nd rfl (by first | exact Or.inl rfl | exact Or.inr rfl) pe_int ip_add))
                pss_nil))))))
      (pss_one (ps_ret pe_bl)))), ?_⟩
  refine ⟨_, rfl, D, rfl, ⟨_, .inl (.inl hD)⟩, ?_⟩
  refine for_list (K := K) (a := D) (xs := rs.map V.ref) (fun i σ HX => ∃ (y2 y3 : Option V), σ = [some (.ref D), some (.int (mostF 0 (xss.take i).flatten : Nat)), y2, y3] ∧ HX = H ∧ numd 0 (xss.take i).flatten = true) ⟨none, none, rfl, rfl, rfl⟩ (fun i σ HX _ pp => ?_) (fun i v σ HX hx pp => ?_) (fun σ HX pp => ?_)
  · obtain ⟨_, _, _, rfl, _⟩ := pp
    exact .inl (.inl hD)
  · obtain ⟨y2, y3, rfl, rfl, ok⟩ := pp
    rw [List.getElem?_map] at hx
    obtain ⟨a, ha, rfl⟩ := Option.map_eq_some_iff.mp hx
    obtain ⟨xs, hxs⟩ : ∃ xs, xss[i]? = some xs := ⟨_, List.getElem?_eq_getElem (by rw [← hR.1]; exact (List.getElem?_eq_some_iff.mp ha).1)⟩
    have hrow := hR.2 i a xs ha hxs
    have et : (xss.take (i + 1)).flatten = (xss.take i).flatten ++ xs := by rw [List.take_add_one, hxs, List.flatten_append]; show _ ++ (xs ++ []) = _; rw [List.append_nil]
    have eA : xss.flatten = (xss.take i).flatten ++ (xs ++ (xss.drop (i + 1)).flatten) := by
      conv => lhs; rw [← List.take_append_drop (i + 1) xss, List.flatten_append, et]
      rw [List.append_assoc]
    rw [et]
    dsimp only [gName]
    refine ⟨_, rfl, a, rfl, ⟨_, .inl (.inl hrow)⟩, ?_⟩
    refine for_tup (K := K) (a := a) (xs := xs.map V.int) (fun j σ HY => ∃ (y3 : Option V), σ = [some (.ref D), some (.int (mostF 0 ((xss.take i).flatten ++ xs.take j) : Nat)), some (.ref a), y3] ∧ HY = HX ∧ numd 0 ((xss.take i).flatten ++ xs.take j) = true) ⟨_, by rw [List.take_zero, List.append_nil]; rfl, rfl, by rw [List.take_zero, List.append_nil]; exact ok⟩ (fun j σ HX _ pp => ?_) (fun j v σ HX hx2 pp => ?_) (fun σ HX pp => ?_)
    · obtain ⟨_, _, rfl, _⟩ := pp
      exact .inl (.inl hrow)
    · obtain ⟨y3, rfl, rfl, ok2⟩ := pp
      rw [List.getElem?_map] at hx2
      obtain ⟨x, hx3, rfl⟩ := Option.map_eq_some_iff.mp hx2
      have ej : (xss.take i).flatten ++ xs.take (j + 1) = ((xss.take i).flatten ++ xs.take j) ++ [x] := by rw [List.take_add_one, hx3, ← List.append_assoc]; rfl
      rw [ej, mostF_snoc, numd_app, ok2]
      have eA2 : xss.flatten = ((xss.take i).flatten ++ xs.take j) ++ (x :: (xs.drop (j + 1) ++ (xss.drop (i + 1)).flatten)) := by
        rw [eA]
        conv => lhs; rw [← List.take_append_drop (j + 1) xs]
        rw [List.append_assoc (xs.take (j + 1)), ← List.append_assoc, ej, List.append_assoc _ [x]]
        rfl
      generalize (xss.take i).flatten ++ xs.take j = pre at *
      dsimp only [gName]
      have bad : ¬ (0 ≤ x ∧ x ≤ (mostF 0 pre : Nat)) → numd 0 xss.flatten = false := fun h => by
        rw [eA2, numd_app, ok2, Bool.true_and]
        show ((decide (0 ≤ x) && decide (x ≤ (mostF 0 pre : Nat))) && _) = false
        by_cases a : 0 ≤ x
        · rw [decide_eq_false fun b => h ⟨a, b⟩, Bool.and_false, Bool.false_and]
        · rw [decide_eq_false a, Bool.false_and, Bool.false_and]
      refine ⟨_, rfl, _, _, rfl, rfl, _, rfl, ?_⟩
      by_cases c1 : 0 ≤ x
      · refine iteY c1 ?_
        refine ⟨_, rfl, _, _, rfl, rfl, _, rfl, ?_⟩
        by_cases c2 : x ≤ (mostF 0 pre : Nat)
        · refine iteNN c2 ?_
          dsimp only [tNext]
          refine ⟨_, rfl, _, rfl, rfl, _, rfl, ?_⟩
          have ok3 : (true && numd (mostF 0 pre) [x]) = true := by
            show (true && ((decide (0 ≤ x) && decide (x ≤ (mostF 0 pre : Nat))) && true)) = true
            rw [decide_eq_true c1, decide_eq_true c2]
            rfl
          by_cases c3 : x = (mostF 0 pre : Nat)
          · refine iteY (by rw [c3]) ?_
            refine ⟨_, rfl, _, _, rfl, rfl, ?_⟩
            rw [if_pos c3]
            exact ⟨_, rfl, rfl, ok3⟩
          · refine iteN (fun z => c3 (V.int.inj z)) ?_
            dsimp only [tNext]
            rw [if_neg c3]
            exact ⟨_, rfl, rfl, ok3⟩
        · refine iteNY c2 ?_
          rw [bad fun h => c2 h.2] at q
          exact q
      · refine iteN c1 ?_
        refine ⟨_, rfl, (if_pos rfl).mpr ?_⟩
        rw [bad fun h => c1 h.1] at q
        exact q
    · obtain ⟨y3, rfl, rfl, ok2⟩ := pp
      rw [List.length_map, List.take_length] at ok2
      exact ⟨some (.ref a), y3, by rw [List.length_map, List.take_length], rfl, ok2⟩
  · obtain ⟨y2, y3, rfl, rfl, ok⟩ := pp
    rw [List.length_map, hR.1, List.take_length] at ok
    rw [ok] at q
    exact q
end
section
variable {P : Program} {w : World} {K : PySem.W.Frag} {mg : Str → Option Value} {base : Heap}
theorem sc_is_form : FnScope ["shape", "form"] ["shape", "form"] (defScope s_is_form) := ⟨rfl, rfl, rfl, by decide +kernel, rfl, by decide +kernel, by decide +kernel⟩
theorem ok_is_form {f : Addr} {fd : FuncData} (F : FunD K "is_form" "is_form" (defArgs s_is_form) (defBody s_is_form) (defScope s_is_form) [] [] f fd) (T : Tx K mg) (p_Shape_plains : CalP P w K mg base 5 (He.ga K "Shape") "plains" (sp_shP (He.ga K "Shape") fun t => .int (t.plains : Nat))) (p_Shape_records : CalP P w K mg base 5 (He.ga K "Shape") "records" (sp_shP (He.ga K "Shape") fun t => .int (t.recs : Nat))) (c_are_wholes : Cal P w K mg base 2 "are_wholes" ["values", "many"] sp_wholes) (c_are_numbered : Cal P w K mg base 1 "are_numbered" ["rows"] sp_numd) (c_are_consistent : Cal P w K mg base 8 "are_consistent" ["places"] (sp_consis (He.ga K "Shape"))) : FnOk P w K mg base CX0 9 f fd ["shape", "form"] (sp_isform (He.ga K "Shape")) := by
  refine F.ok sc_is_form (fun vs H Q E h => by obtain ⟨_, _, _, _, _, rfl, _⟩ := h; rfl) (fun cdv A outer s H vs Q E hr h => ?_)
  obtain ⟨Z, x, gs, v, d, rfl, hs, gd, hd, sm, q⟩ := h
  refine ⟨_, PSs.nox (pss_cons (ps_if (PW.pt (pw_or (pt_not (pt_val (pe_callB (call_isiK' K) (by rfl) T.isinstance (by decide +kernel) (pa_cons (pv 1) (pa_cons (pe_bltn (v := .ty "tuple") (by rfl) T.tuple (by decide +kernel) rfl) pa_nil))))) (pw_or1 (pt_cmpR op_ne (pe_callB (call_len_seqK K) (by rfl) T.len (by decide +kernel) (pa_cons (pv 1) pa_nil)) pe_int (nomark _)))))
        (pss_one (ps_ret pe_bl))
        pss_nil)
      (pss_cons (ps_if (PW.pt (pw_or (pt_not (pt_val (pe_cal c_are_wholes (hr.mono (by omega)) (by rfl) (pa_cons (pe_ix (ix_tupK K) (pv 1) pe_int (fun _ _ => rfl)) (pa_cons (pe_propP p_Shape_records (hr.mono (by omega)) (pv 0)) pa_nil))))) (pw_or1 (pt_not (pt_val (pe_cal c_are_wholes (hr.mono (by omega)) (by rfl) (pa_cons (pe_ix (ix_tupK K) (pv 1) pe_int (fun _ _ => rfl)) (pa_cons (pe_propP p_Shape_plains (hr.mono (by omega)) (pv 0)) pa_nil))))))))
        (pss_one (ps_ret pe_bl))
        pss_nil)
      (pss_cons (ps_if (PW.pt (pw_or (pt_not (pt_val (pe_cal c_are_numbered (hr.mono (by omega)) (by rfl) (pa_cons (pe_lst (pa_cons (pe_ix (ix_tupK K) (pv 1) pe_int (fun _ _ => rfl)) pa_nil)) pa_nil)))) (pw_or1 (pt_not (pt_val (pe_cal c_are_numbered (hr.mono (by omega)) (by rfl) (pa_cons (pe_lst (pa_cons (pe_ix (ix_tupK K) (pv 1) pe_int (fun _ _ => rfl)) pa_nil)) pa_nil)))))))
        (pss_one (ps_ret pe_bl))
        pss_nil)
      (pss_one (ps_ret (pe_cal c_are_consistent (hr.mono (by omega)) (by rfl) (pa_cons (pe_lst (pa_cons (pe_tup (pa_cons (pv 0) (pa_cons (pe_ix (ix_tupK K) (pv 1) pe_int (fun _ _ => rfl)) (pa_cons (pe_ix (ix_tupK K) (pv 1) pe_int (fun _ _ => rfl)) pa_nil)))) pa_nil)) pa_nil))))))), ?_⟩
  obtain ⟨T0, t1, t2⟩ := hd.tyT (K := K)
  have noF : (∀ r s, d ≠ .tuple [r, s]) → formD gs.tr d = false := fun h => by
    unfold formD
    split
    · rename_i r s
      exact absurd rfl (h r s)
    · rfl
  refine ⟨_, rfl, _, _, _, _, _, rfl, .ty "tuple", t1, kit_ty t2, _, rfl, ?_⟩
  rcases hd.tupOr with ⟨p, xs, ds, rfl, rfl, hp, hx⟩ | no
  rotate_left
  · rw [no]
    have := q H (Same.refl _)
    rw [noF fun r s e => by rw [e] at no; cases no] at this
    exact iteT this
  refine iteF ?_
  have lx := hx.len
  refine ⟨_, rfl, p, xs, rfl, .inr (.inl (.inl hp)), rfl, _, rfl, ?_⟩
  by_cases e : ds.length = 2
  rotate_left
  · refine iteNY (by rw [lx]; exact fun z => e (by injection z with z; omega)) ?_
    have := q H (Same.refl _)
    rw [noF fun r s z => e (by injection z with z; rw [z]; rfl)] at this
    exact this
  refine iteNN (by rw [lx, e]; rfl) ?_
  match ds, hx, e, lx with
  | [r, s], hx, e, lx =>
  cases hx with
  | cons h0 hx =>
  cases hx with
  | cons h1 hx =>
  cases hx
  rename_i v0 v1 _
  have sm0 : ∀ es, r = .tuple es → es.length ≤ 1000 := fun es h => Nat.le_trans ((sm _ rfl).2 r (by simp) es h) (by decide)
  have sm1 : ∀ es, s = .tuple es → es.length ≤ 1000 := fun es h => Nat.le_trans ((sm _ rfl).2 s (by simp) es h) (by decide)
  obtain ⟨dx, tv, na, fa, sa, a1, _⟩ := id hs.1
  dsimp only [tNext]
  have eF : formD gs.tr (.tuple [r, s]) = ((wholesD r gs.tr.recs && wholesD s gs.tr.plains) && ((numd 0 (intsOf r) && numd 0 (intsOf s)) && consW [] (plAll [(gs.tr, intsOf r, intsOf s)]))) := rfl
  rw [eF] at q
  refine ⟨_, rfl, p, _, 0, v0, rfl, rfl, .inl (.inl hp), rfl, _, rfl, x, dx, _, rfl, a1, x, gs, Z, rfl, hs, gd, fun H1 s1 => ⟨v0, r, gs.tr.recs, rfl, h0.same s1, sm0, fun H2 s2 => ⟨_, rfl, ?_⟩⟩⟩
  have s12 := s1.trans s2
  cases w0 : wholesD r gs.tr.recs with
  | false =>
    have := q H2 s12
    rw [w0, Bool.false_and, Bool.false_and] at this
    exact iteT this
  | true =>
  refine iteF ?_
  have hs2 := ShG.kz (fun b o e _ _ => s12 b o e) hs
  have a12 := s12 _ _ a1
  refine ⟨_, rfl, p, _, 1, v1, rfl, rfl, .inl (.inl (s12 _ _ hp)), rfl, _, rfl, x, dx, _, rfl, a12, x, gs, Z, rfl, hs2, gd, fun H3 s3 => ⟨v1, s, gs.tr.plains, rfl, h1.same (s12.trans s3), sm1, fun H4 s4 => ⟨_, rfl, ?_⟩⟩⟩
  have s14 := s12.trans (s3.trans s4)
  cases w1 : wholesD s gs.tr.plains with
  | false =>
    have := q H4 s14
    rw [w1, Bool.and_false, Bool.false_and] at this
    exact iteT this
  | true =>
  refine iteF ?_
  dsimp only [tNext]
  rw [w0, w1] at q
  obtain ⟨rs, rfl, lr⟩ := wholesD_out w0
  obtain ⟨is, rfl, li⟩ := wholesD_out w1
  rw [intsOf_ints, intsOf_ints] at q
  obtain ⟨b0, rfl, hb0, _⟩ := dtv_ints_out h0
  obtain ⟨b1, rfl, hb1, _⟩ := dtv_ints_out h1
  have hp4 := s14 _ _ hp
  have hb04 := s14 _ _ hb0
  have hb14 := s14 _ _ hb1
  refine ⟨_, rfl, p, _, 0, .ref b0, rfl, rfl, .inl (.inl hp4), rfl, Nat.le_of_ble_eq_true rfl, fun L nL => ?_⟩
  have sL := same_upd (o := .lst [.ref b0]) nL
  refine ⟨L, [b0], [rs], rfl, upd_same, ⟨rfl, fun i a xs e1 e2 => ?_⟩, _, rfl, ?_⟩
  · cases i with
    | zero =>
      cases e1
      cases e2
      exact sL _ _ hb04
    | succ k => cases e1
  have s5 := s14.trans sL
  have hp5 := sL _ _ hp4
  have hb05 := sL _ _ hb04
  have hb15 := sL _ _ hb14
  generalize upd H4 L (.lst [.ref b0]) = H5 at *
  have fl1 : ∀ l : List Int, ([l] : List (List Int)).flatten = l := fun l => by show l ++ [] = l; rw [List.append_nil]
  rw [fl1]
  cases n0 : numd 0 rs with
  | false =>
    have := q H5 s5
    rw [n0, Bool.false_and, Bool.false_and, Bool.and_false] at this
    exact iteT this
  | true =>
  refine iteF ?_
  refine ⟨_, rfl, p, _, 1, .ref b1, rfl, rfl, .inl (.inl hp5), rfl, Nat.le_of_ble_eq_true rfl, fun L2 nL2 => ?_⟩
  have sL2 := same_upd (o := .lst [.ref b1]) nL2
  refine ⟨L2, [b1], [is], rfl, upd_same, ⟨rfl, fun i a xs e1 e2 => ?_⟩, _, rfl, ?_⟩
  · cases i with
    | zero =>
      cases e1
      cases e2
      exact sL2 _ _ hb15
    | succ k => cases e1
  have s6 := s5.trans sL2
  have hp6 := sL2 _ _ hp5
  have hb06 := sL2 _ _ hb05
  have hb16 := sL2 _ _ hb15
  generalize upd H5 L2 (.lst [.ref b1]) = H6 at *
  rw [fl1]
  cases n1 : numd 0 is with
  | false =>
    have := q H6 s6
    rw [n1, Bool.and_false, Bool.false_and, Bool.and_false] at this
    exact iteT this
  | true =>
  refine iteF ?_
  rw [n0, n1] at q
  dsimp only [tNext]
  refine ⟨_, rfl, _, rfl, p, _, 0, .ref b0, rfl, rfl, .inl (.inl hp6), rfl, _, rfl, p, _, 1, .ref b1, rfl, rfl, .inl (.inl hp6), rfl, Nat.le_of_ble_eq_true rfl, fun tp ntp => ⟨Nat.le_of_ble_eq_true rfl, fun L3 nL3 => ?_⟩⟩
  have s7 := (same_upd (o := .tup [.ref x, .ref b0, .ref b1]) ntp).trans (same_upd (o := .lst [.ref tp]) nL3)
  have etp := same_upd (o := .lst [.ref tp]) nL3 _ _ (show (upd H6 tp (.tup [.ref x, .ref b0, .ref b1])) tp = some (.tup [.ref x, .ref b0, .ref b1]) from upd_same)
  have eL3 : (upd (upd H6 tp (.tup [.ref x, .ref b0, .ref b1])) L3 (.lst [.ref tp])) L3 = some (.lst [.ref tp]) := upd_same
  generalize upd (upd H6 tp (.tup [.ref x, .ref b0, .ref b1])) L3 (.lst [.ref tp]) = H7 at *
  have s67 := s6.trans s7
  refine ⟨Z, L3, [.ref tp], [(gs.tr, rs, is)], rfl, eL3, rfl, fun i v m e1 e2 => ?_, Nat.le_of_ble_eq_true rfl, fun H8 s8 => ?_⟩
  · cases i with
    | zero =>
      cases e1
      cases e2
      exact ⟨tp, x, b0, b1, gs, rfl, etp, ShG.kz (fun b o e _ _ => s67 b o e) hs, gd, rfl, s7 _ _ hb06, s7 _ _ hb16, lr, li⟩
    | succ k => cases e1
  · exact q H8 (s67.trans s8)
end
section
variable {P : Program} {w : World} {K : PySem.W.Frag} {mg : Str → Option Value} {base : Heap}
theorem sc_is_held_form : FnScope ["shape", "below", "form"] ["shape", "below", "form"] (defScope s_is_held_form) := ⟨rfl, rfl, rfl, by decide +kernel, rfl, by decide +kernel, by decide +kernel⟩
theorem ok_is_held_form {f : Addr} {fd : FuncData} (F : FunD K "is_held_form" "is_held_form" (defArgs s_is_held_form) (defBody s_is_held_form) (defScope s_is_held_form) [] [] f fd) (T : Tx K mg) (p_Shape_plains : CalP P w K mg base 5 (He.ga K "Shape") "plains" (sp_shP (He.ga K "Shape") fun t => .int (t.plains : Nat))) (p_Shape_records : CalP P w K mg base 5 (He.ga K "Shape") "records" (sp_shP (He.ga K "Shape") fun t => .int (t.recs : Nat))) (c_are_wholes : Cal P w K mg base 2 "are_wholes" ["values", "many"] sp_wholes) (c_are_numbered : Cal P w K mg base 1 "are_numbered" ["rows"] sp_numd) (c_are_consistent : Cal P w K mg base 8 "are_consistent" ["places"] (sp_consis (He.ga K "Shape"))) : FnOk P w K mg base CX0 9 f fd ["shape", "below", "form"] (sp_isheld (He.ga K "Shape")) := by
  refine F.ok sc_is_held_form (fun vs H Q E h => by obtain ⟨_, _, _, _, _, _, _, rfl, _⟩ := h; rfl) (fun cdv A outer s H vs Q E hr h => ?_)
  obtain ⟨Z, x, y, gs, gu, v, d, rfl, hs, gd, hu, gdu, hd, sm, q⟩ := h
  refine ⟨_, PSs.nox (pss_cons (ps_if (PW.pt (pw_or (pt_not (pt_val (pe_callB (call_isiK' K) (by rfl) T.isinstance (by decide +kernel) (pa_cons (pv 2) (pa_cons (pe_bltn (v := .ty "tuple") (by rfl) T.tuple (by decide +kernel) rfl) pa_nil))))) (pw_or1 (pt_cmpR op_ne (pe_callB (call_len_seqK K) (by rfl) T.len (by decide +kernel) (pa_cons (pv 2) pa_nil)) pe_int (nomark _)))))
        (pss_one (ps_ret pe_bl))
        pss_nil)
      (pss_cons (ps_if (PW.pt (pw_or (pt_not (pt_val (pe_cal c_are_wholes (hr.mono (by omega)) (by rfl) (pa_cons (pe_ix (ix_tupK K) (pv 2) pe_int (fun _ _ => rfl)) (pa_cons (pe_propP p_Shape_records (hr.mono (by omega)) (pv 0)) pa_nil))))) (pw_or1 (pt_not (pt_val (pe_cal c_are_wholes (hr.mono (by omega)) (by rfl) (pa_cons (pe_ix (ix_tupK K) (pv 2) pe_int (fun _ _ => rfl)) (pa_cons (pe_propP p_Shape_plains (hr.mono (by omega)) (pv 0)) pa_nil))))))))
        (pss_one (ps_ret pe_bl))
        pss_nil)
      (pss_cons (ps_if (PW.pt (pw_or (pt_not (pt_val (pe_cal c_are_wholes (hr.mono (by omega)) (by rfl) (pa_cons (pe_ix (ix_tupK K) (pv 2) pe_int (fun _ _ => rfl)) (pa_cons (pe_propP p_Shape_records (hr.mono (by omega)) (pv 1)) pa_nil))))) (pw_or1 (pt_not (pt_val (pe_cal c_are_wholes (hr.mono (by omega)) (by rfl) (pa_cons (pe_ix (ix_tupK K) (pv 2) pe_int (fun _ _ => rfl)) (pa_cons (pe_propP p_Shape_plains (hr.mono (by omega)) (pv 1)) pa_nil))))))))
        (pss_one (ps_ret pe_bl))
        pss_nil)
      (pss_cons (ps_if (pt_not (pt_val (pe_cal c_are_wholes (hr.mono (by omega)) (by rfl) (pa_cons (pe_ix (ix_tupK K) (pv 2) pe_int (fun _ _ => rfl)) (pa_cons (pe_propP p_Shape_plains (hr.mono (by omega)) (pv 1)) pa_nil)))))
        (pss_one (ps_ret pe_bl))
        pss_nil)
      (pss_cons (ps_if (PW.pt (pw_or (pt_not (pt_val (pe_cal c_are_numbered (hr.mono (by omega)) (by rfl) (pa_cons (pe_lst (pa_cons (pe_ix (ix_tupK K) (pv 2) pe_int (fun _ _ => rfl)) (pa_cons (pe_ix (ix_tupK K) (pv 2) pe_int (fun _ _ => rfl)) pa_nil))) pa_nil)))) (pw_or1 (pt_not (pt_val (pe_cal c_are_numbered (hr.mono (by omega)) (by rfl) (pa_cons (pe_lst (pa_cons (pe_ix (ix_tupK K) (pv 2) pe_int (fun _ _ => rfl)) (pa_cons (pe_ix (ix_tupK K) (pv 2) pe_int (fun _ _ => rfl)) (pa_cons (pe_ix (ix_tupK K) (pv 2) pe_int (fun _ _ => rfl)) pa_nil)))) pa_nil)))))))
        (pss_one (ps_ret pe_bl))
        pss_nil)
      (pss_one (ps_ret (pe_cal c_are_consistent (hr.mono (by omega)) (by rfl) (pa_cons (pe_lst (pa_cons (pe_tup (pa_cons (pv 0) (pa_cons (pe_ix (ix_tupK K) (pv 2) pe_int (fun _ _ => rfl)) (pa_cons (pe_ix (ix_tupK K) (pv 2) pe_int (fun _ _ => rfl)) pa_nil)))) (pa_cons (pe_tup (pa_cons (pv 1) (pa_cons (pe_ix (ix_tupK K) (pv 2) pe_int (fun _ _ => rfl)) (pa_cons (pe_ix (ix_tupK K) (pv 2) pe_int (fun _ _ => rfl)) pa_nil)))) pa_nil))) pa_nil))))))))), ?_⟩
  obtain ⟨T0, t1, t2⟩ := hd.tyT (K := K)
  have noF : (∀ a b c e f, d ≠ .tuple [a, b, c, e, f]) → heldD gs.tr gu.tr d = false := fun h => by
    unfold heldD
    split
    · rename_i a b c e f
      exact absurd rfl (h a b c e f)
    · rfl
  refine ⟨_, rfl, _, _, _, _, _, rfl, .ty "tuple", t1, kit_ty t2, _, rfl, ?_⟩
  rcases hd.tupOr with ⟨p, xs, ds, rfl, rfl, hp, hx⟩ | no
  rotate_left
  · rw [no]
    have := q H (Same.refl _)
    rw [noF fun a b c e f z => by rw [z] at no; cases no] at this
    exact iteT this
  refine iteF ?_
  have lx := hx.len
  refine ⟨_, rfl, p, xs, rfl, .inr (.inl (.inl hp)), rfl, _, rfl, ?_⟩
  by_cases e : ds.length = 5
  rotate_left
  · refine iteNY (by rw [lx]; exact fun z => e (by injection z with z; omega)) ?_
    have := q H (Same.refl _)
    rw [noF fun a b c e2 f z => e (by injection z with z; rw [z]; rfl)] at this
    exact this
  refine iteNN (by rw [lx, e]; rfl) ?_
  match ds, hx, e, lx with
  | [d0, d1, d2, d3, d4], hx, e, lx =>
  cases hx with
  | cons h0 hx =>
  cases hx with
  | cons h1 hx =>
  cases hx with
  | cons h2 hx =>
  cases hx with
  | cons h3 hx =>
  cases hx with
  | cons h4 hx =>
  cases hx
  rename_i v0 v1 v2 v3 v4 _
  have sm0 : ∀ es, d0 = .tuple es → es.length ≤ 1000 := fun es h => Nat.le_trans ((sm _ rfl).2 d0 (by simp) es h) (by decide)
  have sm1 : ∀ es, d1 = .tuple es → es.length ≤ 1000 := fun es h => Nat.le_trans ((sm _ rfl).2 d1 (by simp) es h) (by decide)
  have sm2 : ∀ es, d2 = .tuple es → es.length ≤ 1000 := fun es h => Nat.le_trans ((sm _ rfl).2 d2 (by simp) es h) (by decide)
  have sm3 : ∀ es, d3 = .tuple es → es.length ≤ 1000 := fun es h => Nat.le_trans ((sm _ rfl).2 d3 (by simp) es h) (by decide)
  have sm4 : ∀ es, d4 = .tuple es → es.length ≤ 1000 := fun es h => Nat.le_trans ((sm _ rfl).2 d4 (by simp) es h) (by decide)
  obtain ⟨dx, tv, na, fa, sa, a1, _⟩ := id hs.1
  obtain ⟨dy, tw, nb, fb, sb, b1, _⟩ := id hu.1
  dsimp only [tNext]
  have eF : heldD gs.tr gu.tr (.tuple [d0, d1, d2, d3, d4]) = ((wholesD d0 gs.tr.recs && wholesD d1 gs.tr.plains) && ((wholesD d2 gu.tr.recs && wholesD d3 gu.tr.plains) && (wholesD d4 gu.tr.plains && ((numd 0 (intsOf d0 ++ intsOf d2) && numd 0 (intsOf d1 ++ (intsOf d3 ++ intsOf d4))) && consW [] (plAll [(gs.tr, intsOf d0, intsOf d1), (gu.tr, intsOf d2, intsOf d3)]))))) := rfl
  rw [eF] at q
  have s0 : Same H H := Same.refl _
  refine ⟨_, rfl, p, _, 0, v0, rfl, rfl, .inl (.inl (s0 _ _ hp)), rfl, _, rfl, x, dx, _, rfl, s0 _ _ a1, x, gs, Z, rfl, ShG.kz (fun b o e _ _ => s0 b o e) hs, gd, fun Ha0 sa0 => ⟨v0, d0, gs.tr.recs, rfl, h0.same (s0.trans sa0), sm0, fun Hb0 sb0 => ⟨_, rfl, ?_⟩⟩⟩
  have s1 := s0.trans (sa0.trans sb0)
  cases w0 : wholesD d0 gs.tr.recs with
  | false =>
    have := q Hb0 s1
    simp only [w0, Bool.false_and, Bool.and_false] at this
    exact iteT this
  | true =>
  refine iteF ?_
  refine ⟨_, rfl, p, _, 1, v1, rfl, rfl, .inl (.inl (s1 _ _ hp)), rfl, _, rfl, x, dx, _, rfl, s1 _ _ a1, x, gs, Z, rfl, ShG.kz (fun b o e _ _ => s1 b o e) hs, gd, fun Ha1 sa1 => ⟨v1, d1, gs.tr.plains, rfl, h1.same (s1.trans sa1), sm1, fun Hb1 sb1 => ⟨_, rfl, ?_⟩⟩⟩
  have s2 := s1.trans (sa1.trans sb1)
  cases w1 : wholesD d1 gs.tr.plains with
  | false =>
    have := q Hb1 s2
    simp only [w1, Bool.false_and, Bool.and_false] at this
    exact iteT this
  | true =>
  refine iteF ?_
  dsimp only [tNext]
  refine ⟨_, rfl, p, _, 2, v2, rfl, rfl, .inl (.inl (s2 _ _ hp)), rfl, _, rfl, y, dy, _, rfl, s2 _ _ b1, y, gu, Z, rfl, ShG.kz (fun b o e _ _ => s2 b o e) hu, gdu, fun Ha2 sa2 => ⟨v2, d2, gu.tr.recs, rfl, h2.same (s2.trans sa2), sm2, fun Hb2 sb2 => ⟨_, rfl, ?_⟩⟩⟩
  have s3 := s2.trans (sa2.trans sb2)
  cases w2 : wholesD d2 gu.tr.recs with
  | false =>
    have := q Hb2 s3
    simp only [w2, Bool.false_and, Bool.and_false] at this
    exact iteT this
  | true =>
  refine iteF ?_
  refine ⟨_, rfl, p, _, 3, v3, rfl, rfl, .inl (.inl (s3 _ _ hp)), rfl, _, rfl, y, dy, _, rfl, s3 _ _ b1, y, gu, Z, rfl, ShG.kz (fun b o e _ _ => s3 b o e) hu, gdu, fun Ha3 sa3 => ⟨v3, d3, gu.tr.plains, rfl, h3.same (s3.trans sa3), sm3, fun Hb3 sb3 => ⟨_, rfl, ?_⟩⟩⟩
  have s4 := s3.trans (sa3.trans sb3)
  cases w3 : wholesD d3 gu.tr.plains with
  | false =>
    have := q Hb3 s4
    simp only [w3, Bool.false_and, Bool.and_false] at this
    exact iteT this
  | true =>
  refine iteF ?_
  dsimp only [tNext]
  refine ⟨_, rfl, p, _, 4, v4, rfl, rfl, .inl (.inl (s4 _ _ hp)), rfl, _, rfl, y, dy, _, rfl, s4 _ _ b1, y, gu, Z, rfl, ShG.kz (fun b o e _ _ => s4 b o e) hu, gdu, fun Ha4 sa4 => ⟨v4, d4, gu.tr.plains, rfl, h4.same (s4.trans sa4), sm4, fun Hb4 sb4 => ⟨_, rfl, ?_⟩⟩⟩
  have s5 := s4.trans (sa4.trans sb4)
  cases w4 : wholesD d4 gu.tr.plains with
  | false =>
    have := q Hb4 s5
    simp only [w4, Bool.false_and, Bool.and_false] at this
    exact iteT this
  | true =>
  refine iteF ?_
  dsimp only [tNext]
  simp only [w0, w1, w2, w3, w4, Bool.true_and] at q
  obtain ⟨i0, rfl, l0⟩ := wholesD_out w0
  obtain ⟨i1, rfl, l1⟩ := wholesD_out w1
  obtain ⟨i2, rfl, l2⟩ := wholesD_out w2
  obtain ⟨i3, rfl, l3⟩ := wholesD_out w3
  obtain ⟨i4, rfl, l4⟩ := wholesD_out w4
  simp only [intsOf_ints] at q
  obtain ⟨r0, rfl, hr0, _⟩ := dtv_ints_out h0
  obtain ⟨r1, rfl, hr1, _⟩ := dtv_ints_out h1
  obtain ⟨r2, rfl, hr2, _⟩ := dtv_ints_out h2
  obtain ⟨r3, rfl, hr3, _⟩ := dtv_ints_out h3
  obtain ⟨r4, rfl, hr4, _⟩ := dtv_ints_out h4
  refine ⟨_, rfl, p, _, 0, .ref r0, rfl, rfl, .inl (.inl (s5 _ _ hp)), rfl, _, rfl, p, _, 2, .ref r2, rfl, rfl, .inl (.inl (s5 _ _ hp)), rfl, Nat.le_of_ble_eq_true rfl, fun L nL => ?_⟩
  have sL := s5.trans (same_upd (o := .lst [.ref r0, .ref r2]) nL)
  refine ⟨L, [r0, r2], [i0, i2], rfl, upd_same, ⟨rfl, fun i a xs e1 e2 => ?_⟩, _, rfl, ?_⟩
  · cases i with
    | zero =>
      cases e1
      cases e2
      exact sL _ _ hr0
    | succ k => cases k with
      | zero =>
        cases e1
        cases e2
        exact sL _ _ hr2
      | succ k => cases e1
  generalize upd Hb4 L (.lst [.ref r0, .ref r2]) = H6 at *
  have fl2 : ∀ l m : List Int, ([l, m] : List (List Int)).flatten = l ++ m := fun l m => by show l ++ (m ++ []) = _; rw [List.append_nil]
  have fl3 : ∀ l m n : List Int, ([l, m, n] : List (List Int)).flatten = l ++ (m ++ n) := fun l m n => by show l ++ (m ++ (n ++ [])) = _; rw [List.append_nil]
  rw [fl2]
  cases n0 : numd 0 (i0 ++ i2) with
  | false =>
    have := q H6 sL
    simp only [n0, Bool.false_and] at this
    exact iteT this
  | true =>
  refine iteF ?_
  refine ⟨_, rfl, p, _, 1, .ref r1, rfl, rfl, .inl (.inl (sL _ _ hp)), rfl, _, rfl, p, _, 3, .ref r3, rfl, rfl, .inl (.inl (sL _ _ hp)), rfl, _, rfl, p, _, 4, .ref r4, rfl, rfl, .inl (.inl (sL _ _ hp)), rfl, Nat.le_of_ble_eq_true rfl, fun L2 nL2 => ?_⟩
  have sM := sL.trans (same_upd (o := .lst [.ref r1, .ref r3, .ref r4]) nL2)
  refine ⟨L2, [r1, r3, r4], [i1, i3, i4], rfl, upd_same, ⟨rfl, fun i a xs e1 e2 => ?_⟩, _, rfl, ?_⟩
  · cases i with
    | zero =>
      cases e1
      cases e2
      exact sM _ _ hr1
    | succ k => cases k with
      | zero =>
        cases e1
        cases e2
        exact sM _ _ hr3
      | succ k => cases k with
        | zero =>
          cases e1
          cases e2
          exact sM _ _ hr4
        | succ k => cases e1
  generalize upd H6 L2 (.lst [.ref r1, .ref r3, .ref r4]) = H7 at *
  rw [fl3]
  cases n1 : numd 0 (i1 ++ (i3 ++ i4)) with
  | false =>
    have := q H7 sM
    simp only [n0, n1, Bool.false_and, Bool.and_false] at this
    exact iteT this
  | true =>
  refine iteF ?_
  simp only [n0, n1, Bool.true_and] at q
  dsimp only [tNext]
  refine ⟨_, rfl, _, rfl, p, _, 0, .ref r0, rfl, rfl, .inl (.inl (sM _ _ hp)), rfl, _, rfl, p, _, 1, .ref r1, rfl, rfl, .inl (.inl (sM _ _ hp)), rfl, Nat.le_of_ble_eq_true rfl, fun tp ntp => ?_⟩
  have sP := sM.trans (same_upd (o := .tup [.ref x, .ref r0, .ref r1]) ntp)
  have etp : (upd H7 tp (.tup [.ref x, .ref r0, .ref r1])) tp = some (.tup [.ref x, .ref r0, .ref r1]) := upd_same
  generalize upd H7 tp (.tup [.ref x, .ref r0, .ref r1]) = H8 at *
  refine ⟨_, rfl, _, rfl, p, _, 2, .ref r2, rfl, rfl, .inl (.inl (sP _ _ hp)), rfl, _, rfl, p, _, 3, .ref r3, rfl, rfl, .inl (.inl (sP _ _ hp)), rfl, Nat.le_of_ble_eq_true rfl, fun tq ntq => ⟨Nat.le_of_ble_eq_true rfl, fun L3 nL3 => ?_⟩⟩
  have s9 := (same_upd (o := .tup [.ref y, .ref r2, .ref r3]) ntq).trans (same_upd (o := .lst [.ref tp, .ref tq]) nL3)
  have etq := same_upd (o := .lst [.ref tp, .ref tq]) nL3 _ _ (show (upd H8 tq (.tup [.ref y, .ref r2, .ref r3])) tq = some (.tup [.ref y, .ref r2, .ref r3]) from upd_same)
  have eL3 : (upd (upd H8 tq (.tup [.ref y, .ref r2, .ref r3])) L3 (.lst [.ref tp, .ref tq])) L3 = some (.lst [.ref tp, .ref tq]) := upd_same
  generalize upd (upd H8 tq (.tup [.ref y, .ref r2, .ref r3])) L3 (.lst [.ref tp, .ref tq]) = H9 at *
  have sR := sP.trans s9
  refine ⟨Z, L3, [.ref tp, .ref tq], [(gs.tr, i0, i1), (gu.tr, i2, i3)], rfl, eL3, rfl, fun i v m e1 e2 => ?_, Nat.le_of_ble_eq_true rfl, fun H10 s10 => ?_⟩
  · cases i with
    | zero =>
      cases e1
      cases e2
      exact ⟨tp, x, r0, r1, gs, rfl, s9 _ _ etp, ShG.kz (fun b o e _ _ => sR b o e) hs, gd, rfl, sR _ _ hr0, sR _ _ hr1, l0, l1⟩
    | succ k => cases k with
      | zero =>
        cases e1
        cases e2
        exact ⟨tq, y, r2, r3, gu, rfl, etq, ShG.kz (fun b o e _ _ => sR b o e) hu, gdu, rfl, sR _ _ hr2, sR _ _ hr3, l2, l3⟩
      | succ k => cases e1
  · exact q H10 (sR.trans s10)
end
end Lx
namespace Sup
open PySem PySem.Spec L2 NdefX
open PyProof.Rows hiding wpAt wpAt_mono wpAt_bind
theorem psAt_expr {X : Cx} {c : Code} {te : TE} {e : Expr} {pos : Pos} (he : PEAt X c e te) (hs : swapsWith e none pos.line X.env = pure false := by rfl) : PSAt X c (.Expr e pos) (tDrop te) := by
  refine ⟨fun pins s σ H D I h => ?_⟩
  exact ks_wpAt_Expr_any (wpAt_mono (he.run pins s σ H _ I h) (fun v s1 ⟨x, H1, I1, r1, q1⟩ => ⟨σ, H1, I1, q1⟩) fun _ _ x => x) I.quiet hs
end Sup
namespace Lx
open PySem PySem.Spec PyProof.Rows L2 Ub Ur
section
variable {P : Program} {w : World} {K : PySem.W.Frag} {mg : Str → Option Value} {base : Heap}
theorem sc_is_word : FnScope ["text", "letter"] ["text"] (defScope s_is_word) := ⟨rfl, rfl, rfl, by decide +kernel, rfl, by decide +kernel, by decide +kernel⟩
theorem ok_is_word {f : Addr} {fd : FuncData} (F : FunD K "is_word" "is_word" (defArgs s_is_word) (defBody s_is_word) (defScope s_is_word) [] [] f fd) (T : Tx K mg) : FnOk P w K mg base CX0 1 f fd ["text"] (sp_is_word K) := by
  refine F.ok sc_is_word (fun vs H Q E h => ?_) (fun cdv A outer s H vs Q E hr h => ?_)
  · obtain ⟨x, rfl, _⟩ := h
    rfl
  · obtain ⟨x, rfl, h⟩ := h
    refine ⟨_, PSs.nox (pss_cons (ps_if (PW.pt (pw_or (pt_not (pt_val (pe_callB (call_isiK' K) (by rfl) T.isinstance (by decide +kernel) (pa_cons (pv 0) (pa_cons (pe_bltn (v := .ty "str") (by rfl) T.str (by decide +kernel) rfl) pa_nil))))) (pw_or1 (pt_not (pt_chain op_le op_le pe_int (pe_callB call_len_str (by rfl) T.len (by decide +kernel) (pa_cons (pv 0) pa_nil)) pe_int)))))
        (pss_one (ps_ret pe_bl))
        pss_nil)
      (pss_one (ps_ret (pe_and (pe_callB (cr_allK K rfl) (by rfl) T.all (by decide +kernel) (pa_cons (pe_lc (own := [("letter", 1)]) (by rfl) sc_is_word.nd (pi_str (pv 0)) (blkOk_by (N := ["text", "letter"]) (sc := (defScope s_is_word)) (by decide +kernel)) (fun _ _ _ _ _ => (pg_name (i := 1) sc_is_word.nd rfl (by first | exact Or.inl rfl | exact Or.inr rfl))) (fun _ _ _ _ _ => pts_nil) (fun _ _ _ _ _ => (pe_cmpR op_in_sign (pv 1) (pe_globS (by rfl) T.c_LETTERS) (by rfl)))) pa_nil)) (pe_one (pe_cmpR (op_notIn_seqK K) (pv 0) (pe_globR (by rfl) T.g_KEPT_WORDS) (by rfl))))))), ?_⟩
    rcases h with ⟨z, rfl, hz, q⟩ | ⟨⟨t, ht, hk⟩, q⟩
    · refine ⟨_, rfl, _, _, _, _, true, rfl, .ty "str", .base (.str z), kit_ty (by decide +kernel), true, rfl, ?_⟩
      refine iteF ?_
      refine ⟨_, rfl, z, rfl, sz4 hz, _, _, rfl, rfl, _, rfl, ?_⟩
      have el : z.length = z.cps.toList.length := by simp [Str.length]
      by_cases h1 : 1 ≤ z.length
      · refine iteY (by omega) ?_
        refine ⟨_, _, rfl, rfl, _, rfl, ?_⟩
        by_cases h8 : z.length ≤ 8
        · refine iteNN (by omega) ?_
          have e1 : decide (1 ≤ z.length) = true := decide_eq_true h1
          have e2 : decide (z.length ≤ 8) = true := decide_eq_true h8
          have ew : isWord z = (z.cps.toList.all isLet && !inV (.str z) keptV) := by
            unfold isWord
            rw [e1, e2]
            rfl
          rw [ew] at q
          refine ⟨_, rfl, z, rfl, fun D hD => ?_⟩
          refine lcW (walk_strV (z := z)) (liftS fun c => some (.bl (isLet c))) (fun _ _ => trivial) (sz4 (by rw [List.length_map]; omega)) hD (fun i x H' hx s' => ?_) (fun H1 s1 d1 => ?_)
          · obtain ⟨c, hc, rfl⟩ := List.mem_map.mp (List.mem_of_getElem? hx)
            intro Q1 Q0 h1 h0
            exact ⟨rfl, _, rfl, c, letters, rfl, rfl, h1 _ _ rfl (Same.refl _)⟩
          · rw [fm_liftS] at d1
            have eb : (z.cps.toList.filterMap fun c => some (V.bl (isLet c))) = (z.cps.toList.map isLet).map V.bl := by
              rw [List.filterMap_eq_map', List.map_map]
              rfl
            rw [eb] at d1
            refine ⟨D, _, rfl, .inl (.inl d1), _, rfl, ?_⟩
            have ea : (z.cps.toList.map isLet).all id = z.cps.toList.all isLet := by rw [List.all_map]; rfl
            refine iteE ea (fun e => ?_) (fun e => ?_)
            · rw [e] at q
              exact ⟨_, rfl, _, keptV, rfl, .inr (T.t_KEPT_WORDS _), rfl, kept_flat, q _ s1⟩
            · rw [e] at q
              exact q _ s1
        · refine iteNY (by omega) ?_
          have e2 : decide (z.length ≤ 8) = false := decide_eq_false h8
          have ew : isWord z = false := by
            unfold isWord
            rw [e2]
            simp
          rw [ew] at q
          exact q _ (Same.refl _)
      · refine iteN (by omega) ?_
        have e2 : decide (1 ≤ z.length) = false := decide_eq_false h1
        have ew : isWord z = false := by
          unfold isWord
          rw [e2]
          simp
        rw [ew] at q
        refine ⟨_, rfl, ?_⟩
        exact q _ (Same.refl _)
    · refine ⟨_, rfl, _, _, _, _, false, rfl, .ty "str", ht, kit_ty hk, false, rfl, ?_⟩
      exact q _ (Same.refl _)
end
end Lx
namespace Lx
open PySem PySem.Spec PyProof.Rows L2 Ub
section
variable {P : Program} {w : World} {K : PySem.W.Frag} {mg : Str → Option Value} {base : Heap}
theorem sc_records_of : FnScope ["tree", "word", "field"] ["tree"] (defScope s_records_of) := ⟨rfl, rfl, rfl, by decide +kernel, rfl, by decide +kernel, by decide +kernel⟩
theorem ok_records_of {f : Addr} {fd : FuncData} (F : FunD K "records_of" "records_of" (defArgs s_records_of) (defBody s_records_of) (defScope s_records_of) [] [] f fd) (T : Tx K mg) (hm : mg "records_of" = some (.ref f)) (hb : Binds K fd ["tree"] []) : ∀ d, FnOk P w K mg base CX0 d f fd ["tree"] (sp_tree d fun t => .int (t.recs : Nat))
  | 0 => no_tree
  | d + 1 => by
    have c_records_of : Cal P w K mg base d "records_of" ["tree"] (sp_tree d fun t => .int (t.recs : Nat)) := ⟨f, fd, ok_records_of F T hm hb d, hm, F.kp, hb⟩
    refine F.ok sc_records_of (fun vs H Q E h => h.len1) (fun cdv A outer s H vs Q E hr h => ?_)
    obtain ⟨t, v, rfl, ht, hd, hsz, hsh, q⟩ := h
    refine ⟨_, PSs.nox (pss_cons (ps_if (pt_cmpR (op_eq_nilK K hr.units0) (pv 0) (pe_tup pa_nil) (nomark _))
        (pss_one (ps_ret pe_int))
        pss_nil)
      (pss_one (ps_ret (pe_op op_add pe_int (pe_callB (cr_sumK K rfl) (by rfl) T.sum (by decide +kernel) (pa_cons (pe_lc (own := [("word", 1), ("field", 2)]) (by rfl) sc_records_of.nd (pi_tupK K (pv 0)) (blkOk_by (N := ["tree", "word", "field"]) (sc := (defScope s_records_of)) (by decide +kernel)) (fun _ _ _ _ _ => (pg_tupK K (n := 2) rfl (pgs_cons (pg_name (i := 1) sc_records_of.nd rfl (by first | exact Or.inl rfl | exact Or.inr rfl)) (pgs_cons (pg_name (i := 2) sc_records_of.nd rfl (by first | exact Or.inl rfl | exact Or.inr rfl)) pgs_nil)))) (fun _ _ _ _ _ => pts_nil) (fun _ _ _ _ _ => (pe_cal c_records_of (hr.mono (by omega)) (by rfl) (pa_cons (pv 2) pa_nil)))) pa_nil)))))), ?_⟩
    obtain ⟨a, ps, rfl, ha, hf⟩ := ht
    have hl := hf.len
    have hfl := t.fields_len
    -- tree == ()
    refine ⟨_, rfl, Nat.zero_le _, fun e ne => ?_⟩
    have s1 := same_upd (o := .tup []) ne
    refine ⟨a, e, ps, rfl, rfl, .inl (.inl (s1 _ _ ha)), .inl (.inl upd_same), _, rfl, ?_⟩
    refine iteE hf.nil_iff (fun e0 => ?_) (fun e0 => ?_)
    · have := q _ s1
      rw [Tr.nil_of e0] at this
      exact this
    refine ⟨_, rfl, a, rfl, ⟨_, .inl (.inl (s1 _ _ ha))⟩, fun D hD => ?_⟩
    refine lcM (walk_tup (xs := ps)) t.fields hl.symm (fun m => some (.int (m.2.recs : Nat))) (fun H s => Same.tup s (.inl (.inl (s1 _ _ ha)))) (sz4 (by omega)) hD (fun i x m H' hx hm' s' => ?_) (fun H1 s2 d1 => ?_)
    · obtain ⟨p, q', g1, g2, g3⟩ := hf.get hm'
      rw [g1] at hx
      cases hx
      intro Q1 Q0 h1 h0
      have s3 := s1.trans s'
      have dl := Tr.depth_lt (List.mem_of_getElem? hm')
      have sl := Tr.size_mem (List.mem_of_getElem? hm')
      exact ⟨p, _, rfl, .inl (.inl (s3 _ _ g2)), rfl, _, _, rfl, _, _, rfl, rfl, rfl, _, rfl, m.2, _, rfl, g3.same s3, by omega, by omega, (Tr.short_mem hsh (List.mem_of_getElem? hm')).2, fun H2 s4 => h1 _ _ rfl s4⟩
    have el : (t.fields.filterMap fun m => some (V.int (m.2.recs : Nat))) = (t.fields.map fun m => ((m.2.recs : Nat) : Int)).map V.int := by
      rw [List.filterMap_eq_map', List.map_map]
      rfl
    rw [el] at d1
    refine ⟨D, _, rfl, .inl (.inl d1), _, _, rfl, rfl, ?_⟩
    have qq : Q (.int ((t.recs : Nat) : Int)) H1 := q _ (s1.trans s2)
    rw [← recs_int e0] at qq
    exact qq
theorem sc_plains_of : FnScope ["tree", "word", "field"] ["tree"] (defScope s_plains_of) := ⟨rfl, rfl, rfl, by decide +kernel, rfl, by decide +kernel, by decide +kernel⟩
theorem ok_plains_of {f : Addr} {fd : FuncData} (F : FunD K "plains_of" "plains_of" (defArgs s_plains_of) (defBody s_plains_of) (defScope s_plains_of) [] [] f fd) (T : Tx K mg) (hm : mg "plains_of" = some (.ref f)) (hb : Binds K fd ["tree"] []) : ∀ d, FnOk P w K mg base CX0 d f fd ["tree"] (sp_tree d fun t => .int (t.plains : Nat))
  | 0 => no_tree
  | d + 1 => by
    have c_plains_of : Cal P w K mg base d "plains_of" ["tree"] (sp_tree d fun t => .int (t.plains : Nat)) := ⟨f, fd, ok_plains_of F T hm hb d, hm, F.kp, hb⟩
    refine F.ok sc_plains_of (fun vs H Q E h => h.len1) (fun cdv A outer s H vs Q E hr h => ?_)
    obtain ⟨t, v, rfl, ht, hd, hsz, hsh, q⟩ := h
    refine ⟨_, PSs.nox (pss_cons (ps_if (pt_cmpR (op_eq_nilK K hr.units0) (pv 0) (pe_tup pa_nil) (nomark _))
        (pss_one (ps_ret pe_int))
        pss_nil)
      (pss_one (ps_ret (pe_callB (cr_sumK K rfl) (by rfl) T.sum (by decide +kernel) (pa_cons (pe_lc (own := [("word", 1), ("field", 2)]) (by rfl) sc_plains_of.nd (pi_tupK K (pv 0)) (blkOk_by (N := ["tree", "word", "field"]) (sc := (defScope s_plains_of)) (by decide +kernel)) (fun _ _ _ _ _ => (pg_tupK K (n := 2) rfl (pgs_cons (pg_name (i := 1) sc_plains_of.nd rfl (by first | exact Or.inl rfl | exact Or.inr rfl)) (pgs_cons (pg_name (i := 2) sc_plains_of.nd rfl (by first | exact Or.inl rfl | exact Or.inr rfl)) pgs_nil)))) (fun _ _ _ _ _ => pts_nil) (fun _ _ _ _ _ => (pe_cal c_plains_of (hr.mono (by omega)) (by rfl) (pa_cons (pv 2) pa_nil)))) pa_nil))))), ?_⟩
    obtain ⟨a, ps, rfl, ha, hf⟩ := ht
    have hl := hf.len
    have hfl := t.fields_len
    -- tree == ()
    refine ⟨_, rfl, Nat.zero_le _, fun e ne => ?_⟩
    have s1 := same_upd (o := .tup []) ne
    refine ⟨a, e, ps, rfl, rfl, .inl (.inl (s1 _ _ ha)), .inl (.inl upd_same), _, rfl, ?_⟩
    refine iteE hf.nil_iff (fun e0 => ?_) (fun e0 => ?_)
    · have := q _ s1
      rw [Tr.nil_of e0] at this
      exact this
    refine ⟨_, rfl, a, rfl, ⟨_, .inl (.inl (s1 _ _ ha))⟩, fun D hD => ?_⟩
    refine lcM (walk_tup (xs := ps)) t.fields hl.symm (fun m => some (.int (m.2.plains : Nat))) (fun H s => Same.tup s (.inl (.inl (s1 _ _ ha)))) (sz4 (by omega)) hD (fun i x m H' hx hm' s' => ?_) (fun H1 s2 d1 => ?_)
    · obtain ⟨p, q', g1, g2, g3⟩ := hf.get hm'
      rw [g1] at hx
      cases hx
      intro Q1 Q0 h1 h0
      have s3 := s1.trans s'
      have dl := Tr.depth_lt (List.mem_of_getElem? hm')
      have sl := Tr.size_mem (List.mem_of_getElem? hm')
      exact ⟨p, _, rfl, .inl (.inl (s3 _ _ g2)), rfl, _, _, rfl, _, _, rfl, rfl, rfl, _, rfl, m.2, _, rfl, g3.same s3, by omega, by omega, (Tr.short_mem hsh (List.mem_of_getElem? hm')).2, fun H2 s4 => h1 _ _ rfl s4⟩
    have el : (t.fields.filterMap fun m => some (V.int (m.2.plains : Nat))) = (t.fields.map fun m => ((m.2.plains : Nat) : Int)).map V.int := by
      rw [List.filterMap_eq_map', List.map_map]
      rfl
    rw [el] at d1
    refine ⟨D, _, rfl, .inl (.inl d1), ?_⟩
    have qq : Q (.int ((t.plains : Nat) : Int)) H1 := q _ (s1.trans s2)
    rw [← plains_int e0] at qq
    exact qq
theorem sc_text_of : FnScope ["tree", "fields", "word", "field"] ["tree"] (defScope s_text_of) := ⟨rfl, rfl, rfl, by decide +kernel, rfl, by decide +kernel, by decide +kernel⟩
theorem ok_text_of {f : Addr} {fd : FuncData} (F : FunD K "text_of" "text_of" (defArgs s_text_of) (defBody s_text_of) (defScope s_text_of) [] [] f fd) (T : Tx K mg) (hm : mg "text_of" = some (.ref f)) (hb : Binds K fd ["tree"] []) : ∀ d, FnOk P w K mg base CX0 d f fd ["tree"] (sp_tree d fun t => .str t.text)
  | 0 => no_tree
  | d + 1 => by
    have c_text_of : Cal P w K mg base d "text_of" ["tree"] (sp_tree d fun t => .str t.text) := ⟨f, fd, ok_text_of F T hm hb d, hm, F.kp, hb⟩
    refine F.ok sc_text_of (fun vs H Q E h => h.len1) (fun cdv A outer s H vs Q E hr h => ?_)
    obtain ⟨t, v, rfl, ht, hd, hsz, hsh, q⟩ := h
    refine ⟨_, PSs.nox (pss_cons (ps_if (pt_cmpR (op_eq_nilK K hr.units0) (pv 0) (pe_tup pa_nil) (nomark _))
        (pss_one (ps_ret pe_str))
        pss_nil)
      (pss_cons (ps_set (i := 1) sc_text_of.nd rfl (by first | exact Or.inl rfl | exact Or.inr rfl) (pe_join pe_str (pe_lc (own := [("word", 2), ("field", 3)]) (by rfl) sc_text_of.nd (pi_tupK K (pv 0)) (blkOk_by (N := ["tree", "fields", "word", "field"]) (sc := (defScope s_text_of)) (by decide +kernel)) (fun _ _ _ _ _ => (pg_tupK K (n := 2) rfl (pgs_cons (pg_name (i := 2) sc_text_of.nd rfl (by first | exact Or.inl rfl | exact Or.inr rfl)) (pgs_cons (pg_name (i := 3) sc_text_of.nd rfl (by first | exact Or.inl rfl | exact Or.inr rfl)) pgs_nil)))) (fun _ _ _ _ _ => pts_nil) (fun _ _ _ _ _ => (pe_op op_add_str (pe_op op_add_str (pv 2) pe_str) (pe_cal c_text_of (hr.mono (by omega)) (by rfl) (pa_cons (pv 3) pa_nil)))))))
      (pss_one (ps_ret (pe_op op_add_str (pe_op op_add_str pe_str (pv 1)) pe_str))))), ?_⟩
    obtain ⟨a, ps, rfl, ha, hf⟩ := ht
    have hl := hf.len
    have hfl := t.fields_len
    -- tree == ()
    refine ⟨_, rfl, Nat.zero_le _, fun e ne => ?_⟩
    have s1 := same_upd (o := .tup []) ne
    refine ⟨a, e, ps, rfl, rfl, .inl (.inl (s1 _ _ ha)), .inl (.inl upd_same), _, rfl, ?_⟩
    refine iteE hf.nil_iff (fun e0 => ?_) (fun e0 => ?_)
    · have := q _ s1
      rw [Tr.nil_of e0] at this
      exact this
    refine ⟨⟨_, rfl⟩, _, rfl, a, rfl, ⟨_, .inl (.inl (s1 _ _ ha))⟩, fun D hD => ?_⟩
    refine lcM (walk_tup (xs := ps)) t.fields hl.symm (fun m => some (.str (m.1 ++ ": " ++ m.2.text))) (fun H s => Same.tup s (.inl (.inl (s1 _ _ ha)))) (sz4 (by omega)) hD (fun i x m H' hx hm' s' => ?_) (fun H1 s2 d1 => ?_)
    · obtain ⟨p, q', g1, g2, g3⟩ := hf.get hm'
      rw [g1] at hx
      cases hx
      intro Q1 Q0 h1 h0
      have s3 := s1.trans s'
      have dl := Tr.depth_lt (List.mem_of_getElem? hm')
      have sl := Tr.size_mem (List.mem_of_getElem? hm')
      obtain ⟨w8, sh⟩ := Tr.short_mem hsh (List.mem_of_getElem? hm')
      have tl := (Tr.join_le sh).2
      have e2 : ((": " : Str)).length = 2 := by decide +kernel
      have l2 : (m.1 ++ ": ").length ≤ 10 := by rw [len_app, e2]; omega
      exact ⟨p, _, rfl, .inl (.inl (s3 _ _ g2)), rfl, _, _, rfl, _, _, rfl, rfl, rfl, _, rfl, m.1, ": ", rfl, rfl, sz5 (by omega), _, rfl, m.2, _, rfl, g3.same s3, by omega, by omega, sh, fun H2 s4 => ⟨_, _, rfl, rfl, sz5 (by omega), h1 _ _ rfl s4⟩⟩
    have el : (t.fields.filterMap fun m => some (V.str (m.1 ++ ": " ++ m.2.text))) = t.pieces.map V.str := by
      rw [List.filterMap_eq_map', Tr.pieces_eq, List.map_map]
      rfl
    rw [el] at d1
    have jl := (Tr.join_le hsh).1
    have e3 : ((", " : Str)).length = 2 := by decide +kernel
    refine ⟨", ", D, t.pieces, rfl, rfl, .inl (.inl (.inl d1)), ?_, ?_⟩
    · rw [e3]
      omega
    rw [TL.join_eq]
    have tl := (Tr.join_le hsh).2
    have et := text_eq e0
    rw [et, len_app, len_app] at tl
    have e4 : (("{" : Str)).length = 1 := by decide +kernel
    have e5 : (("}" : Str)).length = 1 := by decide +kernel
    refine ⟨_, rfl, "{", _, rfl, rfl, sz5 (by omega), _, _, rfl, rfl, sz5 (by rw [len_app]; omega), ?_⟩
    have qq : Q (.str t.text) H1 := q _ (s1.trans s2)
    rw [et] at qq
    exact qq
end
section
variable {P : Program} {w : World} {K : PySem.W.Frag} {mg : Str → Option Value} {base : Heap}
theorem sc_scan_word : FnScope ["text", "at", "end"] ["text", "at"] (defScope s_scan_word) := ⟨rfl, rfl, rfl, by decide +kernel, rfl, by decide +kernel, by decide +kernel⟩
theorem ok_scan_word {f : Addr} {fd : FuncData} (F : FunD K "scan_word" "scan_word" (defArgs s_scan_word) (defBody s_scan_word) (defScope s_scan_word) [] [] f fd) (T : Tx K mg) (c_is_word : Cal P w K mg base 1 "is_word" ["text"] (sp_is_word K)) : FnOk P w K mg base CX0 2 f fd ["text", "at"] sp_scan_word := by
  refine F.ok sc_scan_word (fun vs H Q E h => ?_) (fun cdv A outer s H vs Q E hr h => ?_)
  · obtain ⟨z, a, rfl, _⟩ := h
    rfl
  · obtain ⟨z, a, rfl, hz, ha, q⟩ := h
    refine ⟨_, PSs.nox (pss_cons (ps_set (i := 2) sc_scan_word.nd rfl (by first | exact Or.inl rfl | exact Or.inr rfl) (pe_bmK K PySem.F.plainAttrs_str PySem.F.slot_str_find PySem.F.type_str_find mt_find4 (pv 0) (pa_cons pe_str (pa_cons (pv 1) (pa_cons (pe_op op_add (pv 1) pe_int) pa_nil)))))
      (pss_cons (ps_if (PW.pt (pw_or (pt_cmpR op_lt (pv 2) pe_int (nomark _)) (pw_or1 (pt_not (pt_val (pe_cal c_is_word (hr.mono (by omega)) (by rfl) (pa_cons (pe_slice sl_str (pv 0) (po_some (pv 1)) (po_some (pv 2))) pa_nil)))))))
        (pss_one (ps_ret pe_non))
        pss_nil)
      (pss_one (ps_ret (pe_slice sl_str (pv 0) (po_some (pv 1)) (po_some (pv 2))))))), ?_⟩
    refine ⟨_, rfl, rfl, _, rfl, _, rfl, _, _, rfl, rfl, z, ": ", _, _, rfl, rfl, ?_⟩
    rcases find_colon z a ha with ⟨e, h1, h2, h3, h4⟩ | ⟨h1, h2⟩
    · rw [h1]
      have hs := scanW_found h3 h4 h2
      rw [hs] at q
      have ec : cutS z (some (a : Int)) (some ((a + e : Nat) : Int)) = ⟨(((cs z).drop a).take e).toArray⟩ := by
        rw [cut_nat ha (by omega), show a + e - a = e by omega]
      have hl : ((⟨(((cs z).drop a).take e).toArray⟩ : Str)).length ≤ 10000 := by
        show (((cs z).drop a).take e).toArray.size ≤ 10000
        rw [List.size_toArray, List.length_take]
        omega
      refine ⟨_, rfl, _, _, rfl, rfl, _, rfl, ?_⟩
      refine iteN (by omega) ?_
      refine ⟨_, rfl, _, rfl, _, rfl, _, rfl, _, rfl, z, rfl, sz5 hz, _, rfl, .inl ⟨_, rfl, ?_, fun H1 s1 => ⟨_, rfl, ?_⟩⟩⟩
      · rw [ec]; exact hl
      rw [ec]
      cases hw : isWord ⟨(((cs z).drop a).take e).toArray⟩ with
      | true =>
        rw [hw] at q
        refine ⟨_, rfl, _, rfl, _, rfl, _, rfl, _, rfl, z, rfl, sz5 hz, ?_⟩
        rw [ec]
        exact q H1 s1
      | false =>
        rw [hw] at q
        exact q H1 s1
    · rw [h1]
      rw [scanW_none h2] at q
      refine ⟨_, rfl, _, _, rfl, rfl, _, rfl, ?_⟩
      refine iteY (by decide) ?_
      exact q H (Same.refl _)
end
/-- what the loop keeps -/
structure ScI (H0 H : Hp) (z : Str) (f : Nat) (s0 : List Nat) (fl : Addr) (l : List (Str × Tr)) (here n : Nat) : Prop where
  same : Same H0 H
  lst : ∃ ps, H fl = some (.lst ps) ∧ FsAt H (.ofFields l) ps
  num : l.length + n = 3
  le : here ≤ z.length
  go : scanF (scanS f) 3 [] s0 = (scanF (scanS f) n (l.map (·.1)) ((cs z).drop here)).map fun p => (prep l p.1, p.2)
section
variable {P : Program} {w : World} {K : PySem.W.Frag} {mg : Str → Option Value} {base : Heap}
theorem sc_scan_shape : FnScope ["text", "at", "floors", "fields", "here", "word", "tree", "name", "field"] ["text", "at", "floors"] (defScope s_scan_shape) := ⟨rfl, rfl, rfl, by decide +kernel, rfl, by decide +kernel, by decide +kernel⟩
theorem ok_scan_shape {f : Addr} {fd : FuncData} (F : FunD K "scan_shape" "scan_shape" (defArgs s_scan_shape) (defBody s_scan_shape) (defScope s_scan_shape) [.int 3] [] f fd) (T : Tx K mg) (hm : mg "scan_shape" = some (.ref f)) (hb : Binds K fd ["text", "at", "floors"] []) (c_scan_word : Cal P w K mg base 2 "scan_word" ["text", "at"] sp_scan_word) : ∀ d, FnOk P w K mg base CX0 (d + 2) f fd ["text", "at", "floors"] (sp_scan d)
  | 0 => FnOk.mono no_scan (by omega)
  | d + 1 => by
    have c_scan_shape : Cal P w K mg base (d + 2) "scan_shape" ["text", "at", "floors"] (sp_scan d) := ⟨f, fd, ok_scan_shape F T hm hb c_scan_word d, hm, F.kp, hb⟩
    refine F.ok sc_scan_shape (fun vs H Q E h => ?_) (fun cdv A outer s H vs Q E hr h => ?_)
    · obtain ⟨_, _, _, rfl, _⟩ := h
      rfl
    obtain ⟨z, a, fl, rfl, hz, ha, hd, h3, q⟩ := h
    refine ⟨_, PSs.nox (pss_cons (ps_if (pt_cmpR op_eq (pe_slice sl_str (pv 0) (po_some (pv 1)) (po_some (pe_op op_add (pv 1) pe_int))) pe_str (nomark _))
        (pss_one (ps_ret (pe_tup (pa_cons (pe_tup pa_nil) (pa_cons (pe_op op_add (pv 1) pe_int) pa_nil)))))
        pss_nil)
      (pss_cons (ps_if (PW.pt (pw_or (pt_cmpR op_ne (pe_slice sl_str (pv 0) (po_some (pv 1)) (po_some (pe_op op_add (pv 1) pe_int))) pe_str (nomark _)) (pw_or1 (pt_cmpR op_eq (pv 2) pe_int (nomark _)))))
        (pss_one (ps_ret (pe_tup (pa_cons pe_non (pa_cons (pv 1) pa_nil)))))
        pss_nil)
      (pss_cons (ps_set (i := 3) sc_scan_shape.nd rfl (by first | exact Or.inl rfl | exact Or.inr rfl) (pe_lst pa_nil))
      (pss_cons (ps_set (i := 4) sc_scan_shape.nd rfl (by first | exact Or.inl rfl | exact Or.inr rfl) (pe_op op_add (pv 1) pe_int))
      (pss_one (ps_while PassesOwn.never (pt_val pe_bl)
        (pss_cons (ps_set (i := 5) sc_scan_shape.nd rfl (by first | exact Or.inl rfl | exact Or.inr rfl) (pe_cal c_scan_word (hr.mono (by omega)) (by rfl) (pa_cons (pv 0) (pa_cons (pv 4) pa_nil))))
          (pss_cons (ps_if (PW.pt (pw_or (pt_cmpR op_isN (pv 5) pe_non (nomark _)) (pw_or (pt_cmpR op_eq (pe_callB (call_len_seqK K) (by rfl) T.len (by decide +kernel) (pa_cons (pv 3) pa_nil)) (pe_globI (by rfl) T.c_MOST_FIELDS) (nomark _)) (pw_or1 (pt_cmpR (op_in_seqK K) (pv 5) (pe_lc (own := [("name", 7), ("field", 8)]) (by rfl) sc_scan_shape.nd (pi_listK K (pv 3)) (blkOk_by (N := ["text", "at", "floors", "fields", "here", "word", "tree", "name", "field"]) (sc := (defScope s_scan_shape)) (by decide +kernel)) (fun _ _ _ _ _ => (pg_tupK K (n := 2) rfl (pgs_cons (pg_name (i := 7) sc_scan_shape.nd rfl (by first | exact Or.inl rfl | exact Or.inr rfl)) (pgs_cons (pg_name (i := 8) sc_scan_shape.nd rfl (by first | exact Or.inl rfl | exact Or.inr rfl)) pgs_nil)))) (fun _ _ _ _ _ => pts_nil) (fun _ _ _ _ _ => (pv 7))) (by rfl))))))
            (pss_one (ps_ret (pe_tup (pa_cons pe_non (pa_cons (pv 1) pa_nil)))))
            pss_nil)
          (pss_cons (ps_asg (pe_cal c_scan_shape (hr.mono (by omega)) (by rfl) (pa_cons (pv 0) (pa_cons (pe_op op_add (pe_op op_add (pv 4) (pe_callB call_len_str (by rfl) T.len (by decide +kernel) (pa_cons (pv 5) pa_nil))) pe_int) (pa_cons (pe_op op_sub (pv 2) pe_int) pa_nil)))) (pg_tupK K (n := 2) rfl (pgs_cons (pg_name (i := 6) sc_scan_shape.nd rfl (by first | exact Or.inl rfl | exact Or.inr rfl)) (pgs_cons (pg_name (i := 4) sc_scan_shape.nd rfl (by first | exact Or.inl rfl | exact Or.inr rfl)) pgs_nil))))
          (pss_cons (ps_if (pt_cmpR op_isN (pv 6) pe_non (nomark _))
            (pss_one (ps_ret (pe_tup (pa_cons pe_non (pa_cons (pv 1) pa_nil)))))
            pss_nil)
          (pss_cons (ps_expr (pe_bmK K PySem.F.plainAttrs_list PySem.F.slot_list_append PySem.F.type_list_append mt_append (pv 3) (pa_cons (pe_tup (pa_cons (pv 5) (pa_cons (pv 6) pa_nil))) pa_nil)))
          (pss_cons (ps_if (pt_cmpR op_eq (pe_slice sl_str (pv 0) (po_some (pv 4)) (po_some (pe_op op_add (pv 4) pe_int))) pe_str (nomark _))
            (pss_one (ps_ret (pe_tup (pa_cons (pe_callTy (call_tuple_ofK K) (by rfl) T.tuple (by decide +kernel) (pa_cons (pv 3) pa_nil)) (pa_cons (pe_op op_add (pv 4) pe_int) pa_nil)))))
            pss_nil)
          (pss_cons (ps_if (pt_cmpR op_ne (pe_slice sl_str (pv 0) (po_some (pv 4)) (po_some (pe_op op_add (pv 4) pe_int))) pe_str (nomark _))
            (pss_one (ps_ret (pe_tup (pa_cons pe_non (pa_cons (pv 1) pa_nil)))))
            pss_nil)
          (pss_one (ps_set (i := 4) sc_scan_shape.nd rfl (by first | exact Or.inl rfl | exact Or.inr rfl) (pe_op op_add (pv 4) pe_int)))))))))))))))), ?_⟩
    -- if text[at:at + 1] == '.'
    refine ⟨_, rfl, _, rfl, _, rfl, _, rfl, _, _, rfl, rfl, _, rfl, z, rfl, sz5 hz, rfl, _, rfl, ?_⟩
    refine iteE (cut1_eq ha cs_dot) (fun e => ?_) (fun e => ?_)
    · obtain ⟨r, hr', hs⟩ := scanS_dot (f := fl) (of_decide_eq_true e)
      rw [hs] at q
      refine ⟨Nat.zero_le _, fun u nu => ?_⟩
      refine ⟨_, rfl, _, _, rfl, rfl, (by show 2 ≤ sizeLine; decide), fun p np => ?_⟩
      have s1 := same_upd (o := .tup []) nu
      have s2 := same_upd (o := .tup [.ref u, .int ((a : Int) + 1)]) np
      refine q _ p (s1.trans s2) ⟨.ref u, ⟨u, [], rfl, s2 _ _ upd_same, rfl⟩, ?_⟩
      have hl : ((cs z).drop a).length = r.length + 1 := by rw [hr']; rfl
      rw [List.length_drop, cs_len] at hl
      have e1 : ((a : Nat) : Int) + 1 = ((z.length - r.length : Nat) : Int) := by omega
      rw [← e1]
      exact upd_same
    -- if text[at:at + 1] != '{' or floors == 0
    have none_out : scanS fl ((cs z).drop a) = none → ∀ H1, Same H H1 → ∀ p, H1 p = none → Q (.ref p) (upd H1 p (.tup [.non, .int (a : Int)])) := fun hs H1 s1 p np => by
      rw [hs] at q
      exact q _ p (s1.trans (same_upd np)) upd_same
    refine ⟨_, rfl, _, rfl, _, rfl, _, rfl, _, _, rfl, rfl, _, rfl, z, rfl, sz5 hz, rfl, _, rfl, ?_⟩
    have en := cut1_eq (z := z) (x := "{") ha cs_open
    refine iteE (c := !decide (((cs z).drop a).take 1 = [123])) (by rw [← en]) (fun e2 => ?_) (fun e2 => ?_)
    · refine iteT ?_
      refine ⟨_, rfl, (by show 2 ≤ sizeLine; decide), none_out (scanS_none (of_decide_eq_false e) (.inl (by simpa using e2))) H (Same.refl _)⟩
    refine ⟨_, rfl, rfl, _, rfl, ?_⟩
    refine iteE (dI _ _) (fun e3 => ?_) (fun e3 => ?_)
    · have hf0 : fl = 0 := by
        have : ((fl : Nat) : Int) = 0 := of_decide_eq_true e3
        omega
      refine ⟨_, rfl, (by show 2 ≤ sizeLine; decide), none_out (scanS_none (of_decide_eq_false e) (.inr hf0)) H (Same.refl _)⟩
    have hf0 : fl ≠ 0 := by
      have : ¬ ((fl : Nat) : Int) = 0 := of_decide_eq_false e3
      omega
    obtain ⟨g, rfl⟩ : ∃ g, fl = g + 1 := ⟨fl - 1, by omega⟩
    obtain ⟨s0, hs0, hsc⟩ := scanS_rec (f := g) (show ((cs z).drop a).take 1 = [123] by simpa using e2)
    -- fields = []; here = at + 1
    refine ⟨Nat.zero_le _, fun b nb => ?_⟩
    refine ⟨_, rfl, _, _, rfl, rfl, ?_⟩
    have hl0 : ((cs z).drop a).length = s0.length + 1 := by rw [hs0]; rfl
    rw [List.length_drop, cs_len] at hl0
    have hd1 : (cs z).drop (a + 1) = s0 := by
      rw [← List.drop_drop, hs0]
      rfl
    -- the loop
    refine ⟨fun m σ H1 => ∃ l here n y5 y6, m = n ∧ σ = [some (.str z), some (.int (a : Nat)), some (.int ((g + 1 : Nat) : Int)), some (.ref b), some (.int (here : Nat)), y5, y6, none, none] ∧ ScI H H1 z g s0 b l here n, ⟨3, [], a + 1, 3, none, none, rfl, ?_, ?_⟩, ?_⟩
    · have e1 : (((a + 1 : Nat)) : Int) = (a : Int) + 1 := by omega
      rw [e1]
      rfl
    · refine ⟨same_upd nb, ⟨[], upd_same, rfl⟩, rfl, by omega, ?_⟩
      rw [hd1]
      show _ = (scanF (scanS g) 3 [] s0).map fun p => (p.1, p.2)
      cases scanF (scanS g) 3 [] s0 <;> rfl
    rintro m σ H1 ⟨l, here, n, y5, y6, rfl, rfl, I⟩
    obtain ⟨same, ⟨ps, hps, hfs⟩, num, le, go⟩ := I
    have bad : scanF (scanS g) m (l.map (·.1)) ((cs z).drop here) = none → scanS (g + 1) ((cs z).drop a) = none := fun h => by
      rw [hsc, go, h]
      rfl
    have hlen : ps.length = l.length := by
      rw [hfs.len, Tr.fields_of]
    refine ⟨true, rfl, ?_⟩
    refine iteT ?_
    refine ⟨fun σ' H' => ∃ l here n y5 y6, n < m ∧ σ' = [some (.str z), some (.int (a : Nat)), some (.int ((g + 1 : Nat) : Int)), some (.ref b), some (.int (here : Nat)), y5, y6, none, none] ∧ ScI H H' z g s0 b l here n, ?_, ?_⟩
    · rintro σ' H' ⟨l', here', n', y5', y6', hlt, rfl, I'⟩
      exact ⟨n', hlt, l', here', n', y5', y6', rfl, rfl, I'⟩
    -- word = scan_word(text, here)
    refine ⟨_, rfl, _, rfl, z, here, rfl, hz, le, fun H2 s2 => ?_⟩
    have same2 := same.trans s2
    cases hw : scanW ((cs z).drop here) with
    | none =>
      refine ⟨_, rfl, rfl, _, rfl, ?_⟩
      refine iteT ?_
      exact ⟨_, rfl, (by show 2 ≤ sizeLine; decide), none_out (bad (scanF_none1 hw)) H2 same2⟩
    | some wd =>
      obtain ⟨gw, r0, hr0⟩ := scanW_some hw
      have w8 := (isWord_len gw).2
      have hlr : ((cs z).drop here).length = wd.length + (r0.length + 2) := by
        rw [hr0, List.length_append, cs_len]
        rfl
      rw [List.length_drop, cs_len] at hlr
      refine ⟨_, rfl, rfl, _, rfl, ?_⟩
      refine iteF ?_
      refine ⟨_, rfl, b, ps, rfl, .inl (.inl (.inl (s2 _ _ hps))), rfl, _, rfl, ?_⟩
      refine iteE (dI _ _) (fun e4 => ?_) (fun e4 => ?_)
      · have h4 : ((ps.length : Nat) : Int) = 3 := of_decide_eq_true e4
        have hm0 : m = 0 := by omega
        refine iteT ?_
        refine ⟨_, rfl, (by show 2 ≤ sizeLine; decide), none_out (bad ?_) H2 same2⟩
        rw [hm0]
        rfl
      have h4 : ¬ ((ps.length : Nat) : Int) = 3 := of_decide_eq_false e4
      obtain ⟨n', rfl⟩ : ∃ n', m = n' + 1 := ⟨m - 1, by omega⟩
      -- word in [name for name, field in fields]
      refine ⟨_, rfl, _, rfl, b, rfl, ⟨_, .inl (.inl (s2 _ _ hps))⟩, fun D hD => ?_⟩
      refine lcM (walk_list (xs := ps)) l hlen.symm (fun p => some (.str p.1)) (fun H s => s.seq (.inl (.inl (s2 _ _ hps)))) (sz5 (by omega)) hD (fun i x p H' hx hp s' => ?_) (fun H3 s3 d3 => ?_)
      · obtain ⟨pa, qv, g1, g2, _⟩ := hfs.get (m := p) (by rw [Tr.fields_of]; exact hp)
        rw [g1] at hx
        cases hx
        intro Q1 Q0 h1 h0
        exact ⟨pa, _, rfl, .inl (.inl (s' _ _ (s2 _ _ g2))), rfl, _, _, rfl, _, _, rfl, rfl, rfl, _, rfl, h1 _ _ rfl (Same.refl _)⟩
      have el : (l.filterMap fun p => some (V.str p.1)) = (l.map (·.1)).map V.str := by
        rw [List.filterMap_eq_map', List.map_map]
        rfl
      rw [el] at d3
      have same3 := same2.trans s3
      refine ⟨D, _, rfl, .inl (.inl (.inl d3)), rfl, Ub.flat_strs _, _, rfl, ?_⟩
      refine iteE (c := decide (wd ∈ l.map fun p : Str × Tr => p.1)) (by show inV (.str wd) ((l.map fun p : Str × Tr => p.1).map V.str) = _; exact inV_str _ _) (fun e5 => ?_) (fun e5 => ?_)
      · exact ⟨_, rfl, (by show 2 ≤ sizeLine; decide), none_out (bad (scanF_none2 hw (of_decide_eq_true e5))) H3 same3⟩
      have hk : wd ∉ l.map (·.1) := of_decide_eq_false e5
      -- tree, here = scan_shape(..)
      refine ⟨_, rfl, _, rfl, _, rfl, wd, rfl, sz5 (by omega), _, _, rfl, rfl, _, _, rfl, rfl, _, rfl, _, _, rfl, rfl, z, here + wd.length + 2, g, ?_, hz, by omega, by omega, by omega, fun H4 p s4 out => ?_⟩
      · have e1 : ((here : Int) + (wd.length : Int)) + 2 = ((here + wd.length + 2 : Nat) : Int) := by omega
        have e2 : ((g + 1 : Nat) : Int) - 1 = ((g : Nat) : Int) := by omega
        show [V.str z, V.int (((here : Int) + (wd.length : Int)) + 2), V.int (((g + 1 : Nat) : Int) - 1)] = _
        rw [e1, e2]
      have same4 := same3.trans s4
      have hdd : ((cs z).drop here).drop (wd.length + 2) = (cs z).drop (here + wd.length + 2) := by
        rw [List.drop_drop, Nat.add_assoc]
      cases hsc2 : scanS g ((cs z).drop (here + wd.length + 2)) with
      | none =>
        rw [hsc2] at out
        have out : H4 p = some (.tup [.non, .int ((here + wd.length + 2 : Nat) : Int)]) := out
        refine ⟨p, _, rfl, .inl (.inl out), rfl, _, _, rfl, _, _, rfl, rfl, ?_⟩
        refine ⟨_, rfl, rfl, _, rfl, ?_⟩
        refine iteT ?_
        exact ⟨_, rfl, (by show 2 ≤ sizeLine; decide), none_out (bad (scanF_none3 hw (by rw [hdd]; exact hsc2))) H4 same4⟩
      | some pr =>
        obtain ⟨t, r⟩ := pr
        rw [hsc2] at out
        obtain ⟨qv, ht, hp⟩ := out
        obtain ⟨fine, hpre⟩ := scanS_out _ _ _ _ hsc2
        have hall : cs z = ((cs z).take (here + wd.length + 2) ++ tcs t) ++ r := by
          rw [List.append_assoc, ← hpre, List.take_append_drop]
        have hrl : r.length ≤ z.length := by
          have := congrArg List.length hall
          rw [List.length_append, cs_len] at this
          omega
        have hdr : (cs z).drop (z.length - r.length) = r := by
          have := drop_suf hall
          rwa [cs_len] at this
        generalize hn2 : z.length - r.length = here2 at hp hdr
        have le2 : here2 ≤ z.length := by omega
        have hr2 : r.length = z.length - here2 := by omega
        have hst : scanF (scanS g) (n' + 1) (l.map (·.1)) ((cs z).drop here) = nextF (scanS g) n' (l.map (·.1)) wd t r := scanF_step hw hk (by rw [hdd]; exact hsc2)
        rw [hst] at go bad
        refine ⟨p, _, rfl, .inl (.inl hp), rfl, _, _, rfl, _, _, rfl, rfl, ?_⟩
        obtain ⟨ta, tps, rfl, hta, hfa⟩ := id ht
        refine ⟨_, rfl, rfl, _, rfl, ?_⟩
        refine iteF ?_
        -- fields.append((word, tree))
        have hb4 : H4 b = some (.lst ps) := s4 _ _ (s3 _ _ (s2 _ _ hps))
        refine ⟨_, rfl, .inl ⟨rfl, _, .inl (.inl hb4)⟩, _, rfl, _, rfl, (by show 2 ≤ sizeLine; decide), fun u nu => ?_⟩
        have nbu : b ≠ u := ne_of_none hb4 nu
        have su := same_upd (o := .tup [.str wd, .ref ta]) nu
        refine ⟨b, ps, _, rfl, rfl, su _ _ hb4, small1000 (by omega), ?_⟩
        refine absH fun H5 eH => ?_
        have nb4 : H b = none := nb
        have same5 : Same H H5 := fun c o e => by
          rw [eH, upd_ne (ne_of_none e nb4)]
          exact su _ _ (same4 _ _ e)
        have s45 : ∀ c o, H4 c = some o → c ≠ b → H5 c = some o := fun c o e hc => by
          rw [eH, upd_ne hc]
          exact su _ _ e
        have hb5 : H5 b = some (.lst (ps ++ [.ref u])) := by rw [eH, upd_same]
        have hu5 : H5 u = some (.tup [.str wd, .ref ta]) := by
          rw [eH, upd_ne nbu.symm]
          exact upd_same
        have tupne : ∀ {c : Addr} {xs : List V}, H4 c = some (.tup xs) → H5 c = some (.tup xs) := fun {c xs} e => s45 _ _ e (ne_of e hb4 (by intro z; cases z))
        clear eH
        have mono : ∀ {tt : Tr} {qs : List V}, FsAt H4 tt qs → FsAt H5 tt qs := fun {tt qs} => FsAt.tups (fun c xs e => tupne e)
        have hfs5 : FsAt H5 (.ofFields (l ++ [(wd, t)])) (ps ++ [.ref u]) := FsAt.snoc (mono (hfs.same ((s2.trans s3).trans s4))) hu5 ⟨ta, tps, rfl, tupne hta, mono hfa⟩
        -- if text[here:here + 1] == '}'
        refine ⟨_, rfl, _, rfl, _, rfl, _, rfl, _, _, rfl, rfl, _, rfl, z, rfl, sz5 hz, rfl, _, rfl, ?_⟩
        refine iteE (cut1_eq le2 cs_shut) (fun e6 => ?_) (fun e6 => ?_)
        · have e6 : ((cs z).drop here2).take 1 = [125] := of_decide_eq_true e6
          rw [hdr] at e6
          obtain ⟨r', hr', hnx⟩ := nextF_end (scan := scanS g) (n := n') (known := l.map (·.1)) (w := wd) (t := t) e6
          rw [hsc, go, hnx] at q
          refine ⟨_, rfl, b, _, rfl, .inl ⟨.inl (.inl hb5), fun v nv => ?_⟩⟩
          refine ⟨_, rfl, _, _, rfl, rfl, (by show 2 ≤ sizeLine; decide), fun o no => ?_⟩
          have sv := same_upd (o := .tup (ps ++ [.ref u])) nv
          have so := same_upd (o := .tup [.ref v, .int ((here2 : Int) + 1)]) no
          refine q _ o ((same5.trans sv).trans so) ⟨.ref v, ⟨v, _, rfl, so _ _ upd_same, ?_⟩, ?_⟩
          · show FsAt _ (prep l (.cons wd t .nil)) _
            rw [← prep_snoc, prep_nil]
            exact hfs5.same (sv.trans so)
          · have hl' : r.length = r'.length + 1 := by rw [hr']; rfl
            have e7 : ((here2 : Nat) : Int) + 1 = ((z.length - r'.length : Nat) : Int) := by omega
            rw [← e7]
            exact upd_same
        have e6 : ¬ ((cs z).drop here2).take 1 = [125] := of_decide_eq_false e6
        rw [hdr] at e6
        refine ⟨_, rfl, _, rfl, _, rfl, _, rfl, _, _, rfl, rfl, _, rfl, z, rfl, sz5 hz, rfl, _, rfl, ?_⟩
        have ec := cut2_eq (z := z) (x := ", ") le2 cs_comma
        refine iteE (c := !decide (((cs z).drop here2).take 2 = [44, 32])) (by rw [← ec]) (fun e7 => ?_) (fun e7 => ?_)
        · have e7 : ¬ ((cs z).drop here2).take 2 = [44, 32] := by simpa using e7
          rw [hdr] at e7
          exact ⟨_, rfl, (by show 2 ≤ sizeLine; decide), none_out (bad (nextF_bad e6 e7)) H5 same5⟩
        have e7 : ((cs z).drop here2).take 2 = [44, 32] := by simpa using e7
        rw [hdr] at e7
        obtain ⟨r', hr', hnx⟩ := nextF_on (scan := scanS g) (n := n') (known := l.map (·.1)) (w := wd) (t := t) e7
        have hl' : r.length = r'.length + 2 := by rw [hr']; rfl
        refine ⟨_, rfl, _, _, rfl, rfl, l ++ [(wd, t)], here2 + 2, n', some (.str wd), some (.ref ta), Nat.lt_succ_self _, ?_, same5, ⟨_, hb5, hfs5⟩, ?_, by omega, ?_⟩
        · have e8 : ((here2 + 2 : Nat) : Int) = (here2 : Int) + 2 := by omega
          rw [e8]
          rfl
        · rw [List.length_append]
          show l.length + 1 + n' = 3
          omega
        · rw [go, hnx, ← List.drop_drop, hdr, hr', List.map_append]
          show Option.map _ (Option.map _ (scanF (scanS g) n' (l.map (·.1) ++ [wd]) r')) = Option.map _ (scanF (scanS g) n' (l.map (·.1) ++ [wd]) r')
          cases scanF (scanS g) n' (l.map (·.1) ++ [wd]) r' with
          | none => rfl
          | some p =>
            show some (prep l (.cons wd t p.1), p.2) = some (prep (l ++ [(wd, t)]) p.1, p.2)
            rw [prep_snoc]
end
end Lx
namespace Lx
open PySem PySem.Spec PyProof.Rows L2 Ub Ur Up
section
variable {P : Program} {w : World} {K : PySem.W.Frag} {mg : Str → Option Value} {base : Heap}
theorem sc_is_bounded : FnScope ["tree"] ["tree"] (defScope s_is_bounded) := ⟨rfl, rfl, rfl, by decide +kernel, rfl, by decide +kernel, by decide +kernel⟩
theorem ok_is_bounded {f : Addr} {fd : FuncData} (F : FunD K "is_bounded" "is_bounded" (defArgs s_is_bounded) (defBody s_is_bounded) (defScope s_is_bounded) [] [] f fd) (T : Tx K mg) (c_records_of : Cal P w K mg base 4 "records_of" ["tree"] (sp_tree 4 fun t => .int (t.recs : Nat))) (c_plains_of : Cal P w K mg base 4 "plains_of" ["tree"] (sp_tree 4 fun t => .int (t.plains : Nat))) : FnOk P w K mg base CX0 5 f fd ["tree"] sp_bounded := by
  refine F.ok sc_is_bounded (fun vs H Q E h => ?_) (fun cdv A outer s H vs Q E hr h => ?_)
  · obtain ⟨t, v, rfl, _⟩ := h
    rfl
  obtain ⟨t, v, rfl, ht, hd, hsz, hsh, q⟩ := h
  refine ⟨_, PSs.nox (pss_one (ps_ret (pe_and (pe_cmpR op_le (pe_cal c_records_of (hr.mono (by omega)) (by rfl) (pa_cons (pv 0) pa_nil)) (pe_globI (by rfl) T.c_MOST_RECORDS) (nomark _)) (pe_one (pe_cmpR op_le (pe_cal c_plains_of (hr.mono (by omega)) (by rfl) (pa_cons (pv 0) pa_nil)) (pe_globI (by rfl) T.c_MOST_PLAINS) (nomark _)))))), ?_⟩
  refine ⟨_, rfl, t, v, rfl, ht, hd, hsz, hsh, fun H1 s1 => ?_⟩
  refine ⟨_, _, rfl, rfl, _, rfl, ?_⟩
  refine iteE rfl (fun e => ?_) fun e => ?_
  · have e1 : t.recs ≤ 5 := by have := of_decide_eq_true e; omega
    refine ⟨_, rfl, t, v, rfl, ht.same s1, hd, hsz, hsh, fun H2 s2 => ?_⟩
    refine ⟨_, _, rfl, rfl, ?_⟩
    have z := q H2 (s1.trans s2)
    have ed : decide (t.recs ≤ 5 ∧ t.plains ≤ 5) = decide (((t.plains : Nat) : Int) ≤ 5) := by
      by_cases h : t.plains ≤ 5
      · rw [decide_eq_true (⟨e1, h⟩ : t.recs ≤ 5 ∧ t.plains ≤ 5), decide_eq_true (by omega)]
      · rw [decide_eq_false (fun y : t.recs ≤ 5 ∧ t.plains ≤ 5 => h y.2), decide_eq_false (by omega)]
    rw [ed] at z
    exact z
  · have e1 : ¬ t.recs ≤ 5 := by have := of_decide_eq_false e; omega
    have z := q H1 s1
    rw [decide_eq_false (fun y : t.recs ≤ 5 ∧ t.plains ≤ 5 => e1 y.1)] at z
    exact z
theorem sc_tree_of : FnScope ["text", "tree", "here"] ["text"] (defScope s_tree_of) := ⟨rfl, rfl, rfl, by decide +kernel, rfl, by decide +kernel, by decide +kernel⟩
theorem ok_tree_of {f : Addr} {fd : FuncData} (F : FunD K "tree_of" "tree_of" (defArgs s_tree_of) (defBody s_tree_of) (defScope s_tree_of) [] [] f fd) (T : Tx K mg) (c_is_bounded : Cal P w K mg base 5 "is_bounded" ["tree"] sp_bounded) (c_scan_shape2 : CalD P w K mg base 6 "scan_shape" ["text", "at", "floors"] [.int 3] (sp_scan 4)) : FnOk P w K mg base CX0 7 f fd ["text"] (sp_tree_of K) := by
  refine F.ok sc_tree_of (fun vs H Q E h => ?_) (fun cdv A outer s H vs Q E hr h => ?_)
  · obtain ⟨x, rfl, _⟩ := h
    rfl
  obtain ⟨x, rfl, h⟩ := h
  refine ⟨_, PSs.nox (pss_cons (ps_if (pt_not (pt_val (pe_callB (call_isiK' K) (by rfl) T.isinstance (by decide +kernel) (pa_cons (pv 0) (pa_cons (pe_bltn (v := .ty "str") (by rfl) T.str (by decide +kernel) rfl) pa_nil)))))
        (pss_one (ps_ret pe_non))
        pss_nil)
      (pss_cons (ps_asg (pe_calD c_scan_shape2 (hr.mono (by omega)) (by rfl) (pa_cons (pv 0) (pa_cons pe_int pa_nil))) (pg_tupK K (n := 2) rfl (pgs_cons (pg_name (i := 1) sc_tree_of.nd rfl (by first | exact Or.inl rfl | exact Or.inr rfl)) (pgs_cons (pg_name (i := 2) sc_tree_of.nd rfl (by first | exact Or.inl rfl | exact Or.inr rfl)) pgs_nil))))
      (pss_cons (ps_if (PW.pt (pw_or (pt_cmpR op_isN (pv 1) pe_non (nomark _)) (pw_or (pt_cmpR op_ne (pv 2) (pe_callB call_len_str (by rfl) T.len (by decide +kernel) (pa_cons (pv 0) pa_nil)) (nomark _)) (pw_or1 (pt_not (pt_val (pe_cal c_is_bounded (hr.mono (by omega)) (by rfl) (pa_cons (pv 1) pa_nil))))))))
        (pss_one (ps_ret pe_non))
        pss_nil)
      (pss_one (ps_ret (pv 1)))))), ?_⟩
  rcases h with ⟨z, rfl, hz, q⟩ | ⟨⟨T0, ht, hk⟩, q⟩
  · refine ⟨_, rfl, _, _, _, _, true, rfl, .ty "str", .base (.str z), kit_ty (by decide +kernel), true, rfl, ?_⟩
    refine iteE (c := false) rfl (fun z => nomatch z) fun _ => ?_
    refine ⟨_, rfl, z, 0, 3, rfl, hz, Nat.zero_le _, by decide, by decide, fun H1 p s1 ho => ?_⟩
    have e0 : (cs z).drop 0 = cs z := rfl
    rw [e0] at ho
    cases hs : scanS 3 (cs z) with
    | none =>
      rw [hs] at ho
      have q1 : Q .non H1 := by
        have y := q H1 s1
        unfold shapeOf at y
        rw [hs] at y
        exact y
      have ho : H1 p = some (.tup [.non, .int ((0 : Nat) : Int)]) := ho
      refine ⟨p, _, rfl, .inl (.inl ho), rfl, _, _, rfl, _, _, rfl, rfl, ?_⟩
      refine ⟨_, rfl, rfl, _, rfl, ?_⟩
      exact iteT (iteT q1)
    | some tr =>
      obtain ⟨t, r⟩ := tr
      rw [hs] at ho
      obtain ⟨v, hv, hp⟩ := ho
      obtain ⟨hf, he⟩ := scanS_out 3 _ _ _ hs
      obtain ⟨h1, h2, h3⟩ := fine_has 3 t hf
      have hb := bnd3 (Nat.le_refl 3)
      have lz : (cs z).length = z.length := by simp [cs, Str.length]
      have lr : r.length ≤ z.length := by rw [← lz, he, List.length_append]; omega
      have nv : v ≠ .non := by
        obtain ⟨a, ps, e, _⟩ := hv
        rw [e]
        exact fun z => nomatch z
      refine ⟨p, _, rfl, .inl (.inl hp), rfl, _, _, rfl, _, _, rfl, rfl, ?_⟩
      refine ⟨_, rfl, rfl, _, rfl, ?_⟩
      refine iteN nv ?_
      refine ⟨_, rfl, _, rfl, z, rfl, sz5 hz, rfl, _, rfl, ?_⟩
      cases r with
      | cons c r =>
        have q1 : Q .non H1 := by
          have y := q H1 s1
          unfold shapeOf at y
          rw [hs] at y
          exact y
        refine iteNY (fun e => ?_) (iteT q1)
        have e := V.int.inj e
        rw [List.length_cons] at e lr
        omega
      | nil =>
        refine iteNN (by rw [List.length_nil, Nat.sub_zero]) ?_
        refine ⟨_, rfl, t, v, rfl, hv, by omega, by omega, h3, fun H2 s2 => ?_⟩
        refine ⟨_, rfl, ?_⟩
        have y := q H2 (s1.trans s2)
        unfold shapeOf at y
        rw [hs] at y
        by_cases hbd : t.recs ≤ 5 ∧ t.plains ≤ 5
        · have y2 : ∀ v, TrAt H2 t v → Q v H2 := by simpa only [if_pos hbd] using y
          refine iteE (c := false) (by rw [decide_eq_true hbd]; rfl) (fun z => nomatch z) fun _ => ?_
          exact ⟨_, rfl, y2 v (hv.same s2)⟩
        · have y2 : Q .non H2 := by simpa only [if_neg hbd] using y
          refine iteE (c := true) (by rw [decide_eq_false hbd]; rfl) (fun _ => y2) fun z => nomatch z
  · refine ⟨_, rfl, _, _, _, _, false, rfl, .ty "str", ht, kit_ty hk, false, rfl, ?_⟩
    exact iteT (q H (Same.refl _))
end
end Lx
namespace Lx
open PySem PySem.Spec PyProof.Rows L2 Ub Ur Ug Ue Up
section
variable {P : Program} {w : World} {K : PySem.W.Frag} {mg : Str → Option Value} {base : Heap}
theorem sc_Shape___init__ : FnScope ["self", "text", "tree", "spots", "word", "path", "shape", "field"] ["self", "text"] (defScope s_Shape___init__) := ⟨rfl, rfl, rfl, by decide +kernel, rfl, by decide +kernel, by decide +kernel⟩
theorem ok_Shape {fd : FuncData} (F : Df K ("Shape", some "__init__") "__init__" "Shape.__init__" s_Shape___init__ [] fd) (T : Tx K mg) (hb : Binds K fd ["self", "text"] []) (c_tree_of : Cal P w K mg base 7 "tree_of" ["text"] (sp_tree_of K)) (c_text_of : Cal P w K mg base 4 "text_of" ["tree"] (sp_tree 4 fun t => .str t.text)) (x_BadShape : CalX P w K mg base 1 "BadShape" (He.ga K "BadShape") "text") :
    ∀ d, FnOk P w K mg base (CX P w) (8 + 2 * d) (He.fAd K ("Shape", some "__init__")) fd ["self", "text"] (sp_shape K (He.ga K "Shape") (He.ga K "BadShape") d)
  | 0 => ⟨fun vs H Q E h => by obtain ⟨x, y, dx, rfl, _⟩ := h; rfl, fun A outer s H args us vs Q E _ _ _ _ h => by
      obtain ⟨x, y, dx, _, _, h⟩ := h
      rcases h with ⟨t, _, h, _⟩ | ⟨h, _⟩
      · exact absurd h (Nat.not_lt_zero _)
      · exact absurd h (Nat.lt_irrefl _)⟩
  | d + 1 => by
    have m_Shape : CalM P w K mg base (8 + 2 * d) "Shape" (He.ga K "Shape") ["self", "text"] (sp_shape K (He.ga K "Shape") (He.ga K "BadShape") d) := ⟨_, fd, T.m_Shape, ok_Shape F T hb c_tree_of c_text_of x_BadShape d, T.g_Shape, hb⟩
    rw [show 8 + 2 * (d + 1) = (9 + 2 * d) + 1 by omega]
    refine F.ok (k := 9 + 2 * d) sc_Shape___init__ (fun vs H Q E h => by obtain ⟨x, y, dx, rfl, _⟩ := h; rfl) (fun cdv A outer s H vs Q E hr h => ?_)
    obtain ⟨x, y, dx, rfl, hx, h⟩ := h
    refine ⟨_, (pss_cons (ps_set (i := 2) sc_Shape___init__.nd rfl (by first | exact Or.inl rfl | exact Or.inr rfl) (pe_cal c_tree_of (hr.mono (by omega)) (by rfl) (pa_cons (pv 1) pa_nil)))
      (pss_cons (ps_if (pt_cmpR op_isN (pv 2) pe_non (nomark _))
        (pss_one (ps_raiseX x_BadShape rfl (takes_of rfl rfl rfl rfl) (hr.mono (by omega)) (by rfl) (pv 1)))
        pss_nil)
      (pss_cons (ps_fld (pv 0) (pv 1) rfl)
      (pss_cons (ps_fld (pv 0) (pv 2) rfl)
      (pss_cons (ps_fld (pv 0) (pe_callTy (call_tuple_ofK K) (by rfl) T.tuple (by decide +kernel) (pa_cons (pe_lc (own := [("word", 4), ("field", 7)]) (by rfl) sc_Shape___init__.nd (pi_tupK K (pv 2)) (blkOk_by (N := ["self", "text", "tree", "spots", "word", "path", "shape", "field"]) (sc := (defScope s_Shape___init__)) (by decide +kernel)) (fun _ _ _ _ _ => (pg_tupK K (n := 2) rfl (pgs_cons (pg_name (i := 4) sc_Shape___init__.nd rfl (by first | exact Or.inl rfl | exact Or.inr rfl)) (pgs_cons (pg_name (i := 7) sc_Shape___init__.nd rfl (by first | exact Or.inl rfl | exact Or.inr rfl)) pgs_nil)))) (fun _ _ _ _ _ => pts_nil) (fun _ _ _ _ _ => (pv 4))) pa_nil)) rfl)
      (pss_cons (ps_fld (pv 0) (pe_dc (own := [("word", 4), ("field", 7)]) (by rfl) sc_Shape___init__.nd (pi_tupK K (pv 2)) (blkOk_by (N := ["self", "text", "tree", "spots", "word", "path", "shape", "field"]) (sc := (defScope s_Shape___init__)) (by decide +kernel)) (fun _ _ _ _ _ => (pg_tupK K (n := 2) rfl (pgs_cons (pg_name (i := 4) sc_Shape___init__.nd rfl (by first | exact Or.inl rfl | exact Or.inr rfl)) (pgs_cons (pg_name (i := 7) sc_Shape___init__.nd rfl (by first | exact Or.inl rfl | exact Or.inr rfl)) pgs_nil)))) (fun _ _ _ _ _ => pts_nil) (fun _ _ _ _ _ => (pv 4)) (fun _ _ _ _ _ => (pe_makeS m_Shape (fun _ => passE0) (hr.mono (by omega)) (by rfl) (pa_cons (pe_cal c_text_of (hr.mono (by omega)) (by rfl) (pa_cons (pv 7) pa_nil)) pa_nil)))) rfl)
      (pss_cons (ps_set (i := 3) sc_Shape___init__.nd rfl (by first | exact Or.inl rfl | exact Or.inr rfl) (pe_disp (pps_cons pe_str (pv 0) pps_nil) rfl rfl (by simp) (by decide)))
      (pss_cons (ps_for (passes_of rfl) rfl (pi_tupK K (pe_fldK K (pv 0) rfl)) (pg_name (i := 4) sc_Shape___init__.nd rfl (by first | exact Or.inl rfl | exact Or.inr rfl))
        (pss_one (ps_lock (ps_for (passes_of rfl) rfl (pi_items (pe_fldK K (pe_dget (units1 hr) (pe_fldK K (pv 0) rfl) (pv 4) (fun _ _ => rfl)) rfl)) (pg_tupK K (n := 2) rfl (pgs_cons (pg_name (i := 5) sc_Shape___init__.nd rfl (by first | exact Or.inl rfl | exact Or.inr rfl)) (pgs_cons (pg_name (i := 6) sc_Shape___init__.nd rfl (by first | exact Or.inl rfl | exact Or.inr rfl)) pgs_nil)))
            (pss_one (ps_dput (units1 hr) (pv 3) (pe_op op_add_str (pe_op op_add_str pe_str (pv 4)) (pe_op op_mul_si (pv 5) (pe_callTy call_int1 (by rfl) T.int (by decide +kernel) (pa_cons (pe_cmpR op_ne (pv 5) pe_str (nomark _)) pa_nil)))) (pv 6) rfl))))))
      (pss_one (ps_fld (pv 0) (pv 3) rfl)))))))))), ?_⟩
    rcases h with h | ⟨_, hbad, qe⟩
    rotate_left
    · -- no shape
      rcases hbad with ⟨z, rfl, hz, hn⟩ | hn
      · refine ⟨_, rfl, _, rfl, .inl ⟨z, rfl, hz, fun H1 s1 => ?_⟩⟩
        rw [hn]
        refine ⟨_, rfl, rfl, _, rfl, ?_⟩
        exact iteT ⟨_, rfl, mkX fun e H2 s2 ne he => qe e H2 (s1.trans s2) (s1.free ne) he⟩
      · refine ⟨_, rfl, _, rfl, .inr ⟨hn, fun H1 s1 => ?_⟩⟩
        refine ⟨_, rfl, rfl, _, rfl, ?_⟩
        exact iteT ⟨_, rfl, mkX fun e H2 s2 ne he => qe e H2 (s1.trans s2) (s1.free ne) he⟩
    obtain ⟨t, hg, hd, rfl, q⟩ := h
    obtain ⟨hdep, hsz, hsh⟩ := good_has hg
    obtain ⟨gf, gn⟩ := good_fields hg
    have hlen := (Tr.join_le hsh).2
    refine ⟨_, rfl, _, rfl, .inl ⟨t.text, rfl, by omega, fun H1 s1 => ?_⟩⟩
    rw [shapeOf_in hg]
    intro v hv
    obtain ⟨a, ps, rfl, ha, hf⟩ := id hv
    have lp := hf.len
    have lf := t.fields_len
    refine ⟨_, rfl, rfl, _, rfl, ?_⟩
    refine iteN (fun z => nomatch z) ?_
    -- self.text, self.tree
    have hx1 := s1 _ _ hx
    refine ⟨_, rfl, _, rfl, x, _, dx, _, rfl, hx1, T.k_Shape, T.n_Shape_text, by decide, ?_⟩
    refine ⟨_, rfl, _, rfl, x, _, dx, _, rfl, upd_same, T.k_Shape, T.n_Shape_tree, (by show 1 < 1000; decide), ?_⟩
    refine absH fun J1 eJ1 => ?_
    have kJ1 : ∀ b o, H b = some o → b ≠ x → J1 b = some o := fun b o h z => by
      rw [eJ1, upd_ne z, upd_ne z]
      exact s1 _ _ h
    have k1 : ∀ b o, H1 b = some o → b ≠ x → J1 b = some o := fun b o h z => by rw [eJ1, upd_ne z, upd_ne z]; exact h
    have xJ1 : J1 x = some (.ins (He.ga K "Shape") dx [("text", .str t.text), ("tree", .ref a)]) := by
      rw [eJ1, upd_same, putF_snoc (fs := []) (by decide), putF_snoc (show ("tree" : Str) ∉ [("text" : Str)] by decide)]
      rfl
    have tup1 : ∀ c xs, H1 c = some (.tup xs) → J1 c = some (.tup xs) := fun c xs z => k1 _ _ z fun e => by
      rw [e, hx1] at z
      cases z
    clear eJ1
    have ha1 := tup1 _ _ ha
    have hf1 : FsAt J1 t ps := hf.tups tup1
    -- self.names
    refine ⟨_, rfl, a, rfl, ⟨_, .inl (.inl ha1)⟩, fun D nD => ?_⟩
    refine lcM (walk_tup (xs := ps)) t.fields lp.symm (fun m => some (.str m.1)) (fun H s => Same.tup s (.inl (.inl ha1))) (sz4 (by omega)) nD (fun i z m H' hz hm s' => ?_) (fun J2 s2 d2 => ?_)
    · obtain ⟨p, q', g1, g2, g3⟩ := hf1.get hm
      rw [g1] at hz
      cases hz
      intro Q1 Q0 h1 h0
      exact ⟨p, _, rfl, .inl (.inl (s' _ _ g2)), rfl, _, _, rfl, _, _, rfl, rfl, rfl, _, rfl, h1 _ _ rfl (Same.refl _)⟩
    rw [List.filterMap_eq_map'] at d2
    refine ⟨D, _, rfl, .inl ⟨.inl (.inl d2), fun na nna => ?_⟩⟩
    have xJ2 := same_upd (o := .tup (t.fields.map fun m => V.str m.1)) nna _ _ (s2 _ _ xJ1)
    refine ⟨_, rfl, x, _, dx, _, rfl, xJ2, T.k_Shape, T.n_Shape_names, (by show 2 < 1000; decide), ?_⟩
    refine absH fun J3 eJ3 => ?_
    have nax : na ≠ x := fun e => by
      rw [e, s2 _ _ xJ1] at nna
      cases nna
    have k3 : ∀ b o, J1 b = some o → b ≠ x → J3 b = some o := fun b o h z => by
      rw [eJ3, upd_ne z]
      exact same_upd nna _ _ (s2 _ _ h)
    have kH3 : ∀ b o, H b = some o → b ≠ x → J3 b = some o := fun b o h z => k3 _ _ (kJ1 _ _ h z) z
    have xJ3 : J3 x = some (.ins (He.ga K "Shape") dx [("text", .str t.text), ("tree", .ref a), ("names", .ref na)]) := by
      rw [eJ3, upd_same, putF_snoc (show ("names" : Str) ∉ [("text" : Str), "tree"] by decide)]
      rfl
    have naJ3 : J3 na = some (.tup (t.fields.map fun m => V.str m.1)) := by rw [eJ3, upd_ne nax, upd_same]
    have tup3 : ∀ c xs, J1 c = some (.tup xs) → J3 c = some (.tup xs) := fun c xs z => k3 _ _ z fun e => by
      rw [e, xJ1] at z
      cases z
    clear eJ3
    have ha3 := tup3 _ _ ha1
    have hf3 : FsAt J3 t ps := hf1.tups tup3
    -- self.fields
    refine ⟨_, rfl, a, rfl, ⟨_, .inl (.inl ha3)⟩, fun D' nD' => ?_⟩
    refine dc_tup (xs := ps) (fun i G => ∃ g : Sg, g.tr.fields = t.fields.take i ∧ G D' = some (.dK g.dict) ∧ ShL (fun b => J3 b = none ∧ b ≠ D') (He.ga K "Shape") G g ∧ Same J3 G) ?_ (fun i G _ p => ?_) (fun i z G hz p => ?_) (fun G p => ?_)
    · exact ⟨.nil, rfl, upd_same, trivial, same_upd nD'⟩
    · obtain ⟨_, _, _, _, sG⟩ := p
      exact .inl (.inl (sG _ _ ha3))
    · obtain ⟨g, e1, e2, e3, sG⟩ := p
      have hi : i < t.fields.length := by
        rw [← lp]
        exact (List.getElem?_eq_some_iff.mp hz).1
      have hm : t.fields[i]? = some t.fields[i] := List.getElem?_eq_getElem hi
      generalize t.fields[i] = m at hm
      have hmm := List.mem_of_getElem? hm
      obtain ⟨p, q', g1, g2, g3⟩ := hf3.get hm
      rw [g1] at hz
      cases hz
      have dl := Tr.depth_lt hmm
      obtain ⟨md, ms, mh⟩ := good_has (gf m hmm).1
      refine ⟨p, _, rfl, .inl (.inl (sG _ _ g2)), rfl, _, _, rfl, _, _, rfl, rfl, rfl, _, rfl, ?_⟩
      refine ⟨_, rfl, m.2, q', rfl, g3.same sG, by omega, by omega, mh, fun G2 s2 x' dx' nx' ndx' hne => ?_⟩
      refine ⟨x', _, dx', rfl, upd_same, .inl ⟨m.2, (gf m hmm).1, by omega, rfl, fun g' G3 eg' k3' sh3 => ?_⟩⟩
      have D2 := s2 _ _ e2
      have s23 : Same G2 G3 := fun b o h => k3' b o (by rw [upd_ne (ne_of_none h nx'), upd_ne (ne_of_none h ndx')]; exact h) (ne_of_none h nx')
      have sG3 : Same G G3 := s2.trans s23
      have D3 := sG3 _ _ e2
      have ld := g.dict_len
      have lt : (t.fields.take i).length ≤ i := by rw [List.length_take]; omega
      refine ⟨rfl, g.dict, .inr m.1, rfl, D3, Nat.lt_of_le_of_lt (m := 1000) (by rw [ld, e1]; omega) (by decide), ?_⟩
      have fresh : m.1 ∉ g.tr.fields.map (·.1) := by
        rw [e1]
        intro z
        have nd := gn
        rw [← List.take_append_drop i t.fields, List.map_append] at nd
        have hdr : t.fields.drop i = m :: t.fields.drop (i + 1) := by
          rw [List.drop_eq_getElem_cons hi]
          have := (List.getElem?_eq_some_iff.mp hm).2
          rw [this]
        rw [hdr, List.map_cons] at nd
        exact (List.nodup_append.mp nd).2.2 _ z _ (List.mem_cons_self ..) rfl
      have kz : Kz (fun b => J3 b = none ∧ b ≠ D') G3 (upd G3 D' (.dK (putK g.dict (.inr m.1) (.ref x')))) := fun b o h _ z => by
        have hb : b ≠ D' := by
          rcases z with z | ⟨xs, z⟩
          · exact z.2
          · intro e
            rw [e, D3, z] at h
            cases h
        rw [upd_ne hb]
        exact h
      have x3 : J3 x' = none := sG.free (s2.free nx')
      have xD : x' ≠ D' := fun e => by
        rw [e, D2] at nx'
        cases nx'
      have shn : ShG (fun b => J3 b = none ∧ b ≠ D') (He.ga K "Shape") G3 x' g' := sh3.imp fun b z _ => by
        rcases z with z | z
        · rw [z]
          exact ⟨x3, xD⟩
        · have hbx : b ≠ x' := fun e => by
            rw [e, upd_same] at z
            cases z
          rw [upd_ne hbx] at z
          have hbd : b ≠ dx' := fun e => by
            rw [e, upd_same] at z
            cases z
          rw [upd_ne hbd] at z
          refine ⟨sG.free (s2.free z), fun e => ?_⟩
          rw [e, D2] at z
          cases z
      refine ⟨g.app (.cons m.1 x' g' .nil), ?_, ?_, ?_, fun b o h => ?_⟩
      · rw [Sg.app_tr, e1, List.take_add_one, hm]
        show _ ++ [(m.1, g'.tr)] = _
        rw [eg']
        rfl
      · rw [upd_same, Sg.put_new fresh, Sg.app_dict]
        rfl
      · exact ((e3.kz (kz_of sG3)).kz kz).app ⟨shn.1.kz kz, shn.2.kz kz, trivial⟩
      · rw [upd_ne (ne_of_none h nD')]
        exact sG3 _ _ (sG _ _ h)
    obtain ⟨g, e1, e2, e3, sG⟩ := p
    rw [lp, List.take_length] at e1
    have etr : g.tr = t := by rw [← Tr.of_fields g.tr, e1, Tr.of_fields]
    have xG := sG _ _ xJ3
    refine ⟨_, rfl, x, _, dx, _, rfl, xG, T.k_Shape, T.n_Shape_fields, (by show 3 < 1000; decide), ?_⟩
    refine absH fun J4 eJ4 => ?_
    have k4 : ∀ b o, G b = some o → b ≠ x → J4 b = some o := fun b o h z => by rw [eJ4, upd_ne z]; exact h
    have xJ4 : J4 x = some (.ins (He.ga K "Shape") dx [("text", .str t.text), ("tree", .ref a), ("names", .ref na), ("fields", .ref D')]) := by
      rw [eJ4, upd_same, putF_snoc (show ("fields" : Str) ∉ [("text" : Str), "tree", "names"] by decide)]
      rfl
    clear eJ4
    have k34 : ∀ b o, J3 b = some o → b ≠ x → J4 b = some o := fun b o h z => k4 _ _ (sG _ _ h) z
    have hDx : D' ≠ x := fun e => by
      rw [e, xJ3] at nD'
      cases nD'
    have D4 : J4 D' = some (.dK g.dict) := k4 _ _ e2 hDx
    have sh4 : ShL (fun b => J3 b = none ∧ b ≠ D') (He.ga K "Shape") J4 g := e3.kz fun b o h _ z => k4 _ _ h fun e => by
      rcases z with z | ⟨xs, z⟩
      · rw [e, xJ3] at z
        exact nomatch z.1
      · rw [e, xG, z] at h
        cases h
    -- spots = {'.': self}
    refine fun sa nsa => ?_
    refine ⟨_, rfl, upd_same, [(.inr ".", .ref x)], rfl, (by show 1 ≤ 15; decide), ?_⟩
    refine absH fun J5 eJ5 => ?_
    have saJ5 : J5 sa = some (.dK [(.inr ".", .ref x)]) := by rw [eJ5]; exact upd_same
    have s45 : Same J4 J5 := fun b o h => by
      have hb := ne_of_none h nsa
      rw [eJ5, upd_ne hb, upd_ne hb]
      exact h
    clear eJ5
    have sh5 : ShL (fun b => (J3 b = none ∧ b ≠ D') ∧ b ≠ sa) (He.ga K "Shape") J5 g := (sh4.imp (Z' := fun b => (J3 b = none ∧ b ≠ D') ∧ b ≠ sa) fun b z hn => ⟨z, fun e => hn (by rw [e]; exact nsa)⟩).kz (kz_of s45)
    have xJ5 := s45 _ _ xJ4
    have xsa : x ≠ sa := ne_of_none xJ4 nsa
    have D5 := s45 _ _ D4
    have Dsa : D' ≠ sa := ne_of_none D4 nsa
    have na5 : J5 na = some (.tup (t.fields.map fun m => V.str m.1)) := s45 _ _ (k34 _ _ naJ3 nax)
    have nasa : na ≠ sa := ne_of_none (k34 _ _ naJ3 nax) nsa
    refine ⟨_, rfl, x, _, dx, _, .ref na, rfl, xJ5, T.k_Shape, T.n_Shape_names, (by rfl), na, rfl, ⟨_, .inl (.inl na5)⟩, ?_⟩
    refine for_it (walk_tup (K := K) (a := na) (xs := t.fields.map fun m => V.str m.1)) (fun i σ G => ∃ (y4 y5 y6 : Option V) (g1 g2 : Sg), σ = [some (.ref x), some (.str t.text), some (.ref a), some (.ref sa), y4, y5, y6, none] ∧ g = g1.app g2 ∧ g1.tr.fields.length = i ∧ G sa = some (.dK (g1.puts [(.inr ".", .ref x)])) ∧ ∀ b o, J5 b = some o → b ≠ sa → G b = some o) ?_ (fun i σ G _ p => ?_) (fun i z σ G G' hi p y => ?_) (fun σ G p => ?_)
    · exact ⟨none, none, none, .nil, g, rfl, rfl, rfl, saJ5, fun b o h _ => h⟩
    · obtain ⟨_, _, _, _, _, _, _, _, _, k⟩ := p
      exact .inl (.inl (k _ _ na5 nasa))
    · obtain ⟨y4, y5, y6, g1, g2, rfl, eg, lg, saG, kG⟩ := p
      obtain ⟨rfl, hz⟩ := y
      rw [List.getElem?_map] at hz
      cases hm : t.fields[i]? with
      | none => rw [hm] at hz; cases hz
      | some m =>
      rw [hm] at hz
      cases hz
      have hmm := List.mem_of_getElem? hm
      have ef := Sg.app_tr g1 g2
      rw [← eg, e1] at ef
      cases g2 with
      | nil =>
        rw [show (Sg.nil).tr.fields = [] from rfl, List.append_nil] at ef
        rw [ef, List.getElem?_eq_none (by omega)] at hm
        cases hm
      | cons wd p sub r =>
      have em : m = (wd, sub.tr) := by
        rw [ef, List.getElem?_append_right (by omega), lg, Nat.sub_self] at hm
        exact (Option.some.inj hm).symm
      subst em
      have fresh : wd ∉ g1.tr.fields.map (·.1) := fun z => by
        have nd := gn
        rw [ef, List.map_append] at nd
        exact (List.nodup_append.mp nd).2.2 _ z _ (by show wd ∈ wd :: r.tr.fields.map (·.1); exact List.mem_cons_self ..) rfl
      obtain ⟨gs, gw⟩ := gf _ hmm
      obtain ⟨sd, ss, ssh⟩ := good_has gs
      have lw : wd.length ≤ 8 := (isWord_len gw).2
      have sh6 : ShL (fun b => (J3 b = none ∧ b ≠ D') ∧ b ≠ sa) (He.ga K "Shape") J5 (.cons wd p sub r) := ShL.right (g := g1) (by rw [← eg]; exact sh5)
      obtain ⟨⟨dxp, tvp, nap, fap, sp, h1, h2, h3, h4, h5, zx, zf, zs⟩, _, _⟩ := sh6
      have xsp : x ≠ sp := fun e => by
        rw [← e, xJ3] at zs
        exact nomatch zs.1.1
      have psp : p ≠ sp := fun e => by
        rw [e, h5] at h1
        cases h1
      have spG := kG _ _ h5 zs.2
      refine ⟨sp, _, spG, trivial, fun od => ?_⟩
      generalize hkv : sub.spots p = kvs at *
      have lk : kvs.length ≤ 40 := by
        rw [← hkv]
        have := puts_len sub [(.inr ".", .ref p)]
        simp only [List.length_cons, List.length_nil] at this
        have ss' : sub.tr.size ≤ 39 := ss
        exact Nat.le_trans this (by omega)
      have kk : KeyOk 40 kvs := by
        rw [← hkv]
        refine puts_ok ssh (fun m hm => ?_) (fun kv hk => ?_)
        · have := Tr.depth_lt hm
          have sd' : sub.tr.depth ≤ 3 := sd
          omega
        · simp only [List.mem_cons, List.not_mem_nil, or_false] at hk
          rw [hk]
          exact ⟨".", rfl, by rw [dot_len]; omega⟩
      have la : (g1.puts [(.inr ".", .ref x)]).length ≤ 40 := by
        have h1 := puts_len g1 [(.inr ".", .ref x)]
        have h2 := app_size g1 (.cons wd p sub r)
        rw [← eg, etr] at h2
        simp only [List.length_cons, List.length_nil] at h1
        omega
      have xG := kG _ _ xJ5 xsa
      have DG := kG _ _ D5 Dsa
      have pG := kG _ _ h1 zx.2
      have dget : DGet (upd G' sp (.frz od (.dK kvs))) D' (.str wd) (some (.ref p)) := by
        have z := DGet.k (k := .inr wd) (show (upd G' sp (.frz od (.dK kvs))) D' = some (.dK g.dict) by rw [upd_ne (Ne.symm zs.1.2)]; exact DG)
        rw [eg, valV_at fresh] at z
        exact z
      refine ⟨_, rfl, x, _, dx, _, .ref D', rfl, (by rw [upd_ne xsp]; exact xG), T.k_Shape, T.n_Shape_fields, (by rfl), _, rfl, D', .ref p, rfl, dget, p, _, dxp, _, .ref sp, rfl, (by rw [upd_ne psp]; exact pG), T.k_Shape, T.n_Shape_spots, (by rfl), sp, od, kvs, rfl, upd_same, ?_⟩
      refine for_it (walk_items (d := sp) (o := od) (kvs := kvs)) (fun j σ Gj => ∃ (y5 y6 : Option V), σ = [some (.ref x), some (.str t.text), some (.ref a), some (.ref sa), some (.str wd), y5, y6, none] ∧ Gj sp = some (.frz od (.dK kvs)) ∧
        Gj sa = some (.dK ((kvs.take j).foldl (fun a kv => putK a (Sg.ext wd kv.1) kv.2) (g1.puts [(.inr ".", .ref x)]))) ∧ ∀ b o, G' b = some o → b ≠ sa → b ≠ sp → Gj b = some o) ?_ (fun j σ Gj _ p => ?_) (fun j z σ Gj Gj' hj p y => ?_) (fun σ Gj p => ?_)
      · exact ⟨y5, y6, rfl, upd_same, by rw [upd_ne (Ne.symm zs.2)]; exact saG, fun b o h _ z => by rw [upd_ne z]; exact h⟩
      · obtain ⟨_, _, _, h, _⟩ := p
        exact h
      · obtain ⟨y5, y6, rfl, spJ, saJ, kJ⟩ := p
        obtain ⟨tt, x', y', rfl, nt, rfl, ex, ey⟩ := y
        have ex : (kvs[j]?.map fun kv => kV kv.1) = some x' := ex
        have ey : kvs[j]?.map Prod.snd = some y' := ey
        cases hkj : kvs[j]? with
        | none => rw [hkj] at ex; cases ex
        | some kv =>
        rw [hkj] at ex ey
        cases ex
        cases ey
        obtain ⟨pth, ek, lpt⟩ := kk kv (List.mem_of_getElem? hkj)
        obtain ⟨key, val⟩ := kv
        cases ek
        have ntsa : sa ≠ tt := ne_of_none saJ nt
        have ntsp : sp ≠ tt := ne_of_none spJ nt
        refine ⟨tt, _, rfl, .inl (.inl upd_same), rfl, _, _, rfl, _, _, rfl, rfl, ?_⟩
        have m01 := mulLen01 pth (!decide (V.str pth = V.str "."))
        refine ⟨_, rfl, _, rfl, _, rfl, ".", wd, rfl, rfl, sz4 (by rw [dot_len]; omega), _, rfl, _, rfl, rfl, .inr ⟨_, rfl, ?_⟩⟩
        refine ⟨pth, _, 40, 1, rfl, rfl, lpt, (by split <;> decide), (by split <;> decide), by decide, by decide, ?_⟩
        refine ⟨_, _, rfl, rfl, sz4 (Nat.le_trans (Nat.add_le_add_left (mulLen01 pth _) _) (by rw [len_app, dot_len]; omega)), ?_⟩
        have fl := fold_len wd (kvs.take j) (g1.puts [(.inr ".", .ref x)])
        rw [List.length_take] at fl
        refine ⟨sa, _, rfl, DPut.k (k := .inr _) (show (upd Gj tt (.tup [kV (.inr pth), val])) sa = some (.dK _) by rw [upd_ne ntsa]; exact saJ) (Nat.lt_of_le_of_lt (m := 1000) (by omega) (by decide)), ?_⟩
        refine ⟨_, _, rfl, ?_, ?_, fun b o h z1 z2 => ?_⟩
        · rw [upd_ne zs.2, upd_ne ntsp]
          exact spJ
        · rw [upd_same, List.take_add_one, hkj, List.foldl_append]
          show _ = some (HO.dK (putK _ (Sg.ext wd (.inr pth)) val))
          rw [ext_eq]
          rfl
        · rw [upd_ne z1, upd_ne (ne_of_none (kJ _ _ h z1 z2) nt)]
          exact kJ _ _ h z1 z2
      · obtain ⟨y5, y6, rfl, spJ, saJ, kJ⟩ := p
        refine ⟨spJ, _, _, _, g1.app (.cons wd p sub .nil), r, rfl, ?_, ?_, ?_, fun b o h z => ?_⟩
        · rw [eg, app_assoc]
          rfl
        · rw [Sg.app_tr, List.length_append, lg]
          rfl
        · rw [upd_ne (Ne.symm zs.2), saJ, List.take_length, Sg.app_puts, ← hkv]
          rfl
        · by_cases e : b = sp
          · rw [e, upd_same, ← h5, ← e]
            exact h.symm ▸ rfl
          · rw [upd_ne e]
            exact kJ _ _ (kG _ _ h z) z e
    · obtain ⟨y4, y5, y6, g1, g2, rfl, eg, lg, saG, kG⟩ := p
      rw [List.length_map] at lg
      have e2n : g2 = .nil := by
        cases g2 with
        | nil => rfl
        | cons w p s r =>
          have := congrArg List.length (Sg.app_tr g1 (.cons w p s r))
          rw [← eg, etr, List.length_append, lg] at this
          have e : (Sg.cons w p s r).tr.fields.length = r.tr.fields.length + 1 := rfl
          omega
      rw [e2n, app_nil] at eg
      subst eg
      have xG5 := kG _ _ xJ5 xsa
      refine ⟨_, rfl, _, rfl, x, _, dx, _, rfl, xG5, T.k_Shape, T.n_Shape_spots, (by show 4 < 1000; decide), ?_⟩
      refine absH fun J6 eJ6 => ?_
      have k6 : ∀ b o, G b = some o → b ≠ x → J6 b = some o := fun b o h z => by rw [eJ6, upd_ne z]; exact h
      have xJ6 : J6 x = some (.ins (He.ga K "Shape") dx [("text", .str t.text), ("tree", .ref a), ("names", .ref na), ("fields", .ref D'), ("spots", .ref sa)]) := by
        rw [eJ6, upd_same, putF_snoc (show ("spots" : Str) ∉ [("text" : Str), "tree", "names", "fields"] by decide)]
        rfl
      clear eJ6
      have kH : ∀ b o, H b = some o → b ≠ x → J6 b = some o := fun b o h z => by
        have h4 := k34 _ _ (kH3 _ _ h z) z
        exact k6 _ _ (kG _ _ (s45 _ _ h4) (ne_of_none h4 nsa)) z
      have fr : ∀ b, J3 b = none → b = x ∨ H b = none := fun b hb => by
        by_cases e : b = x
        · exact .inl e
        · cases hH : H b with
          | none => exact .inr rfl
          | some o =>
            rw [kH3 _ _ hH e] at hb
            cases hb
      have J3sa : J3 sa = none := by
        cases h3 : J3 sa with
        | none => rfl
        | some o =>
          rw [k34 _ _ h3 (Ne.symm xsa)] at nsa
          cases nsa
      have tup6 : ∀ c xs, J3 c = some (.tup xs) → J6 c = some (.tup xs) := fun c xs z => by
        have cx : c ≠ x := fun e => by
          rw [e, xJ3] at z
          cases z
        have h4 := k34 _ _ z cx
        exact k6 _ _ (kG _ _ (s45 _ _ h4) (ne_of_none h4 nsa)) cx
      refine q g J6 etr kH ⟨⟨dx, .ref a, na, D', sa, ?_, ?_, ?_, k6 _ _ (kG _ _ D5 Dsa) hDx, k6 _ _ saG (Ne.symm xsa), .inl rfl, fr _ nD', fr _ J3sa⟩, ?_⟩
      · rw [etr]
        exact xJ6
      · rw [etr]
        exact ⟨a, ps, rfl, tup6 _ _ ha3, hf3.tups tup6⟩
      · rw [etr]
        exact tup6 _ _ naJ3
      · refine ShL.imp (Z := fun b => (J3 b = none ∧ b ≠ D') ∧ b ≠ sa) (fun b z _ => fr b z.1.1) (sh5.kz fun b o h hn z => ?_)
        have hbs : b ≠ sa := by
          rcases z with z | ⟨xs, z⟩
          · exact z.2
          · intro e
            rw [e, saJ5, z] at h
            cases h
        have hbx : b ≠ x := by
          rcases z with z | ⟨xs, z⟩
          · intro e
            rw [e, xJ3] at z
            exact nomatch z.1.1
          · intro e
            rw [e, xJ5, z] at h
            cases h
        exact k6 _ _ (kG _ _ h hbs) hbx
end
end Lx
namespace Lx
open PySem PySem.Spec PyProof.Rows L2 Ub Ur Ug Ue Up Uo Ve Va
section
variable {P : Program} {w : World} {K : PySem.W.Frag} {mg : Str → Option Value} {base : Heap}
theorem sc_get : FnScope ["self", "path"] ["self", "path"] (defScope s_Shape___getitem__) := ⟨rfl, rfl, rfl, by decide +kernel, rfl, by decide +kernel, by decide +kernel⟩
theorem ok_get {fd : FuncData} (F : Df K ("Shape", some "__getitem__") "__getitem__" "Shape.__getitem__" s_Shape___getitem__ [] fd) (T : Tx K mg) (x_BadPath : CalX P w K mg base 1 "BadPath" (He.ga K "BadPath") "path") :
    FnOk P w K mg base (CX P w) 4 (He.fAd K ("Shape", some "__getitem__")) fd ["self", "path"] (sp_get K (He.ga K "Shape") (He.ga K "BadPath")) := by
  refine F.ok sc_get (fun vs H Q E h => by obtain ⟨x, g, Z, y, rfl, _⟩ := h; rfl) (fun cdv A outer s H vs Q E hr h => ?_)
  obtain ⟨x, g, Z, y, rfl, sh, hg, h⟩ := h
  refine ⟨_, (pss_cons (ps_if (PW.pt (pw_or (pt_not (pt_val (pe_callB (call_isiK' K) (by rfl) T.isinstance (by decide +kernel) (pa_cons (pv 1) (pa_cons (pe_bltn (v := .ty "str") (by rfl) T.str (by decide +kernel) rfl) pa_nil))))) (pw_or1 (pt_cmp (pc_dnotin (units1 hr) (pv 1) (pe_fldK K (pv 0) rfl)) (by rfl)))))
        (pss_one (ps_raiseX x_BadPath rfl (takes_of rfl rfl rfl rfl) (hr.mono (by omega)) (by rfl) (pv 1)))
        pss_nil)
      (pss_one (ps_ret (pe_dget (units1 hr) (pe_fldK K (pv 0) rfl) (pv 1) (fun _ _ => rfl))))), ?_⟩
  obtain ⟨dx, tv, na, fa, sa, h1, h2, h3, h4, h5, _⟩ := sh.1
  rw [spots_eq x (good_W hg)] at h5
  have lk : ([("text", V.str g.tr.text), ("tree", tv), ("names", .ref na), ("fields", .ref fa), ("spots", .ref sa)] : List (Str × V)).lookup ("spots" : Str) = some (V.ref sa) := rfl
  have nd : ((gpaths x g).map (·.1)).Nodup := by rw [gpaths_keys]; exact paths_nodup (good_W hg)
  rcases h with ⟨m, hm, rfl, q⟩ | ⟨hno, q⟩
  · refine ⟨_, rfl, _, _, _, _, true, rfl, .ty "str", .base (.str m.1), kit_ty (by decide +kernel), true, rfl, ?_⟩
    refine iteE (c := false) rfl (fun z => nomatch z) fun _ => ?_
    have dg : DGet H sa (.str m.1) (some (.ref m.2.1)) := by
      have := DGet.k (H := H) (a := sa) (k := .inr m.1) h5
      rw [val_at nd m hm] at this
      exact this
    refine ⟨_, rfl, _, rfl, x, _, dx, _, _, rfl, h1, T.k_Shape, T.n_Shape_spots, lk, sa, _, rfl, dg, _, rfl, ?_⟩
    refine iteE (c := false) rfl (fun z => nomatch z) fun _ => ?_
    exact ⟨_, rfl, x, _, dx, _, _, rfl, h1, T.k_Shape, T.n_Shape_spots, lk, _, rfl, sa, _, rfl, dg, q⟩
  · rcases hno with ⟨T0, ht, hk⟩ | ⟨z, rfl, hz⟩
    · refine ⟨_, rfl, _, _, _, _, false, rfl, .ty "str", ht, kit_ty hk, false, rfl, ?_⟩
      exact iteT (iteT ⟨_, rfl, mkX fun e H2 s2 ne he => q e H2 s2 ne he⟩)
    · refine ⟨_, rfl, _, _, _, _, true, rfl, .ty "str", .base (.str z), kit_ty (by decide +kernel), true, rfl, ?_⟩
      refine iteE (c := false) rfl (fun z => nomatch z) fun _ => ?_
      have dg : DGet H sa (.str z) none := by
        have := DGet.k (H := H) (a := sa) (k := .inr z) h5
        rw [val_no (by rw [gpaths_keys]; exact hz)] at this
        exact this
      refine ⟨_, rfl, _, rfl, x, _, dx, _, _, rfl, h1, T.k_Shape, T.n_Shape_spots, lk, sa, _, rfl, dg, _, rfl, ?_⟩
      exact iteT ⟨_, rfl, mkX fun e H2 s2 ne he => q e H2 s2 ne he⟩
theorem sc_con : FnScope ["self", "path"] ["self", "path"] (defScope s_Shape___contains__) := ⟨rfl, rfl, rfl, by decide +kernel, rfl, by decide +kernel, by decide +kernel⟩
theorem ok_con {fd : FuncData} (F : Df K ("Shape", some "__contains__") "__contains__" "Shape.__contains__" s_Shape___contains__ [] fd) (T : Tx K mg) :
    FnOk P w K mg base CX0 1 (He.fAd K ("Shape", some "__contains__")) fd ["self", "path"] (sp_con K (He.ga K "Shape")) := by
  refine F.ok sc_con (fun vs H Q E h => by obtain ⟨x, g, Z, y, rfl, _⟩ := h; rfl) (fun cdv A outer s H vs Q E hr h => ?_)
  obtain ⟨x, g, Z, y, rfl, sh, hg, h⟩ := h
  refine ⟨_, PSs.nox (pss_one (ps_ret (pe_and (pe_callB (call_isiK' K) (by rfl) T.isinstance (by decide +kernel) (pa_cons (pv 1) (pa_cons (pe_bltn (v := .ty "str") (by rfl) T.str (by decide +kernel) rfl) pa_nil))) (pe_one (pe_cmp (pc_din (units1 hr) (pv 1) (pe_fldK K (pv 0) rfl)) (by rfl)))))), ?_⟩
  obtain ⟨dx, tv, na, fa, sa, h1, h2, h3, h4, h5, _⟩ := sh.1
  rw [spots_eq x (good_W hg)] at h5
  have lk : ([("text", V.str g.tr.text), ("tree", tv), ("names", .ref na), ("fields", .ref fa), ("spots", .ref sa)] : List (Str × V)).lookup ("spots" : Str) = some (V.ref sa) := rfl
  have nd : ((gpaths x g).map (·.1)).Nodup := by rw [gpaths_keys]; exact paths_nodup (good_W hg)
  rcases h with ⟨z, rfl, q⟩ | ⟨⟨T0, ht, hk⟩, q⟩
  · refine ⟨_, rfl, _, _, _, _, true, rfl, .ty "str", .base (.str z), kit_ty (by decide +kernel), true, rfl, ?_⟩
    have dg : DGet H sa (.str z) (valV ((gpaths x g).map ent) (.inr z)) := DGet.k (H := H) (a := sa) (k := .inr z) h5
    have e : (valV ((gpaths x g).map ent) (.inr z)).isSome = decide (z ∈ pks g.tr) := by
      by_cases hz : z ∈ pks g.tr
      · rw [decide_eq_true hz]
        have hz2 : z ∈ (gpaths x g).map (·.1) := by rw [gpaths_keys]; exact hz
        obtain ⟨m, hm, rfl⟩ := List.mem_map.mp hz2
        rw [val_at nd m hm]
        rfl
      · rw [decide_eq_false hz, val_no (by rw [gpaths_keys]; exact hz)]
        rfl
    rw [← e] at q
    exact iteT ⟨_, rfl, _, rfl, x, _, dx, _, _, rfl, h1, T.k_Shape, T.n_Shape_spots, lk, sa, _, rfl, dg, q⟩
  · refine ⟨_, rfl, _, _, _, _, false, rfl, .ty "str", ht, kit_ty hk, false, rfl, ?_⟩
    exact iteF q
end
end Lx
namespace Lx
open PySem PySem.Spec PyProof.Rows L2 Ub Ur Ug Ue
section
variable {P : Program} {w : World} {K : PySem.W.Frag} {mg : Str → Option Value} {base : Heap}
theorem sc_BadShape : FnScope ["self", "text"] ["self", "text"] (defScope s_BadShape___init__) := ⟨rfl, rfl, rfl, by decide +kernel, rfl, by decide +kernel, by decide +kernel⟩
theorem x_BadShape {fd : FuncData} (F : Df K ("BadShape", some "__init__") "__init__" "BadShape.__init__" s_BadShape___init__ [] fd) (T : Tx K mg) : CalX P w K mg base 1 "BadShape" (He.ga K "BadShape") "text" := by
  refine ⟨_, fd, ["self", "text"], T.x_BadShape, F.ok sc_BadShape (fun vs H Q E h => by obtain ⟨a, y, rfl, _⟩ := h; rfl) (fun cdv A outer s H vs Q E hr h => ?_), F.bindsN fun _ _ _ _ _ _ us hl => match us, hl with | [_, _], _ => rfl, T.g_BadShape⟩
  obtain ⟨a, y, rfl, ha, q⟩ := h
  exact ⟨_, PSs.nox (pss_one (ps_ost (pv 0) (pv 1))), _, rfl, _, rfl, a, _, rfl, T.x_BadShape.o, T.x_BadShape.no, .inl ⟨ha, fun dx hd hne => q dx hd hne⟩⟩
theorem sc_BadPath : FnScope ["self", "path"] ["self", "path"] (defScope s_BadPath___init__) := ⟨rfl, rfl, rfl, by decide +kernel, rfl, by decide +kernel, by decide +kernel⟩
theorem x_BadPath {fd : FuncData} (F : Df K ("BadPath", some "__init__") "__init__" "BadPath.__init__" s_BadPath___init__ [] fd) (T : Tx K mg) : CalX P w K mg base 1 "BadPath" (He.ga K "BadPath") "path" := by
  refine ⟨_, fd, ["self", "path"], T.x_BadPath, F.ok sc_BadPath (fun vs H Q E h => by obtain ⟨a, y, rfl, _⟩ := h; rfl) (fun cdv A outer s H vs Q E hr h => ?_), F.bindsN fun _ _ _ _ _ _ us hl => match us, hl with | [_, _], _ => rfl, T.g_BadPath⟩
  obtain ⟨a, y, rfl, ha, q⟩ := h
  exact ⟨_, PSs.nox (pss_one (ps_ost (pv 0) (pv 1))), _, rfl, _, rfl, a, _, rfl, T.x_BadPath.o, T.x_BadPath.no, .inl ⟨ha, fun dx hd hne => q dx hd hne⟩⟩
theorem sc_BadLine : FnScope ["self", "at"] ["self", "at"] (defScope s_BadLine___init__) := ⟨rfl, rfl, rfl, by decide +kernel, rfl, by decide +kernel, by decide +kernel⟩
theorem x_BadLine {fd : FuncData} (F : Df K ("BadLine", some "__init__") "__init__" "BadLine.__init__" s_BadLine___init__ [] fd) (T : Tx K mg) : CalX P w K mg base 1 "BadLine" (He.ga K "BadLine") "at" := by
  refine ⟨_, fd, ["self", "at"], T.x_BadLine, F.ok sc_BadLine (fun vs H Q E h => by obtain ⟨a, y, rfl, _⟩ := h; rfl) (fun cdv A outer s H vs Q E hr h => ?_), F.bindsN fun _ _ _ _ _ _ us hl => match us, hl with | [_, _], _ => rfl, T.g_BadLine⟩
  obtain ⟨a, y, rfl, ha, q⟩ := h
  exact ⟨_, PSs.nox (pss_one (ps_ost (pv 0) (pv 1))), _, rfl, _, rfl, a, _, rfl, T.x_BadLine.o, T.x_BadLine.no, .inl ⟨ha, fun dx hd hne => q dx hd hne⟩⟩
end
end Lx
namespace Rw
open PySem PySem.Spec PyProof.Rows L2 Ub Ur Ug Ue Up Uo Ve Va Vk
end Rw
set_option autoImplicit true
namespace Ue
open PySem PySem.Spec PyProof.Rows L2 Ub
end Ue
namespace Rw
open PySem PySem.Spec PyProof.Rows L2 Ub Ur Ug Ue Up Uo Ve Va Vk
theorem tr_size : ∀ t : Tr, t.size = t.srec + t.spla
  | .nil => rfl
  | .cons w t r => by
    have h1 := tr_size t
    have h2 := tr_size r
    show 1 + t.size + r.size = ((if t.isNil then 0 else 1 + t.srec) + r.srec) + ((if t.isNil then 1 else t.spla) + r.spla)
    cases t with
    | nil =>
      show 1 + 0 + r.size = (0 + r.srec) + (1 + r.spla)
      omega
    | cons a b c =>
      show 1 + (Tr.cons a b c).size + r.size = ((1 + (Tr.cons a b c).srec) + r.srec) + ((Tr.cons a b c).spla + r.spla)
      omega
theorem good_text {t : Tr} (h : good t) : t.text.length ≤ 128 := by
  have j := (Tr.join_le (good_has h).2.2).2
  have e := tr_size t
  obtain ⟨_, h2, h3⟩ := h
  cases t with
  | nil =>
    have : Tr.size .nil = 0 := rfl
    omega
  | cons a b c =>
    have e1 : (Tr.cons a b c).recs = 1 + (Tr.cons a b c).srec := rfl
    have e2 : (Tr.cons a b c).plains = (Tr.cons a b c).spla := rfl
    omega
/-- a book without updates -/
def sp_book0 (K : PySem.W.Frag) : Sp := fun vs H Q _ => ∃ (N : List Addr) (x dx : Addr) (t : Tr), vs = [.ref x, .str (("document " : Str) ++ t.text)] ∧ H x = some (.ins (He.ga K "Book") dx []) ∧ x ∉ N ∧ LsN N H ∧ good t ∧ t.isNil = false ∧
  ∀ g H', g.tr = t → (∀ b o, H b = some o → b ≠ x → H' b = some o) → BookAt N K H' x (("document " : Str) ++ t.text) g [] → Q .non H'
end Rw
namespace Lx
open PySem PySem.Spec PyProof.Rows L2 Ub Ur Ug Ue Up Uo Ve Va Vk Rw
section
variable {P : Program} {w : World} {K : PySem.W.Frag} {mg : Str → Option Value} {base : Heap}
theorem sc_Book___init__ : FnScope ["self", "text", "lines", "tree", "blocks", "at", "line", "block", "name", "parameters", "rows"] ["self", "text"] (defScope s_Book___init__) := ⟨rfl, rfl, rfl, by decide +kernel, rfl, by decide +kernel, by decide +kernel⟩
theorem ok_Book0 {fd : FuncData} (F : Df K ("Book", some "__init__") "__init__" "Book.__init__" s_Book___init__ [] fd) (T : Tx K mg) (c_tree_of : Cal P w K mg base 7 "tree_of" ["text"] (sp_tree_of K)) (c_add_line : Cal P w K mg base 10 "add_line" ["shape", "blocks", "line"] (fun _ _ _ _ => False)) (m_Shape : CalM P w K mg base 16 "Shape" (He.ga K "Shape") ["self", "text"] (sp_shape K (He.ga K "Shape") (He.ga K "BadShape") 4)) (m_Update : CalR P w K mg base 18 "Update" (He.ga K "Update") (fun _ _ _ _ => False)) (x_BadLine : CalX P w K mg base 1 "BadLine" (He.ga K "BadLine") "at") :
    FnOk P w K mg base (CX P w) 20 (He.fAd K ("Book", some "__init__")) fd ["self", "text"] (sp_book0 K) := by
  refine F.ok sc_Book___init__ (fun vs H Q E h => by obtain ⟨_, _, _, _, rfl, _⟩ := h; rfl) (fun cdv A outer s H vs Q E hr h => ?_)
  obtain ⟨N, x, dx, t, rfl, hx, xN, ls, gt, tn, h⟩ := h
  refine ⟨_, (pss_cons (ps_if (pt_not (pt_val (pe_callB (call_isiK' K) (by rfl) T.isinstance (by decide +kernel) (pa_cons (pv 1) (pa_cons (pe_bltn (v := .ty "str") (by rfl) T.str (by decide +kernel) rfl) pa_nil)))))
        (pss_one (ps_raiseX x_BadLine rfl (takes_of rfl rfl rfl rfl) (hr.mono (by omega)) (by rfl) (pe_un un_neg pe_int)))
        pss_nil)
      (pss_cons (ps_set (i := 2) sc_Book___init__.nd rfl (by first | exact Or.inl rfl | exact Or.inr rfl) (pe_split (pv 1) pe_str))
      (pss_cons (ps_set (i := 3) sc_Book___init__.nd rfl (by first | exact Or.inl rfl | exact Or.inr rfl) (pe_cal c_tree_of (hr.mono (by omega)) (by rfl) (pa_cons (pe_slice sl_str (pe_ix (ix_listK K) (pv 2) pe_int (fun _ _ => rfl)) (po_some pe_int) po_none) pa_nil)))
      (pss_cons (ps_if (PW.pt (pw_or (pt_not (pt_val (pe_m1 PySem.F.slot_str_startswith PySem.F.type_str_startswith mt_startswith (pe_ix (ix_listK K) (pv 2) pe_int (fun _ _ => rfl)) pe_str))) (pw_or (pt_cmpR op_isN (pv 3) pe_non (nomark _)) (pw_or1 (pt_cmpR (op_eq_nilK K hr.units0) (pv 3) (pe_tup pa_nil) (nomark _))))))
        (pss_one (ps_raiseX x_BadLine rfl (takes_of rfl rfl rfl rfl) (hr.mono (by omega)) (by rfl) pe_int))
        pss_nil)
      (pss_cons (ps_fld (pv 0) (pv 1) rfl)
      (pss_cons (ps_fld (pv 0) (pe_makeS m_Shape (fun _ => passE0) (hr.mono (by omega)) (by rfl) (pa_cons (pe_slice sl_str (pe_ix (ix_listK K) (pv 2) pe_int (fun _ _ => rfl)) (po_some pe_int) po_none) pa_nil)) rfl)
      (pss_cons (ps_set (i := 4) sc_Book___init__.nd rfl (by first | exact Or.inl rfl | exact Or.inr rfl) (pe_lst pa_nil))
      (pss_cons (ps_for (passes_of rfl) rfl (pi_enumK K (by rfl) T.enumerate (pa_cons (pv 2) pa_nil)) (pg_tupK K (n := 2) rfl (pgs_cons (pg_name (i := 5) sc_Book___init__.nd rfl (by first | exact Or.inl rfl | exact Or.inr rfl)) (pgs_cons (pg_name (i := 6) sc_Book___init__.nd rfl (by first | exact Or.inl rfl | exact Or.inr rfl)) pgs_nil)))
        (pss_one (ps_if (PW.pt (pw_and (pt_cmpR op_gt (pv 5) pe_int (nomark _)) (pw_and1 (pt_not (pt_truthK K (pe_cal c_add_line (hr.mono (by omega)) (by rfl) (pa_cons (pe_fldK K (pv 0) rfl) (pa_cons (pv 4) (pa_cons (pv 6) pa_nil)))) (by intro _; rfl))))))
            (pss_one (ps_raiseX x_BadLine rfl (takes_of rfl rfl rfl rfl) (hr.mono (by omega)) (by rfl) (pv 5)))
            pss_nil)))
      (pss_cons (ps_fld (pv 0) (pe_callTy (call_tuple_ofK K) (by rfl) T.tuple (by decide +kernel) (pa_cons (pe_lc (own := [("block", 7)]) (by rfl) sc_Book___init__.nd (pi_listK K (pv 4)) (blkOk_by (N := ["self", "text", "lines", "tree", "blocks", "at", "line", "block", "name", "parameters", "rows"]) (sc := (defScope s_Book___init__)) (by decide +kernel)) (fun _ _ _ _ _ => (pg_name (i := 7) sc_Book___init__.nd rfl (by first | exact Or.inl rfl | exact Or.inr rfl))) (fun _ _ _ _ _ => pts_nil) (fun _ _ _ _ _ => (pe_ix (ix_listK K) (pv 7) pe_int (fun _ _ => rfl)))) pa_nil)) rfl)
      (pss_one (ps_fld (pv 0) (pe_dc (own := [("name", 8), ("parameters", 9), ("rows", 10)]) (by rfl) sc_Book___init__.nd (pi_listK K (pv 4)) (blkOk_by (N := ["self", "text", "lines", "tree", "blocks", "at", "line", "block", "name", "parameters", "rows"]) (sc := (defScope s_Book___init__)) (by decide +kernel)) (fun _ _ _ _ _ => (pg_unlK K (n := 3) rfl (pgs_cons (pg_name (i := 8) sc_Book___init__.nd rfl (by first | exact Or.inl rfl | exact Or.inr rfl)) (pgs_cons (pg_name (i := 9) sc_Book___init__.nd rfl (by first | exact Or.inl rfl | exact Or.inr rfl)) (pgs_cons (pg_name (i := 10) sc_Book___init__.nd rfl (by first | exact Or.inl rfl | exact Or.inr rfl)) pgs_nil))))) (fun _ _ _ _ _ => pts_nil) (fun _ _ _ _ _ => (pv 8)) (fun _ _ _ _ _ => (pe_makeRV m_Update (fun _ => passE0) (hr.mono (by omega)) (by rfl) (pa_cons (pe_fldK K (pv 0) rfl) (pa_cons (pv 9) (pa_starK K (pv 10) pa_nil)))))) rfl))))))))))), ?_⟩
  have nd : Nl (("document " : Str) ++ t.text) := (nl_of (by decide +kernel)).app (text_nl gt.1)
  have el : Txt.split (("document " : Str) ++ t.text) "\n" = [("document " : Str) ++ t.text] := split_lines (parts := [("document " : Str) ++ t.text]) (by simp) fun p hp => by rw [List.mem_singleton.mp hp]; exact nd
  have ec : cutS (("document " : Str) ++ t.text) (some 9) none = t.text := cut_tail (by decide +kernel)
  have es : Txt.startswith (("document " : Str) ++ t.text) "document " = true := starts_app _ _
  have et : shapeOf t.text = some t := shapeOf_in gt
  have hz : (("document " : Str) ++ t.text).length ≤ 9000 := by
    have := Rw.good_text gt
    rw [len_app]
    show 9 + _ ≤ 9000
    omega
  generalize ("document " : Str) ++ t.text = z at *
  refine ⟨_, rfl, _, _, _, _, true, rfl, .ty "str", .base (.str _), kit_ty (show kitB "str" "str" = some true by decide +kernel), _, rfl, iteF ?_⟩
  dsimp only [tNext]
  refine ⟨_, rfl, ⟨_, rfl⟩, z, "\n", rfl, rfl, by decide +kernel, Nat.le_trans (show z.length + 2 ≤ 100000 by omega) (by decide), fun L nL => ?_⟩
  rw [el]
  have s1 := same_upd (o := .lst ([z].map V.str)) nL
  have eL : (upd H L (.lst ([z].map V.str))) L = some (.lst ([z].map V.str)) := upd_same
  generalize upd H L (.lst ([z].map V.str)) = H1 at *
  have lcut : (cutS z (some 9) none).length ≤ 10000 := Nat.le_trans (cutS_length _ _ _) (by omega)
  dsimp only [gName]
  refine ⟨_, rfl, L, _, 0, .str z, rfl, rfl, .inl (.inl eL), at0, _, rfl, noPart ⟨_, rfl, sz5 (by omega), ?_⟩⟩
  refine ⟨_, rfl, .inl ⟨_, rfl, by omega, fun H2 s2 => ?_⟩⟩
  have s02 := s1.trans s2
  have eL2 := s2 _ _ eL
  rw [ec, et]
  dsimp only
  intro tv htv
  dsimp only [gName]
  refine ⟨_, rfl, L, _, 0, .str z, rfl, rfl, .inl (.inl eL2), at0, ⟨_, rfl⟩, _, _, rfl, rfl, _, rfl, ?_⟩
  obtain ⟨ta, tps, rfl, hta, htf⟩ := id htv
  rw [es]
  refine iteF ⟨_, rfl, rfl, _, rfl, iteN (fun z => nomatch z) ?_⟩
  refine ⟨_, rfl, Nat.zero_le _, fun e0 ne0 => ?_⟩
  have s3 := same_upd (o := .tup []) ne0
  refine ⟨ta, e0, tps, rfl, rfl, .inl (.inl (s3 _ _ hta)), .inl (.inl upd_same), _, rfl, ?_⟩
  refine iteE (c := t.isNil) htf.nil_iff (fun c4 => by rw [tn] at c4; cases c4) (fun c4 => ?_)
  dsimp only [tNext]
  have s03 := s02.trans s3
  have eL3 := s3 _ _ eL2
  generalize upd H2 e0 (.tup []) = H3 at *
  have hx3 := s03 _ _ hx
  clear s3 s02 s1 s2 eL2 eL ne0 hta htf htv
  -- self.text
  refine ⟨_, rfl, _, rfl, x, _, dx, _, rfl, hx3, T.k_Book, T.n_Book_text, by decide, ?_⟩
  refine absH fun J1 eJ1 => ?_
  have kJ1 : ∀ b o, H b = some o → b ≠ x → J1 b = some o := fun b o h z => by rw [eJ1, upd_ne z]; exact s03 _ _ h
  have xJ1 : J1 x = some (.ins (He.ga K "Book") dx [("text", .str z)]) := by rw [eJ1, upd_same]; rfl
  have xL : L ≠ x := fun z => by rw [z, hx3] at eL3; cases eL3
  have LJ1 : J1 L = some (.lst ([z].map V.str)) := by rw [eJ1, upd_ne xL]; exact eL3
  clear eJ1
  -- self.shape
  refine ⟨_, rfl, L, _, 0, .str z, rfl, rfl, .inl (.inl LJ1), at0, _, rfl, noPart ⟨_, rfl, sz5 (by omega), ?_⟩⟩
  intro sh ds nx ndx nne
  have sA : Same J1 (upd (upd J1 ds (.own sh)) sh (.ins (He.ga K "Shape") ds [])) := (same_upd ndx).trans (same_upd (by rw [upd_ne nne.symm]; exact nx))
  refine ⟨sh, .str (cutS z (some 9) none), ds, rfl, upd_same, .inl ⟨t, gt, by have := (good_has gt).1; omega, by rw [ec], fun gg H4 egg k4 sg => ⟨rfl, ?_⟩⟩⟩
  have sB : Same J1 H4 := fun b o e => k4 b o (sA b o e) (ne_of_none e nx)
  have x4 := sB _ _ xJ1
  refine ⟨_, rfl, x, _, dx, _, rfl, x4, T.k_Book, T.n_Book_shape, (by show 1 < 1000; decide), ?_⟩
  have sgN : ShG (fun b => J1 b = none) (He.ga K "Shape") H4 sh gg := sg.imp fun b hb _ => by
    rcases hb with rfl | hb
    · exact nx
    · exact sA.free hb
  refine absH fun J2 eJ2 => ?_
  have kJ2 : ∀ b o, H4 b = some o → b ≠ x → J2 b = some o := fun b o h z => by rw [eJ2, upd_ne z]; exact h
  have xJ2 : J2 x = some (.ins (He.ga K "Book") dx [("text", .str z), ("shape", .ref sh)]) := by rw [eJ2, upd_same]; rfl
  clear eJ2
  have kH2 : ∀ b o, H b = some o → b ≠ x → J2 b = some o := fun b o h z => kJ2 _ _ (sB _ _ (kJ1 _ _ h z)) z
  have LJ2 := kJ2 _ _ (sB _ _ LJ1) xL
  have lsJ2 : LsN N J2 := fun n hn => by
    obtain ⟨o, e, k⟩ := ls n hn
    exact ⟨o, kH2 _ _ e (fun z => xN (by rw [← z]; exact hn)), k⟩
  have sgJ2 : ShG (fun b => b ∉ N) (He.ga K "Shape") J2 sh gg := (shg_through x4 (by show 1 ≠ 5; decide) kJ2 sgN).imp fun b hb _ hn => by
    obtain ⟨o, e, _⟩ := ls b hn
    have := kJ1 _ _ e hb.2
    rw [hb.1] at this
    cases this
  subst egg
  clear sg sgN k4 sA sB xJ1 LJ1 kJ1 nx ndx nne x4 kJ2
  dsimp only [tNext]
  -- the lines
  refine ⟨Nat.zero_le _, fun B nB => ?_⟩
  have sB := same_upd (o := .lst []) nB
  have eB : (upd J2 B (.lst [])) B = some (.lst []) := upd_same
  dsimp only [gName]
  generalize upd J2 B (.lst []) = J3 at *
  refine ⟨_, rfl, L, _, rfl, .inl (.inl (sB _ _ LJ2)), ?_⟩
  refine for_it (walk_enum (K := K) (a := L) (xs := [z].map V.str)) (fun i σ HH => ∃ (y5 y6 : Option V), σ = [some (.ref x), some (.str z), some (.ref L), some (.ref ta), some (.ref B), y5, y6, none, none, none, none] ∧ Same J3 HH) ?_ (fun i σ HH _ pp => ?_) (fun i y σ HH HH' hi pp y => ?_) (fun σ HH pp => ?_)
  · exact ⟨none, none, rfl, Same.refl _⟩
  · obtain ⟨_, _, _, s⟩ := pp
    exact .inl (.inl (s _ _ (sB _ _ LJ2)))
  · obtain ⟨y5, y6, rfl, s⟩ := pp
    obtain ⟨T0, xi, vi, rfl, nT, rfl, ex, eq⟩ := y
    cases ex
    have i0 : i = 0 := by have : i < 1 := hi; omega
    subst i0
    cases eq
    have s1 := same_upd (o := .tup [.int (0 : Nat), .str z]) nT
    refine ⟨T0, _, rfl, .inl (.inl upd_same), rfl, _, _, rfl, _, _, rfl, rfl, ?_⟩
    dsimp only [gName]
    refine ⟨_, rfl, _, _, rfl, rfl, _, rfl, ?_⟩
    exact iteN (by decide) (iteF ⟨_, _, rfl, s.trans s1⟩)
  obtain ⟨y5, y6, rfl, s⟩ := pp
  dsimp only [tNext]
  have s23 := sB.trans s
  have eBH := s _ _ eB
  -- self.names
  refine ⟨_, rfl, B, rfl, ⟨_, .inl (.inl eBH)⟩, fun D hD => ?_⟩
  refine lcM (walk_list (K := K) (a := B) (xs := [])) ([] : List UB) rfl (fun b : UB => some (.str b.1)) (fun H s => .inl (.inl (s _ _ eBH))) (sz5 (by decide)) hD (fun i y b H' hx' hm s' => by simp at hm) (fun H5 s5 d5 => ?_)
  have d5 : H5 D = some (.lst []) := d5
  refine ⟨D, _, rfl, .inl ⟨.inl (.inl d5), fun nt nnt => ?_⟩⟩
  have s6 := same_upd (o := .tup []) nnt
  have ent : (upd H5 nt (.tup [])) nt = some (.tup []) := upd_same
  have s26 := s23.trans (s5.trans s6)
  have eB6 := s6 _ _ (s5 _ _ eBH)
  generalize upd H5 nt (.tup []) = H6 at *
  have x6 := s26 _ _ xJ2
  refine ⟨_, rfl, x, _, dx, _, rfl, x6, T.k_Book, T.n_Book_names, (by show 2 < 1000; decide), ?_⟩
  refine absH fun J4 eJ4 => ?_
  have kJ4 : ∀ b o, H6 b = some o → b ≠ x → J4 b = some o := fun b o h z => by rw [eJ4, upd_ne z]; exact h
  have xJ4 : J4 x = some (.ins (He.ga K "Book") dx [("text", .str z), ("shape", .ref sh), ("names", .ref nt)]) := by rw [eJ4, upd_same]; rfl
  clear eJ4
  have xnt : nt ≠ x := fun z => by rw [z, x6] at ent; cases ent
  have entJ := kJ4 _ _ ent xnt
  have kH4 : ∀ b o, H b = some o → b ≠ x → J4 b = some o := fun b o h z => kJ4 _ _ (s26 _ _ (kH2 _ _ h z)) z
  have xB : B ≠ x := fun z => by rw [z, x6] at eB6; cases eB6
  have eB4 := kJ4 _ _ eB6 xB
  have lsJ4 : LsN N J4 := fun n hn => by
    obtain ⟨o, e, k⟩ := ls n hn
    exact ⟨o, kH4 _ _ e (fun z => xN (by rw [← z]; exact hn)), k⟩
  have sgJ4 : ShG (fun b => b ∉ N) (He.ga K "Shape") J4 sh gg := by
    have := (sgJ2.kz (kz_of s26))
    exact (shg_through x6 (by show 2 ≠ 5; decide) kJ4 this).imp fun b hb _ => hb.1
  dsimp only [tNext]
  -- self.updates
  refine ⟨_, rfl, B, rfl, ⟨_, .inl (.inl eB4)⟩, fun D2 hD2 => ?_⟩
  have s7 := same_upd (o := .dK []) hD2
  refine dc_it (walk_list (K := K) (a := B) (xs := [])) (fun i HH => Same J4 HH ∧ HH D2 = some (.dK [])) ⟨s7, upd_same⟩ (fun i HH _ pp => .inl (.inl (pp.1 _ _ eB4))) (fun i y HH HH' hi pp yy => by simp at hi) (fun HH pp => ?_)
  obtain ⟨sY, eD⟩ := pp
  have xY := sY _ _ xJ4
  refine ⟨_, rfl, x, _, dx, _, rfl, xY, T.k_Book, T.n_Book_updates, (by show 3 < 1000; decide), ?_⟩
  have lsY := lsJ4.same sY
  have shY := sgJ4.kz (kz_of sY)
  refine absH fun J5 eJ5 => ?_
  have kJ5 : ∀ b o, HH b = some o → b ≠ x → J5 b = some o := fun b o h z => by rw [eJ5, upd_ne z]; exact h
  have xJ5 : J5 x = some (.ins (He.ga K "Book") dx (bookF z sh nt D2)) := by rw [eJ5, upd_same]; rfl
  have xD : D2 ≠ x := fun z => by rw [z, xY] at eD; cases eD
  refine h gg J5 rfl (fun b o hb n => kJ5 _ _ (sY _ _ (kH4 _ _ hb n)) n) ⟨dx, sh, nt, D2, [], xJ5, xN, kJ5 _ _ (sY _ _ entJ) xnt, kJ5 _ _ eD xD, ?_, ?_, ?_, gt, BOk.nil _⟩
  · intro hn
    obtain ⟨o, e, _⟩ := lsJ4 D2 hn
    rw [hD2] at e
    cases e
  · trivial
  · exact (shg_through xY (by show 3 ≠ 5; decide) kJ5 shY).imp fun b hb _ => hb.1
end
end Lx
namespace Bt
open PySem PySem.Spec PyProof.Rows L2 Ub Ur Ug Ue Up Uo Ve Va Vk Wb Pt Gr Sb Rw Wt
section
variable {K : PySem.W.Frag} {H H' : Hp} {x0 C0 d0 : Addr} {fs0 : List (Str × V)}
theorem _root_.Rw.BookAt.off {N : List Addr} (h0 : H x0 = some (.ins C0 d0 fs0)) (nf : fs0.lookup ("path" : Str) = none) (n5 : fs0.length ≠ 5) (n4 : fs0.length ≠ 4) (k : ∀ b o, H b = some o → b ≠ x0 → H' b = some o) {bk : Addr} {z : Str} {g : Sg} {bs : List UB} (h : BookAt N K H bk z g bs) : BookAt N K H' bk z g bs := by
  obtain ⟨dx, sh, nt, ud, ks, h1, h2, h3, h4, h5, h6, h7, h8, h9⟩ := h
  refine ⟨dx, sh, nt, ud, ks, k _ _ h1 fun e => ?_, h2, k _ _ h3 (ne_of h3 h0 (by intro z; cases z)), k _ _ h4 (ne_of h4 h0 (by intro z; cases z)), h5, h6.imp fun b v ⟨u, e, hu⟩ => ⟨u, e, hu.off h0 nf n5 k⟩, (shg_through h0 n5 k h7).imp fun b hb _ => hb.1, h8, h9⟩
  rw [e, h0] at h1
  injection h1 with h1
  injection h1 with _ _ h1
  exact n4 (by rw [h1]; rfl)
end
end Bt
namespace Ni
open PySem PySem.Spec PyProof.Rows L2 Ub Ur Ug Ue Up Uo Ve Va Vk Wb Pt Gr Sb Rw
def sp_crp (K : PySem.W.Frag) : Sp := fun vs H Q _ => ∃ (Z : Addr → Prop) (x : Addr) (gs : Sg) (m : Str × Tr), vs = [.ref x, .str m.1] ∧ ShG Z (He.ga K "Shape") H x gs ∧ good gs.tr ∧ m ∈ paths gs.tr ∧ m.2.isNil = false ∧ ∀ H', Same H H' → Q .non H'
def sp_winit (K : PySem.W.Frag) : Sp := fun vs H Q _ => ∃ (x dx : Addr) (C : Addr) (bk : V), vs = [.ref x, bk] ∧ (C = He.ga K "Worlds" ∨ C = He.ga K "HeldWorlds") ∧ H x = some (.ins C dx []) ∧ Q .non (upd H x (.ins C dx [("book", bk)]))
def sp_hinit (K : PySem.W.Frag) : Sp := fun vs H Q _ => ∃ (N : List Addr) (x dx : Addr) (bk : Addr) (z : Str) (gs : Sg) (m : Str × Tr), vs = [.ref x, .ref bk, .str m.1] ∧ H x = some (.ins (He.ga K "HeldWorlds") dx []) ∧ BookAt N K H bk z gs [] ∧ LsN N H ∧ m ∈ paths gs.tr ∧ m.2.isNil = false ∧ ∀ H', Kn [x] H H' → BookAt N K H' bk z gs [] → H' x = some (.ins (He.ga K "HeldWorlds") dx [("book", .ref bk), ("path", .str m.1)]) → Q .non H'
end Ni
namespace Lx
open PySem PySem.Spec PyProof.Rows L2 Ub Ur Ug Ue Up Uo Ve Va Vk Wb Pt Gr Sb Rw Ni
open Sup hiding SupF
open NdefX
section
variable {P : Program} {w : World} {K : PySem.W.Frag} {mg : Str → Option Value} {base : Heap}
theorem sc_check_record_path : FnScope ["shape", "path"] ["shape", "path"] (defScope s_check_record_path) := ⟨rfl, rfl, rfl, by decide +kernel, rfl, by decide +kernel, by decide +kernel⟩
theorem ok_check_record_path {f : Addr} {fd : FuncData} (F : FunD K "check_record_path" "check_record_path" (defArgs s_check_record_path) (defBody s_check_record_path) (defScope s_check_record_path) [] [] f fd) (T : Tx K mg) (p_Shape_is_plain : CalP P w K mg base 1 (He.ga K "Shape") "is_plain" (sp_shP (He.ga K "Shape") fun t => .bl t.isNil)) (k_Shape_contains : CalK P w K mg base CX0 1 (He.ga K "Shape") "__contains__" ["self", "path"] (sp_con K (He.ga K "Shape"))) (k_Shape_getitem : CalK P w K mg base (CX P w) 4 (He.ga K "Shape") "__getitem__" ["self", "path"] (sp_get K (He.ga K "Shape") (He.ga K "BadPath"))) : FnOk P w K mg base CX0 6 f fd ["shape", "path"] (sp_crp K) := by
  refine F.ok sc_check_record_path (fun vs H Q E h => by obtain ⟨_, _, _, _, rfl, _⟩ := h; rfl) (fun cdv A outer s H vs Q E hr h => ?_)
  obtain ⟨Z, x, gs, m, rfl, hs, gd, hm, mn, q⟩ := h
  refine ⟨_, PSs.nox (pss_one (ps_if (PW.pt (pw_or (pt_cmpR (op_notInO k_Shape_contains (E := E0) (fun _ => pas0) (hr.mono (by omega))) (pv 1) (pv 0) (by rfl)) (pw_or1 (pt_val (pe_propP p_Shape_is_plain (hr.mono (by omega)) (pe_ixO k_Shape_getitem (fun _ => passE0) (hr.mono (by omega)) (pv 0) (pv 1) (fun _ _ => rfl)))))))
        (pss_one ps_no)
        pss_nil)), ?_⟩
  obtain ⟨dx, tv, na, fa, sa, a1, _⟩ := id hs.1
  have hk : m.1 ∈ pks gs.tr := List.mem_map.mpr ⟨m, hm, rfl⟩
  obtain ⟨gm, hgm, e1, e2⟩ : ∃ gm ∈ gpaths x gs, gm.1 = m.1 ∧ gm.2.2.tr = m.2 := by
    rw [← gpaths_tr x] at hm
    obtain ⟨gm, h1, h2⟩ := List.mem_map.mp hm
    exact ⟨gm, h1, by rw [← h2], by rw [← h2]⟩
  have hsm := shg_at hs gm hgm
  obtain ⟨dm, tvm, nam, fam, sam, am, _⟩ := id hsm.1
  have ggm : good gm.2.2.tr := by rw [e2]; exact (paths_good 3 (good_has gd).1 gd _ hm).g
  refine ⟨_, rfl, _, rfl, x, dx, _, rfl, a1, x, gs, Z, _, rfl, hs, gd, .inl ⟨m.1, rfl, _, rfl, _, rfl, ?_⟩⟩
  rw [decide_eq_true hk]
  refine iteF ?_
  refine ⟨_, rfl, _, rfl, x, dx, _, rfl, a1, x, gs, Z, _, rfl, hs, gd, .inl ⟨gm, hgm, by rw [e1], ?_⟩⟩
  refine ⟨gm.2.1, dm, _, rfl, am, gm.2.1, gm.2.2, Z, rfl, hsm, ggm, fun H1 s1 => ⟨_, rfl, ?_⟩⟩
  rw [e2, mn]
  refine iteF ?_
  exact q H1 s1
theorem sc_Worlds___init__ : FnScope ["self", "book"] ["self", "book"] (defScope s_Worlds___init__) := ⟨rfl, rfl, rfl, by decide +kernel, rfl, by decide +kernel, by decide +kernel⟩
theorem ok_Worlds {fd : FuncData} (F : Df K ("Worlds", some "__init__") "__init__" "Worlds.__init__" s_Worlds___init__ [] fd) (T : Tx K mg) : FnOk P w K mg base (CX P w) 1 (He.fAd K ("Worlds", some "__init__")) fd ["self", "book"] (sp_winit K) := by
  refine F.ok sc_Worlds___init__ (fun vs H Q E h => by obtain ⟨_, _, _, _, rfl, _⟩ := h; rfl) (fun cdv A outer s H vs Q E hr h => ?_)
  obtain ⟨x, dx, C, bk, rfl, hC, hx, q⟩ := h
  refine ⟨_, PSs.nox (pss_one (ps_fld (pv 0) (pv 1) rfl)), ?_⟩
  have cl : Cls K C ∧ NoAttr K C "book" := by
    rcases hC with rfl | rfl
    · exact ⟨T.k_Worlds, T.n_Worlds_book⟩
    · exact ⟨T.k_HeldWorlds, T.n_HeldWorlds_book⟩
  refine ⟨_, rfl, _, rfl, x, C, dx, [], rfl, hx, cl.1, cl.2, (by show 0 < 1000; decide), ?_⟩
  exact q
theorem S_HeldWorlds___init__ : NScope ["self", "book", "path", "__class__"] ["self", "book", "path"] ["__class__"] (C8.fnScope s_HeldWorlds___init__) := nscope_by (by decide +kernel)
theorem ok_HeldWorlds {fd fd2 : FuncData} (F : Sup.FunS K "__init__" "HeldWorlds.__init__" s_HeldWorlds___init__ (He.ga K "HeldWorlds") (He.fAd K ("HeldWorlds", some "__init__")) fd) (T : Tx K mg) (hfile : ((P.main.file : Str) == fileT) = true) (htop : (P.main.scope.names.lookup ("super" : Str)).isSome = false) (c_check_record_path : Cal P w K mg base 6 "check_record_path" ["shape", "path"] (sp_crp K)) (F2 : FnOk P w K mg base (CX P w) 1 (He.fAd K ("Worlds", some "__init__")) fd2 ["self", "book"] (sp_winit K)) (hb2 : Binds K fd2 ["self", "book"] []) :
    FnOk P w K mg base (CX P w) 8 (He.fAd K ("HeldWorlds", some "__init__")) fd ["self", "book", "path"] (sp_hinit K) := by
  refine F.ok S_HeldWorlds___init__ (fun vs H Q E h => by obtain ⟨_, _, _, _, _, _, _, rfl, _⟩ := h; rfl) (fun cc c doc pm ctv A outer s H vs Q E lkf lkc hr h => ?_)
  obtain ⟨N, x, dx, bk, z, gs, m, rfl, hx, B, LN, hm, mn, qq⟩ := h
  have SB := T.su_HeldWorlds
  have S := S_HeldWorlds___init__
  refine ⟨_, (pssAt_cons (Sup.psAt_expr (peAt_super lkf lkc SB hfile htop T.super (by decide +kernel) (by decide +kernel) (by rfl) (by decide +kernel) rfl F2 (hr.mono (by omega)) hb2 (fun pins σ H s e s2 I h => passE0 pins H s e s2 I h) (pa_cons (pv 1) pa_nil)))
      (pssAt_cons (psAt_of (ps_expr (pe_cal c_check_record_path (hr.mono (by omega)) (by rfl) (pa_cons (pe_fldK K (pv 1) rfl) (pa_cons (pv 2) pa_nil)))))
      (pssAt_one (psAt_of (ps_fld (pv 0) (pv 2) rfl))))), ?_⟩
  refine ⟨x, dx, _, rfl, hx, _, rfl, x, dx, _, .ref bk, rfl, .inr rfl, hx, ?_⟩
  have B1 : BookAt N K (upd H x (.ins (He.ga K "HeldWorlds") dx [("book", .ref bk)])) bk z gs [] := B.off hx rfl (by decide) (by decide) fun b o e n => by rw [upd_ne n]; exact e
  have k1 : Kn [x] H (upd H x (.ins (He.ga K "HeldWorlds") dx [("book", .ref bk)])) := Kn.upd (List.mem_singleton.mpr rfl)
  have hx1 : (upd H x (.ins (He.ga K "HeldWorlds") dx [("book", .ref bk)])) x = some (.ins (He.ga K "HeldWorlds") dx [("book", .ref bk)]) := upd_same
  generalize upd H x (.ins (He.ga K "HeldWorlds") dx [("book", .ref bk)]) = H1 at *
  obtain ⟨dxb, shb, ntb, udb, ksb, c1, c2, c3, c4, c5, c6, c7, c8, c9⟩ := id B1
  refine ⟨_, rfl, bk, _, dxb, _, _, rfl, c1, T.k_Book, T.n_Book_shape, rfl, _, rfl, _, shb, gs, m, rfl, c7, c8, hm, mn, fun H2 s2 => ?_⟩
  have hx2 := s2 _ _ hx1
  refine ⟨_, rfl, _, rfl, x, _, dx, [("book", .ref bk)], rfl, hx2, T.k_HeldWorlds, T.n_HeldWorlds_path, (by show 1 < 1000; decide), ?_⟩
  have L1 : LsN N H1 := fun n hn => by
    obtain ⟨o, e1, e2⟩ := LN n hn
    refine ⟨o, k1 _ _ e1 fun z => ?_, e2⟩
    rw [List.mem_singleton.mp z, hx] at e1
    cases e1
    rcases e2 with ⟨_, e2⟩ | ⟨_, e2⟩ <;> cases e2
  have B2 : BookAt N K H2 bk z gs [] := B1.same L1 s2
  refine qq _ ((k1.trans (.of s2)).trans (Kn.upd (List.mem_singleton.mpr rfl))) (B2.off hx2 rfl (fun z => nomatch z) (fun z => nomatch z) fun b o e n => by rw [upd_ne n]; exact e) upd_same
end
end Lx
namespace Ni
open PySem PySem.Spec PyProof.Rows L2 Ub Ur Ug Ue Up Uo Ve Va Vk Wb Pt Gr Sb Rw
def sp_wcon (K : PySem.W.Frag) : Sp := fun vs H Q _ => ∃ (N : List Addr) (x dx bk : Addr) (z : Str) (gs : Sg) (v : V) (d : PyData), vs = [.ref x, v] ∧ H x = some (.ins (He.ga K "Worlds") dx [("book", .ref bk)]) ∧ BookAt N K H bk z gs [] ∧ DtV [] H v d ∧ smallD d ∧ ∀ H', Same H H' → Q (.bl (formD gs.tr d)) H'
def sp_hcon (K : PySem.W.Frag) : Sp := fun vs H Q _ => ∃ (N : List Addr) (x dx bk : Addr) (z : Str) (gs : Sg) (m : Str × Tr) (v : V) (d : PyData), vs = [.ref x, v] ∧ H x = some (.ins (He.ga K "HeldWorlds") dx [("book", .ref bk), ("path", .str m.1)]) ∧ BookAt N K H bk z gs [] ∧ m ∈ paths gs.tr ∧ DtV [] H v d ∧ smallD d ∧ ∀ H', Same H H' → Q (.bl (heldD gs.tr m.2 d)) H'
end Ni
namespace Lx
open PySem PySem.Spec PyProof.Rows L2 Ub Ur Ug Ue Up Uo Ve Va Vk Wb Pt Gr Sb Rw Ni
section
variable {P : Program} {w : World} {K : PySem.W.Frag} {mg : Str → Option Value} {base : Heap}
theorem sc_Worlds___contains__ : FnScope ["self", "form"] ["self", "form"] (defScope s_Worlds___contains__) := ⟨rfl, rfl, rfl, by decide +kernel, rfl, by decide +kernel, by decide +kernel⟩
theorem ok_wcon {fd : FuncData} (F : Df K ("Worlds", some "__contains__") "__contains__" "Worlds.__contains__" s_Worlds___contains__ [] fd) (T : Tx K mg) (c_is_form : Cal P w K mg base 9 "is_form" ["shape", "form"] (sp_isform (He.ga K "Shape"))) : FnOk P w K mg base CX0 10 (He.fAd K ("Worlds", some "__contains__")) fd ["self", "form"] (sp_wcon K) := by
  refine F.ok sc_Worlds___contains__ (fun vs H Q E h => by obtain ⟨_, _, _, _, _, _, _, _, rfl, _⟩ := h; rfl) (fun cdv A outer s H vs Q E hr h => ?_)
  obtain ⟨N, x, dx, bk, z, gs, v, d, rfl, hx, B, hd, sm, q⟩ := h
  refine ⟨_, PSs.nox (pss_one (ps_ret (pe_cal c_is_form (hr.mono (by omega)) (by rfl) (pa_cons (pe_fldK K (pe_fldK K (pv 0) rfl) rfl) (pa_cons (pv 1) pa_nil))))), ?_⟩
  obtain ⟨dxb, shb, ntb, udb, ksb, c1, c2, c3, c4, c5, c6, c7, c8, c9⟩ := id B
  exact ⟨_, rfl, x, _, dx, _, _, rfl, hx, T.k_Worlds, T.n_Worlds_book, rfl, bk, _, dxb, _, _, rfl, c1, T.k_Book, T.n_Book_shape, rfl, _, rfl, _, shb, gs, v, d, rfl, c7, c8, hd, sm, q⟩
theorem sc_HeldWorlds___contains__ : FnScope ["self", "form"] ["self", "form"] (defScope s_HeldWorlds___contains__) := ⟨rfl, rfl, rfl, by decide +kernel, rfl, by decide +kernel, by decide +kernel⟩
theorem ok_hcon {fd : FuncData} (F : Df K ("HeldWorlds", some "__contains__") "__contains__" "HeldWorlds.__contains__" s_HeldWorlds___contains__ [] fd) (T : Tx K mg) (c_is_held_form : Cal P w K mg base 9 "is_held_form" ["shape", "below", "form"] (sp_isheld (He.ga K "Shape"))) (k_Shape_getitem : CalK P w K mg base (CX P w) 4 (He.ga K "Shape") "__getitem__" ["self", "path"] (sp_get K (He.ga K "Shape") (He.ga K "BadPath"))) : FnOk P w K mg base CX0 10 (He.fAd K ("HeldWorlds", some "__contains__")) fd ["self", "form"] (sp_hcon K) := by
  refine F.ok sc_HeldWorlds___contains__ (fun vs H Q E h => by obtain ⟨_, _, _, _, _, _, _, _, _, rfl, _⟩ := h; rfl) (fun cdv A outer s H vs Q E hr h => ?_)
  obtain ⟨N, x, dx, bk, z, gs, m, v, d, rfl, hx, B, hm, hd, sm, q⟩ := h
  refine ⟨_, PSs.nox (pss_one (ps_ret (pe_cal c_is_held_form (hr.mono (by omega)) (by rfl) (pa_cons (pe_fldK K (pe_fldK K (pv 0) rfl) rfl) (pa_cons (pe_ixO k_Shape_getitem (fun _ => passE0) (hr.mono (by omega)) (pe_fldK K (pe_fldK K (pv 0) rfl) rfl) (pe_fldK K (pv 0) rfl) (fun _ _ => rfl)) (pa_cons (pv 1) pa_nil)))))), ?_⟩
  obtain ⟨dxb, shb, ntb, udb, ksb, c1, c2, c3, c4, c5, c6, c7, c8, c9⟩ := id B
  obtain ⟨gm, hgm, e1, e2⟩ : ∃ gm ∈ gpaths shb gs, gm.1 = m.1 ∧ gm.2.2.tr = m.2 := by
    rw [← gpaths_tr shb] at hm
    obtain ⟨gm, h1, h2⟩ := List.mem_map.mp hm
    exact ⟨gm, h1, by rw [← h2], by rw [← h2]⟩
  have hsm := shg_at c7 gm hgm
  have ggm : good gm.2.2.tr := by rw [e2]; exact (paths_good 3 (good_has c8).1 c8 _ hm).g
  obtain ⟨dm, tvm, nam, fam, sam, am, _⟩ := id c7.1
  refine ⟨_, rfl, x, _, dx, _, _, rfl, hx, T.k_HeldWorlds, T.n_HeldWorlds_book, rfl, bk, _, dxb, _, _, rfl, c1, T.k_Book, T.n_Book_shape, rfl, ?_⟩
  refine ⟨_, rfl, x, _, dx, _, _, rfl, hx, T.k_HeldWorlds, T.n_HeldWorlds_book, rfl, bk, _, dxb, _, _, rfl, c1, T.k_Book, T.n_Book_shape, rfl, ?_⟩
  refine ⟨_, rfl, x, _, dx, _, _, rfl, hx, T.k_HeldWorlds, T.n_HeldWorlds_path, rfl, ?_⟩
  refine ⟨shb, dm, _, rfl, am, shb, gs, _, _, rfl, c7, c8, .inl ⟨gm, hgm, by rw [e1], ?_⟩⟩
  refine ⟨_, rfl, _, shb, gm.2.1, gs, gm.2.2, v, d, rfl, c7, c8, hsm, ggm, hd, sm, fun H' s' => ?_⟩
  rw [e2]
  exact q H' s'
end
end Lx
namespace Ni
open PySem PySem.Spec PyProof.Rows L2 Ub Ur Ug Ue Up Uo Ve Va Vk Wb Pt Gr Sb Rw
theorem nil_eqv : ∀ s : Tr, PyData.eqv (trD s) (.tuple []) = s.isNil
  | .nil => by unfold trD trF; simp [PyData.eqv, PyData.eqvAll, Tr.isNil]
  | .cons w t r => by unfold trD trF; simp [PyData.eqv, PyData.eqvAll, Tr.isNil]
/-- what stands beside the records -/
structure Ld (H : Hp) (st g l hp ra : Addr) (t u : Tr) (tv uv : V) (wa : Addr) (ws : List Str) (G : Gi) (as : List Addr) (ts : List Tr) (rs : List Int) : Prop where
  S : StAt H st g l
  hh : HpAt H hp G as
  Ty : Ty ts G
  tA : TrAt H t tv
  uA : TrAt H u uv
  w : H wa = some (.tup (ws.map V.str))
  r : H ra = some (.lst (rs.map V.int))
  n : ∀ r ∈ rs, NodeT ts t r
  o : ∀ b ∈ hp :: as, b ∉ [st, g, l]
  ro : ra ∉ st :: g :: l :: hp :: as
theorem Ld.same {H H' : Hp} {st g l hp ra : Addr} {t u : Tr} {tv uv : V} {wa : Addr} {ws : List Str} {G : Gi} {as : List Addr} {ts : List Tr} {rs : List Int} (h : Ld H st g l hp ra t u tv uv wa ws G as ts rs) (s : Same H H') : Ld H' st g l hp ra t u tv uv wa ws G as ts rs :=
  ⟨h.S.same s, h.hh.same s, h.Ty, h.tA.same s, h.uA.same s, s _ _ h.w, s _ _ h.r, h.n, h.o, h.ro⟩
theorem Ld.kp {H H' : Hp} {st g l hp ra : Addr} {t u : Tr} {tv uv : V} {wa : Addr} {ws : List Str} {G : Gi} {as : List Addr} {ts : List Tr} {rs : List Int} (h : Ld H st g l hp ra t u tv uv wa ws G as ts rs) (S : StAt H' st g l) (k : Kp st g l H H') : Ld H' st g l hp ra t u tv uv wa ws G as ts rs := by
  have r := h.ro
  simp only [List.mem_cons, not_or] at r
  exact ⟨S, h.hh.kp k h.o, h.Ty, h.tA.tups (kp_tups h.S k), h.uA.tups (kp_tups h.S k), kp_tups h.S k _ _ h.w, k _ _ h.r r.1 r.2.1 r.2.2.1, h.n, h.o, h.ro⟩
theorem Ld.mutD {H : Hp} {st g l hp ra : Addr} {t u : Tr} {tv uv : V} {wa : Addr} {ws : List Str} {G : Gi} {as : List Addr} {ts : List Tr} {rs : List Int} (h : Ld H st g l hp ra t u tv uv wa ws G as ts rs) {D : Addr} {zs ys : List V} (n : D ≠ ra) (n2 : D ∉ hp :: as) (d1 : D ≠ st) (d2 : D ≠ g) (d3 : D ≠ l) (e : H D = some (.lst zs)) : Ld (upd H D (.lst ys)) st g l hp ra t u tv uv wa ws G as ts rs := by
  have mt := mut_tups (ys := ys) e
  exact ⟨h.S.upd d1 d2 d3, h.hh.kn (N := [D]) (Kn.upd (by simp)) (fun b hb z => n2 (by rw [← List.mem_singleton.mp z]; exact hb)), h.Ty, h.tA.tups mt, h.uA.tups mt, mt _ _ h.w, by rw [upd_ne n.symm]; exact h.r, h.n, h.o, h.ro⟩
theorem StAt.knN {N : List Addr} {st g l : Addr} {H H' : Hp} (S : StAt H st g l) (k : Kn N H H') (h1 : st ∉ N) (h2 : g ∉ N) (h3 : l ∉ N) : StAt H' st g l := by
  obtain ⟨⟨gs, ls, c, x, e1, e2, e3, r⟩, n1, n2, n3⟩ := S
  exact ⟨⟨gs, ls, c, x, k _ _ e1 h1, k _ _ e2 h2, k _ _ e3 h3, r⟩, n1, n2, n3⟩
theorem Ld.app {H H' : Hp} {st g l hp ra : Addr} {t u : Tr} {tv uv : V} {wa : Addr} {ws : List Str} {G : Gi} {as : List Addr} {ts : List Tr} {rs : List Int} (h : Ld H st g l hp ra t u tv uv wa ws G as ts rs) {D : Addr} {zs : List V} {G2 : Gi} {ts2 : List Tr} {as2 : List Addr} {n : Nat} (hh : HpAt H' hp (G ++ G2) (as ++ as2)) (T : Ni.Ty (ts ++ ts2) (G ++ G2)) (e : (ts ++ ts2)[n]? = some t) (nw : ∀ b ∈ as2, H b = none) (k : Kn [hp, D] H H') (eD : H D = some (.lst zs)) (oD : D ∉ [st, g, l, ra]) :
    H' ra = some (.lst (rs.map V.int)) ∧ Ld (upd H' ra (.lst (rs.map V.int ++ [.int (n : Nat)]))) st g l hp ra t u tv uv wa ws (G ++ G2) (as ++ as2) (ts ++ ts2) (rs ++ [((n : Nat) : Int)]) := by
  have o := h.o hp (List.mem_cons_self ..)
  have ro := h.ro
  simp only [List.mem_cons, List.not_mem_nil, or_false, not_or] at o ro oD
  have era : H' ra = some (.lst (rs.map V.int)) := k _ _ h.r (by simp only [List.mem_cons, List.not_mem_nil, or_false, not_or]; exact ⟨ro.2.2.2.1, fun z => oD.2.2.2 z.symm⟩)
  have S' : StAt H' st g l := StAt.knN h.S k (by simp only [List.mem_cons, List.not_mem_nil, or_false, not_or]; exact ⟨fun z => o.1 z.symm, fun z => oD.1 z.symm⟩) (by simp only [List.mem_cons, List.not_mem_nil, or_false, not_or]; exact ⟨fun z => o.2.1 z.symm, fun z => oD.2.1 z.symm⟩) (by simp only [List.mem_cons, List.not_mem_nil, or_false, not_or]; exact ⟨fun z => o.2.2 z.symm, fun z => oD.2.2.1 z.symm⟩)
  have tu : ∀ c xs, H c = some (.tup xs) → (upd H' ra (.lst (rs.map V.int ++ [.int (n : Nat)]))) c = some (.tup xs) := fun c xs e => by
    rw [upd_ne fun z => by rw [z, h.r] at e; cases e]
    exact k _ _ e (by
      simp only [List.mem_cons, List.not_mem_nil, or_false, not_or]
      exact ⟨(fun z => by rw [z, h.hh.at_] at e; cases e), (fun z => by rw [z, eD] at e; cases e)⟩)
  have ra2 : ra ∉ as2 := fun z => by
    have := nw _ z
    rw [h.r] at this
    cases this
  have st2 : ∀ b ∈ as2, b ∉ [st, g, l] := fun b hb z => by
    have e0 := nw b hb
    obtain ⟨xs, e1⟩ := st_lists h.S b z
    rw [e1] at e0
    cases e0
  refine ⟨era, S'.upd ro.1 ro.2.1 ro.2.2.1, hh.kn (N := [ra]) (Kn.upd (by simp)) (fun b hb z => ?_), T, h.tA.tups tu, h.uA.tups tu, tu _ _ h.w, by rw [upd_same, List.map_append]; rfl, fun r hr => ?_, fun b hb => ?_, ?_⟩
  · rw [List.mem_singleton.mp z] at hb
    rcases List.mem_cons.mp hb with hb | hb
    · exact ro.2.2.2.1 hb
    · rcases List.mem_append.mp hb with hb | hb
      · exact ro.2.2.2.2 hb
      · exact ra2 hb
  · rcases List.mem_append.mp hr with hr | hr
    · exact (h.n r hr).mono
    · rw [List.mem_singleton.mp hr]
      exact fun _ => ⟨n, rfl, e⟩
  · rcases List.mem_cons.mp hb with hb | hb
    · rw [hb]; exact h.o hp (List.mem_cons_self ..)
    · rcases List.mem_append.mp hb with hb | hb
      · exact h.o b (List.mem_cons_of_mem _ hb)
      · exact st2 b hb
  · simp only [List.mem_cons, List.mem_append, not_or]
    exact ⟨ro.1, ro.2.1, ro.2.2.1, ro.2.2.2.1, ro.2.2.2.2, ra2⟩
theorem Ld.shr {H H' : Hp} {st g l hp ra : Addr} {t u : Tr} {tv uv : V} {wa : Addr} {ws : List Str} {G G' : Gi} {as : List Addr} {ts : List Tr} {rs : List Int} (h : Ld H st g l hp ra t u tv uv wa ws G as ts rs) (hh : HpAt H' hp G' as) (T : Ni.Ty ts G') (S : StAt H' st g l) (k : Kn (st :: g :: l :: as) H H') : Ld H' st g l hp ra t u tv uv wa ws G' as ts rs := by
  have tu : ∀ c xs, H c = some (.tup xs) → H' c = some (.tup xs) := tups_of k fun b hb => shN h.S h.hh hb
  have ro := h.ro
  simp only [List.mem_cons, not_or] at ro
  exact ⟨S, hh, T, h.tA.tups tu, h.uA.tups tu, tu _ _ h.w, k _ _ h.r (by simp only [List.mem_cons, not_or]; exact ⟨ro.1, ro.2.1, ro.2.2.1, ro.2.2.2.2⟩), h.n, h.o, h.ro⟩
theorem fs_dtv {H : Hp} : ∀ {t : Tr} {ps : List V}, FsAt H t ps → DtVs [] H ps (trF t)
  | .nil, ps, h => by
    have e : ps = [] := h
    subst e
    exact .nil
  | .cons w t r, ps, h => by
    obtain ⟨p, q, qs, rfl, h2, ⟨a, ps', rfl, h3, h4⟩, h5⟩ := h
    exact .cons (.tup h2 (by simp) (.cons (.str w) (.cons (.tup h3 (by simp) (fs_dtv h4)) .nil))) (fs_dtv h5)
theorem tr_dtv {H : Hp} {t : Tr} {v : V} (h : TrAt H t v) : DtV [] H v (trD t) := by
  obtain ⟨a, ps, rfl, h1, h2⟩ := h
  exact .tup h1 (by simp) (fs_dtv h2)
theorem trF_len : ∀ t : Tr, (trF t).length = t.fields.length
  | .nil => rfl
  | .cons w t r => by
    show (trF r).length + 1 = r.fields.length + 1
    rw [trF_len r]
theorem trF_row : ∀ {t : Tr} {e : PyData}, e ∈ trF t → ∃ z d, e = .tuple [.str z, d]
  | .cons w t r, e, h => by
    rcases List.mem_cons.mp (show e ∈ .tuple [.str w, .tuple (trF t)] :: trF r from h) with rfl | h
    · exact ⟨_, _, rfl⟩
    · exact trF_row h
theorem tr_small {t : Tr} (h : t.fields.length ≤ 50) : smallD (trD t) := by
  intro ds e
  have e : PyData.tuple (trF t) = .tuple ds := e
  injection e with e
  subst e
  refine ⟨by rw [trF_len]; exact h, fun r hr es e => ?_⟩
  obtain ⟨z, d, rfl⟩ := trF_row hr
  cases e
  show 2 ≤ 50
  decide
theorem lst_dtv {H : Hp} {G : Gi} : ∀ {as : List Addr}, (∀ (i : Nat) (a : Addr), as[i]? = some a → ∃ c : List Int, H a = some (.lst (c.map V.int))) → ∃ ds, DtVs [] H (as.map V.ref) ds
  | [], _ => ⟨[], .nil⟩
  | a :: as, h => by
    obtain ⟨c, hc⟩ := h 0 a rfl
    obtain ⟨ds, hd⟩ := lst_dtv (G := G) (as := as) fun i b hb => h (i + 1) b hb
    exact ⟨_, .cons (.lst hc (by simp) (dtvs_int c)) hd⟩
theorem hp_dtv {H : Hp} {hp : Addr} {G : Gi} {as : List Addr} (h : HpAt H hp G as) : ∃ ds, DtV [] H (.ref hp) (.list ds) := by
  obtain ⟨ds, hd⟩ := lst_dtv (G := G) (as := as) fun i a ha => by
    obtain ⟨c, hc⟩ : ∃ c, G[i]? = some c := ⟨_, List.getElem?_eq_getElem (by rw [← h.len]; exact (List.getElem?_eq_some_iff.mp ha).1)⟩
    exact ⟨c, h.cs i a c ha hc⟩
  exact ⟨ds, .lst h.at_ (by simp) hd⟩
structure Lw (K : PySem.W.Frag) (H : Hp) (st g l bk wx wdx hx hdx : Addr) (z z2 : Str) (gs : Sg) (u : Tr) (tv uv : V) : Prop where
  S : StAt H st g l
  B : BookAt [st, g, l] K H bk z gs []
  wo : H wx = some (.ins (He.ga K "Worlds") wdx [("book", .ref bk)])
  ho : H hx = some (.ins (He.ga K "HeldWorlds") hdx [("book", .ref bk), ("path", .str z2)])
  tA : TrAt H gs.tr tv
  uA : TrAt H u uv
theorem Lw.kp {K : PySem.W.Frag} {H H' : Hp} {st g l bk wx wdx hx hdx : Addr} {z z2 : Str} {gs : Sg} {u : Tr} {tv uv : V} (h : Lw K H st g l bk wx wdx hx hdx z z2 gs u tv uv) (S : StAt H' st g l) (k : Kp st g l H H') : Lw K H' st g l bk wx wdx hx hdx z z2 gs u tv uv := by
  have off : ∀ {x C dx : Addr} {fs : List (Str × V)}, H x = some (.ins C dx fs) → H' x = some (.ins C dx fs) := fun {x C dx fs} e => k _ _ e (fun z => by obtain ⟨xs, e2⟩ := st_lists h.S st (by simp); rw [z, e2] at e; cases e) (fun z => by obtain ⟨xs, e2⟩ := st_lists h.S g (by simp); rw [z, e2] at e; cases e) (fun z => by obtain ⟨xs, e2⟩ := st_lists h.S l (by simp); rw [z, e2] at e; cases e)
  exact ⟨S, h.B.kn (LsN.st h.S) (Kn.kp k (by simp) (by simp) (by simp)), off h.wo, off h.ho, h.tA.tups (kp_tups h.S k), h.uA.tups (kp_tups h.S k)⟩
theorem Lw.same {K : PySem.W.Frag} {H H' : Hp} {st g l bk wx wdx hx hdx : Addr} {z z2 : Str} {gs : Sg} {u : Tr} {tv uv : V} (h : Lw K H st g l bk wx wdx hx hdx z z2 gs u tv uv) (s : Same H H') : Lw K H' st g l bk wx wdx hx hdx z z2 gs u tv uv := h.kp (h.S.same s) (Kp.of s)
theorem RwV.ints {k : Nat} {st g l p : Addr} {H : Hp} {is : List Int} (S : StAt H st g l) (e : H p = some (.tup (is.map V.int))) (h : is.length ≤ k) : RwV k [st, g, l] H (.ref p) :=
  ⟨p, _, rfl, .inl e, (fun z => by obtain ⟨ws, e2⟩ := st_lists S p z; rw [e2] at e; cases e), (by rw [List.length_map]; exact h), (fun y hy => by obtain ⟨i, _, rfl⟩ := List.mem_map.mp hy; exact .inl ⟨i, rfl⟩)⟩
theorem few_fs {t : Tr} (gd : good t) : t.fields.length ≤ 3 := by
  rcases gd.1 with e | hf
  · rw [e]; exact Nat.zero_le _
  · exact fineF_len hf
theorem held_len {t u : Tr} {ds : List PyData} (h : ds.length ≠ 5) : heldD t u (.tuple ds) = false := by
  unfold heldD
  split
  · rename_i e
    injection e with e
    subst e
    exact absurd rfl h
  · rfl
end Ni
namespace Lx
open PySem PySem.Spec PyProof.Rows L2 Ub Ur Ug Ue Up Uo Ve Va Vk Wb Pt Gr Sb Rw Ni
section
variable {P : Program} {w : World} {K : PySem.W.Frag} {mg : Str → Option Value} {base : Heap}
theorem sc_law : FnScope ["_law_script", "_law_state", "_law_tree_here", "_law_pairs", "_law_words", "_law_below_here", "_law_heap", "_law_roots", "_law_turn", "_law_row", "_law_held", "_law_seen", "_law_book", "_law_each", "_law_late", "_law_one", "_law_other", "_law_form_here", "_law_change", "_law_pair", "_law_place"] ["_law_script"] (defScope s_law) := ⟨rfl, rfl, rfl, by decide +kernel, rfl, by decide +kernel, by decide +kernel⟩
def sp_law (K : PySem.W.Frag) : Sp := fun vs H Q _ => ∃ (a : Addr) (ns : List Int), vs = [.ref a] ∧ SqL K H a (ns.map V.int) ∧ ns.length ≤ 63 ∧ ∀ H', Q (.bl true) H'
theorem ok_law {f : Addr} {fd : FuncData} (F : FunD K "law" "law" (defArgs s_law) (defBody s_law) (defScope s_law) [] [] f fd) (T : Tx K mg) (c_law_start : Cal P w K mg base 1 "_law_start" ["_law_script"] (sp_start K)) (c_law_draw : Cal P w K mg base 1 "_law_draw" ["_law_state", "_law_many"] sp_draw) (c_law_of : Cal P w K mg base 2 "_law_of" ["_law_state", "_law_some"] sp_of) (c_law_shape : Cal P w K mg base 9 "_law_shape" ["_law_state", "_law_records", "_law_plains"] sp_lshape) (c_law_paths : Cal P w K mg base 4 "_law_paths" ["_law_tree_here"] (sp_wpaths3 4)) (c_law_size : Cal P w K mg base 4 "_law_size" ["_law_tree_here"] (sp_size 4)) (c_law_made : Cal P w K mg base 4 "_law_made" ["_law_heap", "_law_tree_here", "_law_values"] (sp_made 4)) (c_law_shared : Cal P w K mg base 5 "_law_shared" ["_law_state", "_law_heap", "_law_tree_here", "_law_roots"] sp_shared) (c_law_get : Cal P w K mg base 3 "_law_get" ["_law_heap", "_law_tree_here", "_law_node", "_law_words"] sp_get) (c_law_text : Cal P w K mg base 8 "_law_text" ["_law_tree_here"] (sp_tree 4 fun t => .str t.text)) (c_law_path : Cal P w K mg base 1 "_law_path" ["_law_words"] sp_wpath) (c_law_form : Cal P w K mg base 5 "_law_form" ["_law_heap", "_law_tree_here", "_law_root"] sp_form) (c_law_held_form : Cal P w K mg base 5 "_law_held_form" ["_law_heap", "_law_tree_here", "_law_root", "_law_below_here", "_law_held", "_law_seen"] sp_hform) (c_law_spoiled : Cal P w K mg base 3 "_law_spoiled" ["_law_state", "_law_form_here"] sp_spoiled) (c_law_is_world : Cal P w K mg base 9 "_law_is_world" ["_law_shapes", "_law_form_here"] sp_isworld) (m_Book : CalM P w K mg base 20 "Book" (He.ga K "Book") ["self", "text"] (sp_book0 K)) (m_Worlds : CalM P w K mg base 1 "Worlds" (He.ga K "Worlds") ["self", "book"] (sp_winit K)) (m_HeldWorlds : CalM P w K mg base 8 "HeldWorlds" (He.ga K "HeldWorlds") ["self", "book", "path"] (sp_hinit K)) (k_Worlds_contains : CalK P w K mg base CX0 10 (He.ga K "Worlds") "__contains__" ["self", "form"] (sp_wcon K)) (k_HeldWorlds_contains : CalK P w K mg base CX0 10 (He.ga K "HeldWorlds") "__contains__" ["self", "form"] (sp_hcon K)) : Ug.FnG P w K mg base CX0 30 f fd ["_law_script"] (sp_law K) := by
  refine okG F sc_law (fun vs H Q E h => by obtain ⟨_, _, rfl, _⟩ := h; rfl) (fun cdv A outer s H vs Q E hG hr h => ?_)
  obtain ⟨a, ns, rfl, hS, hl, q⟩ := h
  refine ⟨_, PSs.nox (pss_cons (ps_set (i := 1) sc_law.nd rfl (by first | exact Or.inl rfl | exact Or.inr rfl) (pe_cal c_law_start (hr.mono (by omega)) (by rfl) (pa_cons (pv 0) pa_nil)))
      (pss_cons (ps_set (i := 2) sc_law.nd rfl (by first | exact Or.inl rfl | exact Or.inr rfl) (pe_cal c_law_shape (hr.mono (by omega)) (by rfl) (pa_cons (pv 1) (pa_cons (pe_op op_add pe_int (pe_cal c_law_draw (hr.mono (by omega)) (by rfl) (pa_cons (pv 1) (pa_cons pe_int pa_nil)))) (pa_cons (pe_op op_add pe_int (pe_cal c_law_draw (hr.mono (by omega)) (by rfl) (pa_cons (pv 1) (pa_cons pe_int pa_nil)))) pa_nil)))))
      (pss_cons (ps_setLc (i := 3) (own := [("_law_pair", 19)]) (by rfl) sc_law.nd rfl rfl (sw_true rfl rfl rfl (by decide +kernel)) (pi_listK K (pe_cal c_law_paths (hr.mono (by omega)) (by rfl) (pa_cons (pv 2) pa_nil))) (blkOk_by (N := ["_law_script", "_law_state", "_law_tree_here", "_law_pairs", "_law_words", "_law_below_here", "_law_heap", "_law_roots", "_law_turn", "_law_row", "_law_held", "_law_seen", "_law_book", "_law_each", "_law_late", "_law_one", "_law_other", "_law_form_here", "_law_change", "_law_pair", "_law_place"]) (sc := (defScope s_law)) (by decide +kernel)) (fun _ _ _ _ _ => (pg_name (i := 19) sc_law.nd rfl (by first | exact Or.inl rfl | exact Or.inr rfl))) (fun _ _ _ _ _ => pts_one (pt_cmpR (op_neDK K hr.units) (pe_ix (ix_tupK K) (pv 19) pe_int (fun _ _ => rfl)) (pe_tup pa_nil) (nomark _))) (fun _ _ _ _ _ => (pv 19)))
      (pss_cons (ps_asg (pe_cal c_law_of (hr.mono (by omega)) (by rfl) (pa_cons (pv 1) (pa_cons (pv 3) pa_nil))) (pg_tupK K (n := 2) rfl (pgs_cons (pg_name (i := 4) sc_law.nd rfl (by first | exact Or.inl rfl | exact Or.inr rfl)) (pgs_cons (pg_name (i := 5) sc_law.nd rfl (by first | exact Or.inl rfl | exact Or.inr rfl)) pgs_nil))))
      (pss_cons (ps_par (i := 6) (j := 7) (by rfl) sc_law.nd rfl rfl (by decide) rfl rfl (pa_cons (pe_lst pa_nil) (pa_cons (pe_lst pa_nil) pa_nil)) (by rfl))
      (pss_cons (ps_for PassesOwn.never rfl (pi_range1 (by rfl) T.range (pa_cons pe_int pa_nil)) (pg_name (i := 8) sc_law.nd rfl (by first | exact Or.inl rfl | exact Or.inr rfl))
        (pss_cons (ps_setLc (i := 9) (own := [("_law_place", 20)]) (by rfl) sc_law.nd rfl rfl (sw_true rfl rfl rfl (by decide +kernel)) (pi_range1 (by rfl) T.range (pa_cons (pe_ix (ix_tupK K) (pe_cal c_law_size (hr.mono (by omega)) (by rfl) (pa_cons (pv 2) pa_nil)) pe_int (fun _ _ => rfl)) pa_nil)) (blkOk_by (N := ["_law_script", "_law_state", "_law_tree_here", "_law_pairs", "_law_words", "_law_below_here", "_law_heap", "_law_roots", "_law_turn", "_law_row", "_law_held", "_law_seen", "_law_book", "_law_each", "_law_late", "_law_one", "_law_other", "_law_form_here", "_law_change", "_law_pair", "_law_place"]) (sc := (defScope s_law)) (by decide +kernel)) (fun _ _ _ _ _ => (pg_name (i := 20) sc_law.nd rfl (by first | exact Or.inl rfl | exact Or.inr rfl))) (fun _ _ _ _ _ => pts_nil) (fun _ _ _ _ _ => (pe_cal c_law_draw (hr.mono (by omega)) (by rfl) (pa_cons (pv 1) (pa_cons pe_int pa_nil)))))
          (pss_one (ps_expr (pe_bmK K PySem.F.plainAttrs_list PySem.F.slot_list_append PySem.F.type_list_append mt_append (pv 7) (pa_cons (pe_cal c_law_made (hr.mono (by omega)) (by rfl) (pa_cons (pv 6) (pa_cons (pv 2) (pa_cons (pv 9) pa_nil)))) pa_nil))))))
      (pss_cons (ps_expr (pe_cal c_law_shared (hr.mono (by omega)) (by rfl) (pa_cons (pv 1) (pa_cons (pv 6) (pa_cons (pv 2) (pa_cons (pv 7) pa_nil))))))
      (pss_cons (ps_set (i := 10) sc_law.nd rfl (by first | exact Or.inl rfl | exact Or.inr rfl) (pe_cal c_law_get (hr.mono (by omega)) (by rfl) (pa_cons (pv 6) (pa_cons (pv 2) (pa_cons (pe_cal c_law_of (hr.mono (by omega)) (by rfl) (pa_cons (pv 1) (pa_cons (pv 7) pa_nil))) (pa_cons (pv 4) pa_nil))))))
      (pss_cons (ps_setLc (i := 11) (own := [("_law_place", 20)]) (by rfl) sc_law.nd rfl rfl (sw_true rfl rfl rfl (by decide +kernel)) (pi_range1 (by rfl) T.range (pa_cons (pe_ix (ix_tupK K) (pe_cal c_law_size (hr.mono (by omega)) (by rfl) (pa_cons (pv 5) pa_nil)) pe_int (fun _ _ => rfl)) pa_nil)) (blkOk_by (N := ["_law_script", "_law_state", "_law_tree_here", "_law_pairs", "_law_words", "_law_below_here", "_law_heap", "_law_roots", "_law_turn", "_law_row", "_law_held", "_law_seen", "_law_book", "_law_each", "_law_late", "_law_one", "_law_other", "_law_form_here", "_law_change", "_law_pair", "_law_place"]) (sc := (defScope s_law)) (by decide +kernel)) (fun _ _ _ _ _ => (pg_name (i := 20) sc_law.nd rfl (by first | exact Or.inl rfl | exact Or.inr rfl))) (fun _ _ _ _ _ => pts_nil) (fun _ _ _ _ _ => (pe_cal c_law_draw (hr.mono (by omega)) (by rfl) (pa_cons (pv 1) (pa_cons pe_int pa_nil)))))
      (pss_cons (ps_set (i := 12) sc_law.nd rfl (by first | exact Or.inl rfl | exact Or.inr rfl) (pe_makeS m_Book (fun _ => passE0) (hr.mono (by omega)) (by rfl) (pa_cons (pe_op op_add_str pe_str (pe_cal c_law_text (hr.mono (by omega)) (by rfl) (pa_cons (pv 2) pa_nil))) pa_nil)))
      (pss_cons (ps_set (i := 13) sc_law.nd rfl (by first | exact Or.inl rfl | exact Or.inr rfl) (pe_makeS m_Worlds (fun _ => passE0) (hr.mono (by omega)) (by rfl) (pa_cons (pv 12) pa_nil)))
      (pss_cons (ps_set (i := 14) sc_law.nd rfl (by first | exact Or.inl rfl | exact Or.inr rfl) (pe_makeS m_HeldWorlds (fun _ => passE0) (hr.mono (by omega)) (by rfl) (pa_cons (pv 12) (pa_cons (pe_cal c_law_path (hr.mono (by omega)) (by rfl) (pa_cons (pv 4) pa_nil)) pa_nil))))
      (pss_cons (ps_set (i := 15) sc_law.nd rfl (by first | exact Or.inl rfl | exact Or.inr rfl) (pe_cal c_law_form (hr.mono (by omega)) (by rfl) (pa_cons (pv 6) (pa_cons (pv 2) (pa_cons (pe_ix (ix_listK K) (pv 7) pe_int (fun _ _ => rfl)) pa_nil)))))
      (pss_cons (ps_set (i := 16) sc_law.nd rfl (by first | exact Or.inl rfl | exact Or.inr rfl) (pe_cal c_law_held_form (hr.mono (by omega)) (by rfl) (pa_cons (pv 6) (pa_cons (pv 2) (pa_cons (pe_ix (ix_listK K) (pv 7) pe_int (fun _ _ => rfl)) (pa_cons (pv 5) (pa_cons (pv 10) (pa_cons (pv 11) pa_nil))))))))
      (pss_cons (ps_if (PW.pt (pw_or (pt_cmpR (op_notInO k_Worlds_contains (E := E0) (fun _ => pas0) (hr.mono (by omega))) (pv 15) (pv 13) (by rfl)) (pw_or1 (pt_cmpR (op_notInO k_HeldWorlds_contains (E := E0) (fun _ => pas0) (hr.mono (by omega))) (pv 16) (pv 14) (by rfl)))))
        (pss_one (ps_ret pe_bl))
        pss_nil)
      (pss_cons (ps_if (PW.pt (pw_or (pt_cmpR (op_inO k_HeldWorlds_contains (E := E0) (fun _ => pas0) (hr.mono (by omega))) (pv 15) (pv 14) (by rfl)) (pw_or1 (pt_cmpR (op_inO k_Worlds_contains (E := E0) (fun _ => pas0) (hr.mono (by omega))) (pv 16) (pv 13) (by rfl)))))
        (pss_one (ps_ret pe_bl))
        pss_nil)
      (pss_cons (ps_if (PW.pt (pw_or (pt_cmpR (op_inO k_Worlds_contains (E := E0) (fun _ => pas0) (hr.mono (by omega))) (pv 6) (pv 13) (by rfl)) (pw_or (pt_cmpR (op_inO k_HeldWorlds_contains (E := E0) (fun _ => pas0) (hr.mono (by omega))) (pv 6) (pv 14) (by rfl)) (pw_or1 (pt_cmpR (op_inO k_HeldWorlds_contains (E := E0) (fun _ => pas0) (hr.mono (by omega))) (pv 2) (pv 14) (by rfl))))))
        (pss_one (ps_ret pe_bl))
        pss_nil)
      (pss_cons (ps_for PassesOwn.never rfl (pi_range1 (by rfl) T.range (pa_cons pe_int pa_nil)) (pg_name (i := 8) sc_law.nd rfl (by first | exact Or.inl rfl | exact Or.inr rfl))
        (pss_cons (ps_set (i := 17) sc_law.nd rfl (by first | exact Or.inl rfl | exact Or.inr rfl) (pe_ifExp (pt_truthK K (pe_op op_mod (pv 8) pe_int) (by intro _; rfl)) (pv 15) (pv 16)))
          (pss_cons (ps_for PassesOwn.never rfl (pi_range1 (by rfl) T.range (pa_cons (pe_op op_add pe_int (pe_cal c_law_draw (hr.mono (by omega)) (by rfl) (pa_cons (pv 1) (pa_cons pe_int pa_nil)))) pa_nil)) (pg_name (i := 18) sc_law.nd rfl (by first | exact Or.inl rfl | exact Or.inr rfl))
            (pss_one (ps_set (i := 17) sc_law.nd rfl (by first | exact Or.inl rfl | exact Or.inr rfl) (pe_cal c_law_spoiled (hr.mono (by omega)) (by rfl) (pa_cons (pv 1) (pa_cons (pv 17) pa_nil))))))
          (pss_cons (ps_if (pt_cmpR op_ne (pe_cmpR (op_inO k_Worlds_contains (E := E0) (fun _ => pas0) (hr.mono (by omega))) (pv 17) (pv 13) (by rfl)) (pe_cal c_law_is_world (hr.mono (by omega)) (by rfl) (pa_cons (pe_lst (pa_cons (pv 2) pa_nil)) (pa_cons (pv 17) pa_nil))) (nomark _))
            (pss_one (ps_ret pe_bl))
            pss_nil)
          (pss_one (ps_if (pt_cmpR op_ne (pe_cmpR (op_inO k_HeldWorlds_contains (E := E0) (fun _ => pas0) (hr.mono (by omega))) (pv 17) (pv 14) (by rfl)) (pe_cal c_law_is_world (hr.mono (by omega)) (by rfl) (pa_cons (pe_lst (pa_cons (pv 2) (pa_cons (pv 5) pa_nil))) (pa_cons (pv 17) pa_nil))) (nomark _))
            (pss_one (ps_ret pe_bl))
            pss_nil))))))
      (pss_one (ps_ret pe_bl)))))))))))))))))))), ?_⟩
  refine ⟨_, rfl, a, ns, rfl, hS, hl, fun st g l H1 n1 n2 n3 S1 s1 => ?_⟩
  dsimp only [gName]
  clear s1 n1 n2 n3 hS
  refine ⟨_, rfl, _, rfl, st, g, l, 5, rfl, by decide, by decide, S1, fun d1 H2 a0 a1 S2 k2 => ⟨_, _, rfl, rfl, _, rfl, st, g, l, 5, rfl, by decide, by decide, S2, fun d2 H3 b0 b1 S3 k3 => ⟨_, _, rfl, rfl, ?_⟩⟩⟩
  refine ⟨st, g, l, 1 + d1, 1 + d2, rfl, by omega, by omega, by omega, by omega, S3, fun t tv H4 gt tn at_ S4 k4 => ?_⟩
  clear k2 k3 k4 S1 S2 S3
  dsimp only [gName]
  -- the paths of records
  have md := (good_has gt).1
  refine ⟨_, rfl, t, tv, rfl, at_, by omega, gt, fun D ps H5 s5 nD eD wps => ⟨D, rfl, ⟨_, .inl (.inl eD)⟩, fun W nW => ?_⟩⟩
  have at5 := at_.same s5
  have S5 := S4.same s5
  clear at_ S4 s5 nD
  have lps : ps.length = (wpaths t).length := wps.1
  have lwp : (wpaths t).length = 1 + t.size := wp_len
  have szt := (good_has gt).2.1
  have lz : (ps.zip (wpaths t)).length = ps.length := by rw [List.length_zip, lps]; omega
  have zat : ∀ {i : Nat} {m : V × (List Str × Tr)}, (ps.zip (wpaths t))[i]? = some m → ps[i]? = some m.1 ∧ (wpaths t)[i]? = some m.2 := fun h => List.getElem?_zip_eq_some.mp h
  refine lcM (walk_list (xs := ps)) (ps.zip (wpaths t)) lz (fun m => if (!m.2.2.isNil) = true then some m.1 else none) (fun H s => s.seq (.inl (.inl eD))) (Nat.le_trans (show ps.length ≤ 1000 by omega) (by decide)) nW (fun j x m H' hx hm s' => ?_) (fun H6 s6 d6 => ?_)
  · obtain ⟨z1, z2⟩ := zat hm
    rw [hx] at z1
    cases z1
    intro Q1 Q0 h1 h0
    obtain ⟨p, wa, mv, ep, e1, e2, e3⟩ := wps.2 j m.1 m.2 hx z2
    rw [ep]
    refine ⟨rfl, _, rfl, p, _, 1, mv, rfl, rfl, .inl (.inl (s' _ _ e1)), rfl, Nat.zero_le _, fun u nu => ?_⟩
    have su := same_upd (o := .tup []) nu
    have gm : good m.2.2 := by
      have hmp : (ptext m.2.1, m.2.2) ∈ paths t := by rw [← wpaths_text]; exact List.mem_map.mpr ⟨_, List.mem_of_getElem? z2, rfl⟩
      exact (paths_good 3 (good_has gt).1 gt _ hmp).g
    refine ⟨trD m.2.2, .tuple [], tr_dp ((e3.same s').same su), (DtV.tup (N := []) upd_same (by simp) .nil).dp, trD_shaped gm, by decide, _, rfl, ?_⟩
    rw [nil_eqv]
    cases c : m.2.2.isNil with
    | true => exact iteF (h0 _ (by rw [c]; rfl) su)
    | false => exact iteT ⟨_, rfl, h1 _ _ (by rw [c]; show some m.1 = _; rw [ep]) su⟩
  have at6 := at5.same s6
  have S6 := S5.same s6
  have wps6 := wps.tups fun c xs e => s6 _ _ e
  obtain ⟨w1, w2, w3⟩ := S5.ne nW
  clear at5 S5 wps s6
  have mem6 : ∀ v ∈ (ps.zip (wpaths t)).filterMap (fun m => if (!m.2.2.isNil) = true then some m.1 else none), ∃ m ∈ wpaths t, m.2.isNil = false ∧ WpAt H6 v m := fun v hv => by
    obtain ⟨m, hm, e⟩ := List.mem_filterMap.mp hv
    obtain ⟨j, hj⟩ := List.getElem?_of_mem hm
    obtain ⟨z1, z2⟩ := zat hj
    cases c : m.2.2.isNil with
    | true => rw [c] at e; cases e
    | false =>
      rw [c] at e
      have e : some m.1 = some v := e
      cases e
      exact ⟨m.2, List.mem_of_getElem? z2, c, wps6.2 j _ _ z1 z2⟩
  have ne6 : (ps.zip (wpaths t)).filterMap (fun m => if (!m.2.2.isNil) = true then some m.1 else none) ≠ [] := by
    cases ps with
    | nil => exfalso; rw [lwp] at lps; simp at lps; omega
    | cons p0 ps =>
      show List.filterMap _ ((p0, ([], t)) :: ps.zip (wfp t)) ≠ []
      rw [List.filterMap_cons_some (b := p0) (by show (if (!t.isNil) = true then some p0 else none) = _; rw [tn]; rfl)]
      simp
  have l6 : ((ps.zip (wpaths t)).filterMap (fun m => if (!m.2.2.isNil) = true then some m.1 else none)).length ≤ 1000 := Nat.le_trans (List.length_filterMap_le _ _) (by rw [lz]; omega)
  generalize (ps.zip (wpaths t)).filterMap (fun m => if (!m.2.2.isNil) = true then some m.1 else none) = pv at *
  dsimp only [gName]
  refine ⟨_, rfl, _, rfl, st, g, l, W, pv, rfl, d6, w1, w2, w3, ne6, l6, S6, fun v H7 hv S7 k7 => ?_⟩
  obtain ⟨m, hm, mn, p, wa, uv, rfl, e1, e2, e3⟩ := mem6 v hv
  have tu7 := kp_tups S6 k7
  have at7 := at6.tups tu7
  have e17 := tu7 _ _ e1
  have e27 := tu7 _ _ e2
  have e37 := e3.tups tu7
  clear mem6 ne6 l6 hv d6 S6 at6 e1 e2 e3 k7 tu7 wps6 zat lz lps lwp eD nW w1 w2 w3
  have hmp : (ptext m.1, m.2) ∈ paths t := by rw [← wpaths_text]; exact List.mem_map.mpr ⟨_, hm, rfl⟩
  have gu : good m.2 := (paths_good 3 (good_has gt).1 gt _ hmp).g
  refine ⟨p, _, rfl, .inl (.inl e17), rfl, _, _, rfl, _, _, rfl, rfl, ?_⟩
  dsimp only
  refine ⟨Nat.zero_le _, fun hp nhp => ⟨Nat.zero_le _, fun ra nra => ?_⟩⟩
  have sA := same_upd (o := .lst []) nhp
  have sB := same_upd (o := .lst []) nra
  have ehp : (upd (upd H7 hp (.lst [])) ra (.lst [])) hp = some (.lst []) := sB _ _ upd_same
  have era : (upd (upd H7 hp (.lst [])) ra (.lst [])) ra = some (.lst []) := upd_same
  have nra7 : H7 ra = none := sA.free nra
  obtain ⟨h1, h2, h3⟩ := S7.ne nhp
  obtain ⟨r1, r2, r3⟩ := S7.ne nra7
  have rh : ra ≠ hp := fun z => by rw [z] at nra; rw [upd_same] at nra; cases nra
  have sAB := sA.trans sB
  have S8 := S7.same sAB
  have at8 := at7.same sAB
  have e28 := sAB _ _ e27
  have e38 := e37.same sAB
  generalize upd (upd H7 hp (.lst [])) ra (.lst []) = H8 at *
  clear S7 at7 e17 e27 e37 sA sB sAB nhp nra nra7
  have L0 : Ld H8 st g l hp ra t m.2 tv uv wa m.1 [] [] [] [] := ⟨S8, ⟨ehp, rfl, (fun i a c h => nomatch h), List.nodup_nil, (fun h => nomatch h)⟩, ⟨rfl, (fun n u cs h => nomatch h)⟩, at8, e38, e28, era, (fun r h => nomatch h), fun b hb => by
    rw [List.mem_singleton.mp hb]
    simp only [List.mem_cons, List.not_mem_nil, or_false, not_or]
    exact ⟨h1, h2, h3⟩, by
    simp only [List.mem_cons, List.not_mem_nil, or_false, not_or]
    exact ⟨r1, r2, r3, rh⟩⟩
  clear S8 at8 e28 e38 ehp era
  dsimp only [gName]
  refine ⟨_, _, rfl, ?_⟩
  refine ⟨_, rfl, by decide, by decide, ?_⟩
  refine for_range (lo := 0) (n := 2) (fun i σ HX => ∃ (y8 y9 : Option V) (G : Gi) (as : List Addr) (ts : List Tr) (rs : List Int), σ = [some (.ref a), some (.ref st), some tv, some (.ref W), some (.ref wa), some uv, some (.ref hp), some (.ref ra), y8, y9, none, none, none, none, none, none, none, none, none, none, none] ∧ Ld HX st g l hp ra t m.2 tv uv wa m.1 G as ts rs ∧ G.length ≤ 5 * i ∧ rs.length = i) ⟨_, _, [], [], [], [], rfl, L0, Nat.le_refl _, rfl⟩ (fun i σ HX hi pp => ?_) (fun σ HX pp => ?_)
  · obtain ⟨y8, y9, G, as, ts, rs, rfl, L, lG, lr⟩ := pp
    dsimp only [gName]
    refine ⟨_, rfl, t, tv, rfl, L.tA, by omega, by omega, fun pz H9 s9 ez => ⟨pz, _, 1, .int (t.plains : Nat), rfl, rfl, .inl (.inl ez), rfl, _, rfl, by omega, by have := gt.2.2; omega, fun D nD => ?_⟩⟩
    rw [Int.toNat_natCast]
    have L9 := L.same s9
    obtain ⟨D1, D2, D3⟩ := L9.S.ne nD
    have nDr : D ≠ ra := fun z => by rw [z, L9.r] at nD; cases nD
    have nDh : D ∉ hp :: as := no_new L9.hh nD
    clear L s9 ez
    refine lc_range (fun j H2 => ∃ ns : List Int, Ld H2 st g l hp ra t m.2 tv uv wa m.1 G as ts rs ∧ H2 D = some (.lst (ns.map V.int)) ∧ ns.length = j) ?_ (fun j H2 hj hpp => ?_) (fun H2 hpp => ?_)
    · exact ⟨[], L9.same (same_upd nD), upd_same, rfl⟩
    · obtain ⟨ns', L2, eD2, ln⟩ := hpp
      refine ⟨rfl, _, rfl, st, g, l, 3, rfl, by decide, by decide, L2.S, fun d H3 d0 d1 S3 p3 => ?_⟩
      have L3 := L2.kp S3 p3
      have eD3 := p3 _ _ eD2 D1 D2 D3
      refine ⟨_, eD3, by rw [List.length_map]; have := gt.2.2; exact Nat.lt_of_lt_of_le (show ns'.length < 1000 by omega) (by decide), ns' ++ [d], L3.mutD nDr nDh D1 D2 D3 eD3, by rw [upd_same, List.map_append]; rfl, by rw [List.length_append, ln]; rfl⟩
    obtain ⟨ns', L2, eD2, ln⟩ := hpp
    have eplain : t.plains = t.spla := by unfold Tr.plains; rw [tn]; rfl
    have nDo : D ∉ [st, g, l, ra] := by
      simp only [List.mem_cons, List.not_mem_nil, or_false, not_or]
      exact ⟨D1, D2, D3, nDr⟩
    dsimp only [gName]
    refine ⟨_, rfl, .inl ⟨rfl, _, .inl (.inl L2.r)⟩, _, rfl, _, rfl, _, rfl, hp, D, t, tv, G, as, ts, ns', rfl, L2.hh, L2.Ty, L2.tA, gt, by omega, tn, eD2, by omega, by have := gt.2.2; omega, nDh, by have := gt.2.1; omega, fun G2 ts2 as2 n H10 hh T e _ nw k lG2 => ?_⟩
    obtain ⟨era, L10⟩ := L2.app hh T e nw k eD2 nDo
    refine ⟨ra, _, _, rfl, rfl, era, by rw [List.length_map, lr]; exact Nat.lt_of_lt_of_le (show i < 1000 by omega) (by decide), ?_⟩
    exact ⟨_, _, _, _, _, _, rfl, L10, by rw [List.length_append]; have := gt.2.1; omega, by rw [List.length_append, lr]; rfl⟩
  obtain ⟨y8, y9, G, as, ts, rs, rfl, L, lG, lr⟩ := pp
  clear L0
  have rne : rs ≠ [] := fun z => by rw [z] at lr; cases lr
  refine ⟨_, rfl, _, rfl, _, rfl, _, rfl, st, g, l, hp, ra, t, tv, rs, G, as, ts, rfl, L.S, L.hh, L.Ty, L.tA, gt, tn, L.r, rne, by omega, L.n, L.o, L.ro, fun G' H9 hh9 T9 S9 k9 => ?_⟩
  have L9 := L.shr hh9 T9 S9 k9
  clear L hh9 T9 S9 k9 lG G
  dsimp only
  have ro := L9.ro
  simp only [List.mem_cons, not_or] at ro
  refine ⟨_, rfl, _, rfl, _, rfl, _, rfl, st, g, l, ra, _, rfl, L9.r, ro.1, ro.2.1, ro.2.2.1, (fun z => rne (List.map_eq_nil_iff.mp z)), by rw [List.length_map]; omega, L9.S, fun v H10 hv S10 k10 => ?_⟩
  obtain ⟨r, hr, rfl⟩ := List.mem_map.mp hv
  have L10 := L9.kp S10 k10
  refine ⟨_, rfl, hp, t, tv, r, wa, m.1, m.2, G', as, ts, rfl, L10.hh, L10.Ty, L10.tA, gt, L10.n r hr, L10.w, hm, fun hc H11 nhc s11 => ?_⟩
  have L11 := L10.same s11
  clear L9 L10 S10 k10 s11 hv hr
  dsimp only [gName]
  -- seen
  have du := (good_has gu).1
  have su := (good_has gu).2.1
  have pu : m.2.plains ≤ 5 := gu.2.2
  refine ⟨_, rfl, m.2, uv, rfl, L11.uA, by omega, by omega, fun pz H12 s12 ez => ⟨pz, _, 1, .int (m.2.plains : Nat), rfl, rfl, .inl (.inl ez), rfl, _, rfl, by omega, by omega, fun D nD => ?_⟩⟩
  rw [Int.toNat_natCast]
  have L12 := L11.same s12
  obtain ⟨D1, D2, D3⟩ := L12.S.ne nD
  have nDr : D ≠ ra := fun z => by rw [z, L12.r] at nD; cases nD
  have nDh : D ∉ hp :: as := no_new L12.hh nD
  clear L11 s12 ez
  refine lc_range (fun j H2 => ∃ ns : List Int, Ld H2 st g l hp ra t m.2 tv uv wa m.1 G' as ts rs ∧ H2 D = some (.lst (ns.map V.int)) ∧ ns.length = j) ?_ (fun j H2 hj hpp => ?_) (fun H2 hpp => ?_)
  · exact ⟨[], L12.same (same_upd nD), upd_same, rfl⟩
  · obtain ⟨ns', L2, eD2, ln⟩ := hpp
    refine ⟨rfl, _, rfl, st, g, l, 4, rfl, by decide, by decide, L2.S, fun d H3 d0 d1 S3 p3 => ?_⟩
    have L3 := L2.kp S3 p3
    have eD3 := p3 _ _ eD2 D1 D2 D3
    refine ⟨_, eD3, by rw [List.length_map]; exact Nat.lt_of_lt_of_le (show ns'.length < 1000 by omega) (by decide), ns' ++ [d], L3.mutD nDr nDh D1 D2 D3 eD3, by rw [upd_same, List.map_append]; rfl, by rw [List.length_append, ln]; rfl⟩
  obtain ⟨seen, L13, eD, ls⟩ := hpp
  clear L12 nD
  dsimp only [gName]
  -- the book
  refine ⟨_, rfl, t, tv, rfl, L13.tA, by omega, by omega, (good_has gt).2.2, fun H14 s14 => ?_⟩
  have L14 := L13.same s14
  have eD14 := s14 _ _ eD
  clear L13 eD s14
  have lt := Rw.good_text gt
  have e9 : (("document " : Str)).length = 9 := by decide
  refine ⟨_, _, rfl, rfl, Nat.le_trans (show (("document " : Str)).length + t.text.length ≤ 137 by omega) (by decide), ?_⟩
  intro bk dbk nbk ndbk nne
  have sA : Same H14 (upd (upd H14 dbk (.own bk)) bk (.ins (He.ga K "Book") dbk [])) := (same_upd ndbk).trans (same_upd (by rw [upd_ne nne.symm]; exact nbk))
  have hx : (upd (upd H14 dbk (.own bk)) bk (.ins (He.ga K "Book") dbk [])) bk = some (.ins (He.ga K "Book") dbk []) := upd_same
  generalize upd (upd H14 dbk (.own bk)) bk (.ins (He.ga K "Book") dbk []) = H15 at *
  have L3 : LsN [st, g, l] H14 := LsN.st L14.S
  refine ⟨[st, g, l], bk, dbk, t, rfl, hx, L3.new nbk, L3.same sA, gt, tn, fun gs H16 egs k16 B => ⟨rfl, ?_⟩⟩
  have s16 : Same H14 H16 := fun b o e => k16 _ _ (sA _ _ e) (ne_of_none e nbk)
  have L16 := L14.same s16
  have eD16 := s16 _ _ eD14
  clear L14 eD14 sA hx L3 k16 s16 nbk ndbk nne
  subst egs
  dsimp only [gName]
  -- Worlds
  refine ⟨_, rfl, ?_⟩
  intro wx wdx nwx nwd wne
  have sA : Same H16 (upd (upd H16 wdx (.own wx)) wx (.ins (He.ga K "Worlds") wdx [])) := (same_upd nwd).trans (same_upd (by rw [upd_ne wne.symm]; exact nwx))
  have hw1 : (upd (upd H16 wdx (.own wx)) wx (.ins (He.ga K "Worlds") wdx [])) wx = some (.ins (He.ga K "Worlds") wdx []) := upd_same
  generalize upd (upd H16 wdx (.own wx)) wx (.ins (He.ga K "Worlds") wdx []) = H17 at *
  refine ⟨wx, wdx, He.ga K "Worlds", .ref bk, rfl, .inl rfl, hw1, rfl, ?_⟩
  have s18 : Same H16 (upd H17 wx (.ins (He.ga K "Worlds") wdx [("book", .ref bk)])) := fun b o e => by
    rw [upd_ne (ne_of_none e nwx)]
    exact sA _ _ e
  have ew : (upd H17 wx (.ins (He.ga K "Worlds") wdx [("book", .ref bk)])) wx = some (.ins (He.ga K "Worlds") wdx [("book", .ref bk)]) := upd_same
  have L18 := L16.same s18
  have eD18 := s18 _ _ eD16
  have B18 := B.same (LsN.st L16.S) s18
  generalize upd H17 wx (.ins (He.ga K "Worlds") wdx [("book", .ref bk)]) = H18 at *
  clear L16 eD16 B s18 sA hw1 nwx nwd wne
  dsimp only [gName]
  -- HeldWorlds
  have mw : ∀ z ∈ m.1, isWord z = true := wpaths_words (good_W gt) m hm
  have ml : m.1.length ≤ 3 := by have := Pt.wp_depth gt hm; omega
  refine ⟨_, rfl, _, rfl, wa, m.1, rfl, L18.w, mw, by omega, fun H19 s19 => ?_⟩
  have L19 := L18.same s19
  have eD19 := s19 _ _ eD18
  have B19 := B18.same (LsN.st L18.S) s19
  have ew19 := s19 _ _ ew
  clear L18 eD18 B18 ew s19
  intro hx hdx nhx nhd hne
  have sA : Same H19 (upd (upd H19 hdx (.own hx)) hx (.ins (He.ga K "HeldWorlds") hdx [])) := (same_upd nhd).trans (same_upd (by rw [upd_ne hne.symm]; exact nhx))
  have hh1 : (upd (upd H19 hdx (.own hx)) hx (.ins (He.ga K "HeldWorlds") hdx [])) hx = some (.ins (He.ga K "HeldWorlds") hdx []) := upd_same
  generalize upd (upd H19 hdx (.own hx)) hx (.ins (He.ga K "HeldWorlds") hdx []) = H20 at *
  refine ⟨[st, g, l], hx, hdx, bk, _, gs, (ptext m.1, m.2), rfl, hh1, B19.same (LsN.st L19.S) sA, LsN.st (L19.S.same sA), hmp, mn, fun H21 k21 B21 eh => ⟨rfl, ?_⟩⟩
  have s21 : Same H19 H21 := fun b o e => k21 _ _ (sA _ _ e) (fun z => ne_of_none e nhx (List.mem_singleton.mp z))
  have L21 := L19.same s21
  have eD21 := s21 _ _ eD19
  have ew21 := s21 _ _ ew19
  clear L19 eD19 B19 ew19 s21 sA hh1 nhx nhd hne k21 mw ml
  dsimp only [gName]
  -- one
  match rs, lr, rne with
  | [r0, r1], _, _ =>
  have hr0 := L21.n r0 (by simp)
  refine ⟨_, rfl, _, rfl, _, rfl, ra, _, 0, .int r0, rfl, rfl, .inl (.inl L21.r), rfl, hp, gs.tr, tv, r0, G', as, ts, rfl, L21.hh, L21.Ty, L21.tA, gt, hr0, fun pf fa fb H22 s22 e1 e2 e3 => ?_⟩
  have L22 := L21.same s22
  have eD22 := s22 _ _ eD21
  have ew22 := s22 _ _ ew21
  have eh22 := s22 _ _ eh
  have B22 := B21.same (LsN.st L21.S) s22
  clear L21 eD21 ew21 eh B21 s22
  dsimp only [gName]
  refine ⟨_, rfl, _, rfl, _, rfl, ra, _, 0, .int r0, rfl, rfl, .inl (.inl L22.r), rfl, _, rfl, _, rfl, _, rfl, hp, D, gs.tr, m.2, tv, uv, r0, hc, seen, G', as, ts, rfl, L22.hh, L22.Ty, L22.tA, gt, hr0, L22.uA, gu, nhc, eD22, by omega, fun pg b0 b1 b2 b3 b4 H23 s23 f1 f2 f3 f4 f5 f6 => ?_⟩
  have L23 := L22.same s23
  have W0 : Lw K H23 st g l bk wx wdx hx hdx (("document " : Str) ++ gs.tr.text) (ptext m.1) gs m.2 tv uv := ⟨L23.S, B22.same (LsN.st L22.S) s23, s23 _ _ ew22, s23 _ _ eh22, L23.tA, L23.uA⟩
  have e1 := s23 _ _ e1
  have e2 := s23 _ _ e2
  have e3 := s23 _ _ e3
  have w1 := form_world (t := gs.tr) (c := r0) L23.Ty hr0
  have w2 := held_world (t := gs.tr) (u := m.2) (c := r0) (x := hc) L23.Ty hr0 nhc ls
  have lN : (nodI G' gs.tr r0).length ≤ 5 := by rw [nodI_len]; exact gt.2.1
  have lC : (contI G' gs.tr r0).length ≤ 5 := by rw [contI_len]; exact gt.2.2
  have lN2 : (nodI G' m.2 hc).length ≤ 5 := by rw [nodI_len]; exact gu.2.1
  have lC2 : (contI G' m.2 hc).length ≤ 5 := by rw [contI_len]; exact gu.2.2
  have npt : ∀ {b : Addr} {zs : List V}, H23 b = some (.tup zs) → b ∉ [st, g, l] := fun h z => by
    obtain ⟨ws, e⟩ := st_lists L23.S _ z
    rw [e] at h
    cases h
  have F1 : FmV 10 [st, g, l] H23 (.ref pf) := ⟨pf, _, rfl, .inl e1, npt e1, by show 2 ≤ 10; decide, fun x hx => by
    simp only [List.mem_cons, List.not_mem_nil, or_false] at hx
    rcases hx with rfl | rfl
    · exact RwV.ints L23.S e2 (by rw [rowI_len]; omega)
    · exact RwV.ints L23.S e3 (by rw [rowI_len]; omega)⟩
  have F2 : FmV 10 [st, g, l] H23 (.ref pg) := ⟨pg, _, rfl, .inl f1, npt f1, by show 5 ≤ 10; decide, fun x hx => by
    simp only [List.mem_cons, List.not_mem_nil, or_false] at hx
    rcases hx with rfl | rfl | rfl | rfl | rfl
    · exact RwV.ints L23.S f2 (by rw [rowI_len]; omega)
    · exact RwV.ints L23.S f3 (by rw [rowI_len]; omega)
    · exact RwV.ints L23.S f4 (by rw [rowI_len]; omega)
    · exact RwV.ints L23.S f5 (by rw [rowI_len]; omega)
    · exact RwV.ints L23.S f6 (by rw [rowI_len]; omega)⟩
  have D1 : DtV [] H23 (.ref pf) (.tuple [intsD (rowI [] (nodI G' gs.tr r0)), intsD (rowI [] (contI G' gs.tr r0))]) := .tup e1 (by simp) (.cons (.tup e2 (by simp) (dtvs_int _)) (.cons (.tup e3 (by simp) (dtvs_int _)) .nil))
  have D2 : DtV [] H23 (.ref pg) (.tuple [intsD (rowI [] (nodI G' gs.tr r0)), intsD (rowI [] (contI G' gs.tr r0)), intsD (rowI (extI [] (nodI G' gs.tr r0)) (nodI G' m.2 hc)), intsD (rowI (extI [] (contI G' gs.tr r0)) (contI G' m.2 hc)), intsD (rowI (extI (extI [] (contI G' gs.tr r0)) (contI G' m.2 hc)) seen)]) := .tup f1 (by simp) (.cons (.tup f2 (by simp) (dtvs_int _)) (.cons (.tup f3 (by simp) (dtvs_int _)) (.cons (.tup f4 (by simp) (dtvs_int _)) (.cons (.tup f5 (by simp) (dtvs_int _)) (.cons (.tup f6 (by simp) (dtvs_int _)) .nil)))))
  have sm : ∀ (is : List Int), is.length ≤ 50 → ∀ es, intsD is = .tuple es → es.length ≤ 50 := fun is h es e => by
    have e : PyData.tuple (is.map PyData.int) = .tuple es := e
    injection e with e
    rw [← e, List.length_map]
    exact h
  have sm1 : smallD (.tuple [intsD (rowI [] (nodI G' gs.tr r0)), intsD (rowI [] (contI G' gs.tr r0))]) := fun ds e => by
    injection e with e
    subst e
    refine ⟨by show 2 ≤ 50; decide, fun x hx => ?_⟩
    simp only [List.mem_cons, List.not_mem_nil, or_false] at hx
    rcases hx with rfl | rfl <;> exact sm _ (by rw [rowI_len]; omega)
  have sm2 : smallD (.tuple [intsD (rowI [] (nodI G' gs.tr r0)), intsD (rowI [] (contI G' gs.tr r0)), intsD (rowI (extI [] (nodI G' gs.tr r0)) (nodI G' m.2 hc)), intsD (rowI (extI [] (contI G' gs.tr r0)) (contI G' m.2 hc)), intsD (rowI (extI (extI [] (contI G' gs.tr r0)) (contI G' m.2 hc)) seen)]) := fun ds e => by
    injection e with e
    subst e
    refine ⟨by show 5 ≤ 50; decide, fun x hx => ?_⟩
    simp only [List.mem_cons, List.not_mem_nil, or_false] at hx
    rcases hx with rfl | rfl | rfl | rfl | rfl <;> exact sm _ (by rw [rowI_len]; omega)
  obtain ⟨hds, D3⟩ := hp_dtv L23.hh
  have sm3 : smallD (.list hds) := fun ds e => by cases e
  have tf : gs.tr.fields.length ≤ 3 := few_fs gt
  have D4 := tr_dtv L23.tA
  have sm4 : smallD (trD gs.tr) := tr_small (by omega)
  have no4 : heldD gs.tr m.2 (trD gs.tr) = false := held_len (by rw [trF_len]; omega)
  clear L22 L23 B22 eD22 ew22 eh22 e1 e2 e3 f1 f2 f3 f4 f5 f6 npt sm lN lC lN2 lC2 hr0 nhc s23
  have inE : ∀ {H : Hp} {v : V} {d : PyData} {b : Bool} {Q : V → Hp → Prop} {g' : Bool → Bool}, Lw K H st g l bk wx wdx hx hdx (("document " : Str) ++ gs.tr.text) (ptext m.1) gs m.2 tv uv → DtV [] H v d → smallD d → formD gs.tr d = b → (∀ H', Same H H' → Q (.bl (g' b)) H') → rInO (He.ga K "Worlds") (sp_wcon K) E0 g' v (.ref wx) H Q := fun {H v d b Q g'} W hd sm e q => ⟨wx, wdx, _, rfl, W.wo, [st, g, l], wx, wdx, bk, _, gs, v, d, rfl, W.wo, W.B, hd, sm, fun H' s => ⟨_, rfl, by rw [e]; exact q H' s⟩⟩
  have inL : ∀ {H : Hp} {v : V} {d : PyData} {b : Bool} {Q : V → Hp → Prop} {g' : Bool → Bool}, Lw K H st g l bk wx wdx hx hdx (("document " : Str) ++ gs.tr.text) (ptext m.1) gs m.2 tv uv → DtV [] H v d → smallD d → heldD gs.tr m.2 d = b → (∀ H', Same H H' → Q (.bl (g' b)) H') → rInO (He.ga K "HeldWorlds") (sp_hcon K) E0 g' v (.ref hx) H Q := fun {H v d b Q g'} W hd sm e q => ⟨hx, hdx, _, rfl, W.ho, [st, g, l], hx, hdx, bk, _, gs, (ptext m.1, m.2), v, d, rfl, W.ho, W.B, hmp, hd, sm, fun H' s => ⟨_, rfl, by rw [e]; exact q H' s⟩⟩
  dsimp only [gName]
  refine ⟨_, rfl, _, rfl, inE W0 D1 sm1 w1 fun H24 s24 => ⟨_, rfl, iteF ?_⟩⟩
  refine ⟨_, rfl, _, rfl, inL (W0.same s24) (D2.same s24) sm2 w2 fun H25 s25 => ⟨_, rfl, iteF ?_⟩⟩
  have s25 := s24.trans s25
  dsimp only [tNext]
  refine ⟨_, rfl, _, rfl, inL (W0.same s25) (D1.same s25) sm1 (b := false) rfl fun H26 s26 => ⟨_, rfl, iteF ?_⟩⟩
  have s26 := s25.trans s26
  refine ⟨_, rfl, _, rfl, inE (W0.same s26) (D2.same s26) sm2 (b := false) rfl fun H27 s27 => ⟨_, rfl, iteF ?_⟩⟩
  have s27 := s26.trans s27
  dsimp only [tNext]
  refine ⟨_, rfl, _, rfl, inE (W0.same s27) (D3.same s27) sm3 (b := false) rfl fun H28 s28 => ⟨_, rfl, iteF ?_⟩⟩
  have s28 := s27.trans s28
  refine ⟨_, rfl, _, rfl, inL (W0.same s28) (D3.same s28) sm3 (b := false) rfl fun H29 s29 => ⟨_, rfl, iteF ?_⟩⟩
  have s29 := s28.trans s29
  refine ⟨_, rfl, _, rfl, inL (W0.same s29) (D4.same s29) sm4 no4 fun H30 s30 => ⟨_, rfl, iteF ?_⟩⟩
  have s30 := s29.trans s30
  dsimp only [tNext]
  have W1 := W0.same s30
  have F1 := F1.kp W0.S (Kp.of s30)
  have F2 := F2.kp W0.S (Kp.of s30)
  clear s24 s25 s26 s27 s28 s29 s30 D1 D2 D3 D4 sm1 sm2 sm3 sm4 no4 w1 w2 W0 ls
  refine ⟨_, rfl, by decide, by decide, ?_⟩
  refine for_range (lo := 0) (n := 12) (fun i σ HX => ∃ (y8 y17 y18 : Option V), σ = [some (.ref a), some (.ref st), some tv, some (.ref W), some (.ref wa), some uv, some (.ref hp), some (.ref ra), y8, y9, some (.int hc), some (.ref D), some (.ref bk), some (.ref wx), some (.ref hx), some (.ref pf), some (.ref pg), y17, y18, none, none] ∧ Lw K HX st g l bk wx wdx hx hdx (("document " : Str) ++ gs.tr.text) (ptext m.1) gs m.2 tv uv ∧ FmV 10 [st, g, l] HX (.ref pf) ∧ FmV 10 [st, g, l] HX (.ref pg)) ⟨_, _, _, rfl, W1, F1, F2⟩ (fun i σ HX hi pp => ?_) (fun σ HX pp => ?_)
  rotate_left
  · obtain ⟨_, _, _, rfl, _⟩ := pp
    exact q HX
  obtain ⟨y8', y17, y18, rfl, WX, FX1, FX2⟩ := pp
  dsimp only [gName]
  refine seq_split3 (fun σ' J => ∃ v : V, σ' = [some (.ref a), some (.ref st), some tv, some (.ref W), some (.ref wa), some uv, some (.ref hp), some (.ref ra), some (.int (0 + i)), y9, some (.int hc), some (.ref D), some (.ref bk), some (.ref wx), some (.ref hx), some (.ref pf), some (.ref pg), some v, y18, none, none] ∧ J = HX ∧ FmV 10 [st, g, l] HX v) (fun Dx hDx => ?_) fun σ' J hJ => ?_
  · refine ⟨_, rfl, _, _, rfl, rfl, by show (0 : Int) < 2; decide, _, rfl, ?_⟩
    cases c : (((0 + (i : Int)) % 2) != 0) with
    | true => exact iteT ⟨_, rfl, hDx _ _ ⟨_, rfl, rfl, FX1⟩⟩
    | false => exact iteF ⟨_, rfl, hDx _ _ ⟨_, rfl, rfl, FX2⟩⟩
  obtain ⟨v, rfl, rfl, FV⟩ := hJ
  refine ⟨_, rfl, st, g, l, 3, rfl, by decide, by decide, WX.S, fun dn H31 d0 d1 S31 k31 => ⟨_, _, rfl, rfl, ?_⟩⟩
  obtain ⟨n, rfl⟩ : ∃ n : Nat, dn = (n : Int) := ⟨dn.toNat, by omega⟩
  refine ⟨_, rfl, by omega, by omega, ?_⟩
  rw [show (1 + (n : Int)).toNat = 1 + n by omega]
  have WX1 := WX.kp S31 k31
  have FV1 := FV.kp WX.S k31
  have FX11 := FX1.kp WX.S k31
  have FX21 := FX2.kp WX.S k31
  clear WX FX1 FX2 FV k31 S31
  refine for_range (lo := 0) (n := 1 + n) (fun j σ HY => ∃ (v : V) (y18 : Option V), σ = [some (.ref a), some (.ref st), some tv, some (.ref W), some (.ref wa), some uv, some (.ref hp), some (.ref ra), some (.int (0 + i)), y9, some (.int hc), some (.ref D), some (.ref bk), some (.ref wx), some (.ref hx), some (.ref pf), some (.ref pg), some v, y18, none, none] ∧ Lw K HY st g l bk wx wdx hx hdx (("document " : Str) ++ gs.tr.text) (ptext m.1) gs m.2 tv uv ∧ FmV 10 [st, g, l] HY (.ref pf) ∧ FmV 10 [st, g, l] HY (.ref pg) ∧ FmV (10 + j) [st, g, l] HY v) ⟨_, _, rfl, WX1, FX11, FX21, FV1⟩ (fun j σ HY hj pp => ?_) (fun σ HY pp => ?_)
  · obtain ⟨v, y, rfl, WY, FY1, FY2, FY⟩ := pp
    dsimp only [gName]
    refine ⟨_, rfl, _, rfl, st, g, l, v, 10 + j, rfl, WY.S, FY, by omega, fun v' HZ FZ SZ kZ => ?_⟩
    exact ⟨v', _, rfl, WY.kp SZ kZ, FY1.kp WY.S kZ, FY2.kp WY.S kZ, FZ⟩
  obtain ⟨v, y, rfl, WY, FY1, FY2, FY⟩ := pp
  obtain ⟨d, dv, fd0⟩ := FY.data (st_lists WY.S)
  have dv := dv.free
  have smd := frmF.small fd0 (by omega)
  refine ⟨_, rfl, _, rfl, inE WY dv smd rfl fun H32 s32 => ?_⟩
  refine ⟨_, rfl, by show 1 ≤ sizeLine; decide, fun LL nLL => ⟨_, rfl, ?_⟩⟩
  have s33 := s32.trans (same_upd (o := .lst [tv]) nLL)
  have eLL : (upd H32 LL (.lst [tv])) LL = some (.lst [tv]) := upd_same
  generalize upd H32 LL (.lst [tv]) = H33 at *
  have W33 := WY.same s33
  refine ⟨LL, [tv], [gs.tr], v, d, rfl, eLL, rfl, .inl rfl, (fun k tv' t' e1 e2 => ?_), dv.same s33, smd, fun H34 s34 => ⟨rfl, _, rfl, ?_⟩⟩
  · cases k with
    | zero => cases e1; cases e2; exact ⟨W33.tA, gt⟩
    | succ k => cases e1
  rw [show worldD [gs.tr] d = formD gs.tr d from rfl, decide_eq_true rfl]
  refine iteF ?_
  dsimp only [tNext]
  have s34 := s33.trans s34
  refine ⟨_, rfl, _, rfl, inL (WY.same s34) (dv.same s34) smd rfl fun H35 s35 => ?_⟩
  refine ⟨_, rfl, _, rfl, by show 2 ≤ sizeLine; decide, fun LM nLM => ⟨_, rfl, ?_⟩⟩
  have s36 := (s34.trans s35).trans (same_upd (o := .lst [tv, uv]) nLM)
  have eLM : (upd H35 LM (.lst [tv, uv])) LM = some (.lst [tv, uv]) := upd_same
  generalize upd H35 LM (.lst [tv, uv]) = H36 at *
  have W36 := WY.same s36
  refine ⟨LM, [tv, uv], [gs.tr, m.2], v, d, rfl, eLM, rfl, .inr rfl, (fun k tv' t' e1 e2 => ?_), dv.same s36, smd, fun H37 s37 => ⟨rfl, _, rfl, ?_⟩⟩
  · cases k with
    | zero => cases e1; cases e2; exact ⟨W36.tA, gt⟩
    | succ k =>
      cases k with
      | zero => cases e1; cases e2; exact ⟨W36.uA, gu⟩
      | succ k => cases e1
  rw [show worldD [gs.tr, m.2] d = heldD gs.tr m.2 d from rfl, decide_eq_true rfl]
  refine iteF ?_
  dsimp only [tNext]
  have s37 := s36.trans s37
  exact ⟨_, _, _, rfl, WY.same s37, FY1.kp WY.S (Kp.of s37), FY2.kp WY.S (Kp.of s37)⟩
end
end Lx
namespace Lx
open PySem PySem.Spec PyProof.Rows L2 Ub Ur Ug Ue Up Uo Ve Va Vk Pt Gr Ni Rw
section
variable {P : Program} {w : World} {K : PySem.W.Frag} {mg : Str → Option Value} {base : Heap}
theorem sc_law_numbers : FnScope ["_law_keys", "_law_known", "_law_row", "_law_key"] ["_law_keys", "_law_known"] (defScope s_law_numbers) := ⟨rfl, rfl, rfl, by decide +kernel, rfl, by decide +kernel, by decide +kernel⟩
theorem ok_law_numbers {f : Addr} {fd : FuncData} (F : FunD K "_law_numbers" "_law_numbers" (defArgs s_law_numbers) (defBody s_law_numbers) (defScope s_law_numbers) [] [] f fd) (T : Tx K mg) : FnOk P w K mg base CX0 1 f fd ["_law_keys", "_law_known"] sp_numbers := by
  refine F.ok sc_law_numbers (fun vs H Q E h => by obtain ⟨_, _, _, _, rfl, _⟩ := h; rfl) (fun cdv A outer s H vs Q E hr h => ?_)
  obtain ⟨ka, kn, keys, known, rfl, hk, hn, ne, l1, l2, q⟩ := h
  refine ⟨_, PSs.nox (pss_cons (ps_set (i := 2) sc_law_numbers.nd rfl (by first | exact Or.inl rfl | exact Or.inr rfl) (pe_lst pa_nil))
      (pss_cons (ps_for PassesOwn.never rfl (pi_listK K (pv 0)) (pg_name (i := 3) sc_law_numbers.nd rfl (by first | exact Or.inl rfl | exact Or.inr rfl))
        (pss_cons (ps_if (pt_cmpR (op_notIn_seqK K) (pv 3) (pv 1) (by rfl))
            (pss_one (ps_expr (pe_bmK K PySem.F.plainAttrs_list PySem.F.slot_list_append PySem.F.type_list_append mt_append (pv 1) (pa_cons (pv 3) pa_nil))))
            pss_nil)
          (pss_one (ps_expr (pe_bmK K PySem.F.plainAttrs_list PySem.F.slot_list_append PySem.F.type_list_append mt_append (pv 2) (pa_cons (pe_bmK K PySem.F.plainAttrs_list PySem.F.slot_list_index PySem.F.type_list_index (Gr.mt_indexK K) (pv 1) (pa_cons (pv 3) pa_nil)) pa_nil))))))
      (pss_one (ps_ret (pe_callTy (call_tuple_ofK K) (by rfl) T.tuple (by decide +kernel) (pa_cons (pv 2) pa_nil)))))), ?_⟩
  refine ⟨Nat.zero_le _, fun D nD => ?_⟩
  have sD := same_upd (o := .lst []) nD
  have Dk : D ≠ kn := fun z => by rw [z, hn] at nD; cases nD
  have Da : D ≠ ka := fun z => by rw [z, hk] at nD; cases nD
  have eD : (upd H D (.lst [])) D = some (.lst ((rowI known []).map V.int)) := upd_same
  have kD : Kn [kn] H (upd H D (.lst [])) := .of sD
  have ek : (upd H D (.lst [])) kn = some (.lst ((extI known []).map V.int)) := sD _ _ hn
  generalize upd H D (.lst []) = H1 at *
  dsimp only [gName]
  have fl : ∀ l : List Int, (l.map V.int).all flatV = true := fun l => by rw [List.all_map]; exact List.all_eq_true.mpr fun _ _ => rfl
  refine ⟨_, rfl, ka, rfl, ⟨_, .inl (.inl (kD _ _ hk (by simp [ne])))⟩, ?_⟩
  refine for_list (K := K) (a := ka) (xs := keys.map V.int) (fun j σ HX => ∃ y3 : Option V, σ = [some (.ref ka), some (.ref kn), some (.ref D), y3] ∧ Kn [kn] H HX ∧ HX D = some (.lst ((rowI known (keys.take j)).map V.int)) ∧ HX kn = some (.lst ((extI known (keys.take j)).map V.int))) ⟨none, rfl, kD, eD, ek⟩ (fun j σ HX _ pp => ?_) (fun j x σ HX hx pp => ?_) (fun σ HX pp => ?_)
  · obtain ⟨_, _, k, _⟩ := pp
    exact .inl (.inl (k _ _ hk (by simp [ne])))
  · obtain ⟨y3, rfl, k, eX, nX⟩ := pp
    rw [List.getElem?_map] at hx
    obtain ⟨i, hi, rfl⟩ := Option.map_eq_some_iff.mp hx
    have ej : keys.take (j + 1) = keys.take j ++ [i] := by rw [List.take_add_one, hi]; rfl
    have le : (extI known (keys.take j)).length ≤ 250 := by
      have h1 := extI_len (known := known) (keys := keys.take j)
      rw [List.length_take] at h1
      omega
    have lr : (rowI known (keys.take j)).length ≤ 50 := by
      unfold rowI
      rw [List.length_map, List.length_take]
      omega
    dsimp only [gName]
    refine ⟨_, rfl, _, rfl, kn, _, rfl, .inl (.inl (.inl nX)), rfl, fl _, _, rfl, ?_⟩
    rw [inV_int]
    by_cases c : i ∈ extI known (keys.take j)
    · rw [decide_eq_true c]
      refine (if_neg (by decide)).mpr ?_
      dsimp only [tNext]
      have e9 : extI known (keys.take (j + 1)) = extI known (keys.take j) := by rw [ej, extI_snoc]; unfold ext1; rw [if_pos c]
      have im : i ∈ extI known (keys.take j) := by rw [← e9]; exact extI_mem (by rw [ej]; simp)
      refine ⟨_, rfl, .inl ⟨rfl, _, .inl (.inl eX)⟩, _, rfl, .inl ⟨rfl, _, .inl (.inl nX)⟩, _, rfl, ?_⟩
      dsimp only [tNil, List.nil_append]
      refine ixI_any nX im ?_
      refine ⟨D, _, _, rfl, rfl, eX, Nat.lt_of_le_of_lt (show _ ≤ 100 by rw [List.length_map]; omega) (by decide), ?_⟩
      refine ⟨_, rfl, ?_, ?_, ?_⟩
      · exact fun b o e n => by rw [upd_ne (ne_of_none e nD)]; exact k b o e n
      · rw [upd_same, ej, rowI_snoc, ← ej, e9, List.map_append]
        rfl
      · rw [upd_ne Dk.symm, e9]
        exact nX
    · rw [decide_eq_false c]
      refine (if_pos (by decide)).mpr ?_
      refine ⟨_, rfl, .inl ⟨rfl, _, .inl (.inl nX)⟩, _, rfl, kn, _, _, rfl, rfl, nX, Nat.lt_of_le_of_lt (show _ ≤ 250 by rw [List.length_map]; exact le) (by decide), ?_⟩
      have nX2 : (upd HX kn (.lst ((extI known (keys.take j)).map V.int ++ [.int i]))) kn = some (.lst ((extI known (keys.take j) ++ [i]).map V.int)) := by rw [upd_same, List.map_append]; rfl
      have eX2 : (upd HX kn (.lst ((extI known (keys.take j)).map V.int ++ [.int i]))) D = some (.lst ((rowI known (keys.take j)).map V.int)) := by rw [upd_ne Dk]; exact eX
      have k2 : Kn [kn] H (upd HX kn (.lst ((extI known (keys.take j)).map V.int ++ [.int i]))) := fun b o e n => by rw [upd_ne fun z => n (by rw [z]; exact List.mem_singleton.mpr rfl)]; exact k b o e n
      generalize upd HX kn (.lst ((extI known (keys.take j)).map V.int ++ [.int i])) = H2 at *
      have e9 : extI known (keys.take (j + 1)) = extI known (keys.take j) ++ [i] := by rw [ej, extI_snoc]; unfold ext1; rw [if_neg c]
      have im : i ∈ extI known (keys.take j) ++ [i] := by rw [← e9]; exact extI_mem (by rw [ej]; simp)
      refine ⟨_, rfl, .inl ⟨rfl, _, .inl (.inl eX2)⟩, _, rfl, .inl ⟨rfl, _, .inl (.inl nX2)⟩, _, rfl, ?_⟩
      dsimp only [tNil, List.nil_append]
      refine ixI_any nX2 im ?_
      refine ⟨D, _, _, rfl, rfl, eX2, Nat.lt_of_le_of_lt (show _ ≤ 100 by rw [List.length_map]; omega) (by decide), ?_⟩
      refine ⟨_, rfl, ?_, ?_, ?_⟩
      · exact fun b o e n => by rw [upd_ne (ne_of_none e nD)]; exact k2 b o e n
      · rw [upd_same, ej, rowI_snoc, ← ej, e9, List.map_append]
        rfl
      · rw [upd_ne Dk.symm, e9]
        exact nX2
  · obtain ⟨y3, rfl, k, eX, nX⟩ := pp
    rw [List.length_map, List.take_length] at eX nX
    refine ⟨_, rfl, D, _, rfl, .inl ⟨.inl (.inl eX), fun p np => ?_⟩⟩
    have sp := same_upd (o := .tup ((rowI known keys).map V.int)) np
    exact q p _ (fun b o e n => sp _ _ (k b o e n)) (by cases e : H p with | none => rfl | some o => exact absurd (k p o e (fun z => by rw [List.mem_singleton.mp z, nX] at np; cases np)) (by rw [np]; exact fun z => nomatch z)) upd_same (sp _ _ nX)
theorem sc_law_form : FnScope ["_law_heap", "_law_tree_here", "_law_root", "_law_records"] ["_law_heap", "_law_tree_here", "_law_root"] (defScope s_law_form) := ⟨rfl, rfl, rfl, by decide +kernel, rfl, by decide +kernel, by decide +kernel⟩
theorem ok_law_form {f : Addr} {fd : FuncData} (F : FunD K "_law_form" "_law_form" (defArgs s_law_form) (defBody s_law_form) (defScope s_law_form) [] [] f fd) (T : Tx K mg) (c_law_content : Cal P w K mg base 4 "_law_content" ["_law_heap", "_law_tree_here", "_law_node"] (sp_walk contI 4)) (c_law_nodes : Cal P w K mg base 4 "_law_nodes" ["_law_heap", "_law_tree_here", "_law_node"] (sp_walk nodI 4)) (c_law_numbers : Cal P w K mg base 1 "_law_numbers" ["_law_keys", "_law_known"] sp_numbers) : FnOk P w K mg base CX0 5 f fd ["_law_heap", "_law_tree_here", "_law_root"] sp_form := by
  refine F.ok sc_law_form (fun vs H Q E h => by obtain ⟨_, _, _, _, _, _, _, rfl, _⟩ := h; rfl) (fun cdv A outer s H vs Q E hr h => ?_)
  obtain ⟨hp, t, v, c, G, as, ts, rfl, hh, Ty1, ht, gt, hn, q⟩ := h
  refine ⟨_, PSs.nox (pss_cons (ps_set (i := 3) sc_law_form.nd rfl (by first | exact Or.inl rfl | exact Or.inr rfl) (pe_cal c_law_numbers (hr.mono (by omega)) (by rfl) (pa_cons (pe_cal c_law_nodes (hr.mono (by omega)) (by rfl) (pa_cons (pv 0) (pa_cons (pv 1) (pa_cons (pv 2) pa_nil)))) (pa_cons (pe_lst pa_nil) pa_nil))))
      (pss_one (ps_ret (pe_tup (pa_cons (pv 3) (pa_cons (pe_cal c_law_numbers (hr.mono (by omega)) (by rfl) (pa_cons (pe_cal c_law_content (hr.mono (by omega)) (by rfl) (pa_cons (pv 0) (pa_cons (pv 1) (pa_cons (pv 2) pa_nil)))) (pa_cons (pe_lst pa_nil) pa_nil))) pa_nil)))))), ?_⟩
  have md := (good_has gt).1
  have lr : (nodI G t c).length ≤ 50 := by rw [nodI_len]; exact Nat.le_trans gt.2.1 (by decide)
  have lc : (contI G t c).length ≤ 50 := by rw [contI_len]; exact Nat.le_trans gt.2.2 (by decide)
  refine ⟨_, rfl, _, rfl, _, rfl, hp, t, v, c, G, as, ts, rfl, hh, Ty1, ht, gt, by omega, hn, fun D H1 s1 nD eD => ?_⟩
  refine ⟨Nat.zero_le _, fun E0 nE0 => ?_⟩
  have s2 := same_upd (o := .lst []) nE0
  have DE : D ≠ E0 := fun z => by rw [z, nE0] at eD; cases eD
  refine ⟨D, E0, _, [], rfl, s2 _ _ eD, upd_same, DE, lr, by decide, fun p1 H3 k3 np1 e1 _ => ?_⟩
  have s3 : Same H H3 := fun b o e => k3 _ _ (s2 _ _ (s1 _ _ e)) fun z => by rw [List.mem_singleton.mp z] at e; rw [s1 _ _ e] at nE0; cases nE0
  clear k3 s2 eD nE0 DE nD s1 np1
  dsimp only [gName]
  refine ⟨_, rfl, _, rfl, _, rfl, _, rfl, hp, t, v, c, G, as, ts, rfl, hh.same s3, Ty1, ht.same s3, gt, by omega, hn, fun D H4 s4 nD eD => ?_⟩
  refine ⟨Nat.zero_le _, fun E0 nE0 => ?_⟩
  have s5 := same_upd (o := .lst []) nE0
  have DE : D ≠ E0 := fun z => by rw [z, nE0] at eD; cases eD
  refine ⟨D, E0, _, [], rfl, s5 _ _ eD, upd_same, DE, lc, by decide, fun p2 H6 k6 np2 e2 _ => ?_⟩
  have s6 : Same H3 H6 := fun b o e => k6 _ _ (s5 _ _ (s4 _ _ e)) fun z => by rw [List.mem_singleton.mp z] at e; rw [s4 _ _ e] at nE0; cases nE0
  refine ⟨Nat.le_of_ble_eq_true rfl, fun p np => ?_⟩
  have s7 := same_upd (o := .tup [.ref p1, .ref p2]) np
  exact q p p1 p2 _ (s3.trans (s6.trans s7)) upd_same (s7 _ _ (s6 _ _ e1)) (s7 _ _ e2)
end
section
variable {P : Program} {w : World} {K : PySem.W.Frag} {mg : Str → Option Value} {base : Heap}
theorem sc_law_held_form : FnScope ["_law_heap", "_law_tree_here", "_law_root", "_law_below_here", "_law_held", "_law_seen", "_law_nodes_here", "_law_known", "_law_records", "_law_integers", "_law_inside", "_law_kept"] ["_law_heap", "_law_tree_here", "_law_root", "_law_below_here", "_law_held", "_law_seen"] (defScope s_law_held_form) := ⟨rfl, rfl, rfl, by decide +kernel, rfl, by decide +kernel, by decide +kernel⟩
theorem ok_law_held_form {f : Addr} {fd : FuncData} (F : FunD K "_law_held_form" "_law_held_form" (defArgs s_law_held_form) (defBody s_law_held_form) (defScope s_law_held_form) [] [] f fd) (T : Tx K mg) (c_law_content : Cal P w K mg base 4 "_law_content" ["_law_heap", "_law_tree_here", "_law_node"] (sp_walk contI 4)) (c_law_nodes : Cal P w K mg base 4 "_law_nodes" ["_law_heap", "_law_tree_here", "_law_node"] (sp_walk nodI 4)) (c_law_numbers : Cal P w K mg base 1 "_law_numbers" ["_law_keys", "_law_known"] sp_numbers) : FnOk P w K mg base CX0 5 f fd ["_law_heap", "_law_tree_here", "_law_root", "_law_below_here", "_law_held", "_law_seen"] sp_hform := by
  refine F.ok sc_law_held_form (fun vs H Q E h => by obtain ⟨_, _, _, _, _, _, _, _, _, _, _, _, rfl, _⟩ := h; rfl) (fun cdv A outer s H vs Q E hr h => ?_)
  obtain ⟨hp, sn, t, u, v, vu, c, x, seen, G, as, ts, rfl, hh, Ty1, ht, gt, hn, hu, gu, nu, hsn, lsn, q⟩ := h
  refine ⟨_, PSs.nox (pss_cons (ps_par (i := 6) (j := 7) (by rfl) sc_law_held_form.nd rfl rfl (by decide) rfl rfl (pa_cons (pe_lst pa_nil) (pa_cons (pe_lst pa_nil) pa_nil)) (by rfl))
      (pss_cons (ps_set (i := 8) sc_law_held_form.nd rfl (by first | exact Or.inl rfl | exact Or.inr rfl) (pe_cal c_law_numbers (hr.mono (by omega)) (by rfl) (pa_cons (pe_cal c_law_nodes (hr.mono (by omega)) (by rfl) (pa_cons (pv 0) (pa_cons (pv 1) (pa_cons (pv 2) pa_nil)))) (pa_cons (pv 6) pa_nil))))
      (pss_cons (ps_set (i := 9) sc_law_held_form.nd rfl (by first | exact Or.inl rfl | exact Or.inr rfl) (pe_cal c_law_numbers (hr.mono (by omega)) (by rfl) (pa_cons (pe_cal c_law_content (hr.mono (by omega)) (by rfl) (pa_cons (pv 0) (pa_cons (pv 1) (pa_cons (pv 2) pa_nil)))) (pa_cons (pv 7) pa_nil))))
      (pss_cons (ps_set (i := 10) sc_law_held_form.nd rfl (by first | exact Or.inl rfl | exact Or.inr rfl) (pe_cal c_law_numbers (hr.mono (by omega)) (by rfl) (pa_cons (pe_cal c_law_nodes (hr.mono (by omega)) (by rfl) (pa_cons (pv 0) (pa_cons (pv 3) (pa_cons (pv 4) pa_nil)))) (pa_cons (pv 6) pa_nil))))
      (pss_cons (ps_set (i := 11) sc_law_held_form.nd rfl (by first | exact Or.inl rfl | exact Or.inr rfl) (pe_cal c_law_numbers (hr.mono (by omega)) (by rfl) (pa_cons (pe_cal c_law_content (hr.mono (by omega)) (by rfl) (pa_cons (pv 0) (pa_cons (pv 3) (pa_cons (pv 4) pa_nil)))) (pa_cons (pv 7) pa_nil))))
      (pss_one (ps_ret (pe_tup (pa_cons (pv 8) (pa_cons (pv 9) (pa_cons (pv 10) (pa_cons (pv 11) (pa_cons (pe_cal c_law_numbers (hr.mono (by omega)) (by rfl) (pa_cons (pv 5) (pa_cons (pv 7) pa_nil))) pa_nil))))))))))))), ?_⟩
  have md := (good_has gt).1
  have mu := (good_has gu).1
  have lr : (nodI G t c).length ≤ 5 := by rw [nodI_len]; exact gt.2.1
  have lc : (contI G t c).length ≤ 5 := by rw [contI_len]; exact gt.2.2
  have lr2 : (nodI G u x).length ≤ 5 := by rw [nodI_len]; exact gu.2.1
  have lc2 : (contI G u x).length ≤ 5 := by rw [contI_len]; exact gu.2.2
  have le1 : (extI [] (nodI G t c)).length ≤ 5 := Nat.le_trans extI_len (by show 0 + _ ≤ 5; omega)
  have le2 : (extI [] (contI G t c)).length ≤ 5 := Nat.le_trans extI_len (by show 0 + _ ≤ 5; omega)
  have le3 : (extI (extI [] (contI G t c)) (contI G u x)).length ≤ 10 := Nat.le_trans extI_len (by omega)
  refine ⟨Nat.zero_le _, fun n0 nn0 => ⟨Nat.zero_le _, fun k0 nk0 => ?_⟩⟩
  have s1 := (same_upd (o := .lst []) nn0).trans (same_upd (o := .lst []) nk0)
  have en : (upd (upd H n0 (.lst [])) k0 (.lst [])) n0 = some (.lst (([] : List Int).map V.int)) := same_upd nk0 _ _ upd_same
  have ek : (upd (upd H n0 (.lst [])) k0 (.lst [])) k0 = some (.lst (([] : List Int).map V.int)) := upd_same
  have nk : n0 ≠ k0 := fun z => by rw [z, upd_same] at nk0; cases nk0
  have fn : H n0 = none := nn0
  have fk : H k0 = none := (same_upd (o := .lst []) nn0).free nk0
  generalize upd (upd H n0 (.lst [])) k0 (.lst []) = H1 at *
  clear nn0 nk0
  refine ⟨_, _, rfl, ?_⟩
  dsimp only
  -- one row
  have row : ∀ {HX : Hp} {kn D : Addr} {known keys : List Int} {Q2 : VK} {E2 : XK}, HX D = some (.lst (keys.map V.int)) → HX kn = some (.lst (known.map V.int)) → D ≠ kn → keys.length ≤ 5 → known.length ≤ 20 → (∀ p H', Kn [kn] HX H' → H' p = some (.tup ((rowI known keys).map V.int)) → H' kn = some (.lst ((extI known keys).map V.int)) → Q2 (.ref p) H') → sp_numbers [.ref D, .ref kn] HX Q2 E2 := fun h1 h2 h3 h4 h5 k => ⟨_, _, _, _, rfl, h1, h2, h3, by omega, by omega, fun p H' a b c d => k p H' a c d⟩
  have keep : ∀ {HX H2 H3 : Hp} {a : Addr}, (∀ b o, H b = some o → HX b = some o) → Same HX H2 → Kn [a] H2 H3 → H a = none → ∀ b o, H b = some o → H3 b = some o := fun h1 h2 h3 h4 b o e => h3 _ _ (h2 _ _ (h1 _ _ e)) fun z => by rw [List.mem_singleton.mp z, h4] at e; cases e
  refine ⟨_, rfl, _, rfl, _, rfl, hp, t, v, c, G, as, ts, rfl, hh.same s1, Ty1, ht.same s1, gt, by omega, hn, fun D H2 s2 nD eD => ?_⟩
  refine ⟨_, rfl, ?_⟩
  dsimp only [tNil, List.append_nil, List.cons_append, List.nil_append]
  refine row eD (s2 _ _ en) (fun z => by rw [z, en] at nD; cases nD) lr (by decide) fun p1 H3 k3 e1 en3 => ?_
  have s3 : Same H H3 := keep s1 s2 k3 fn
  have ek3 := k3 _ _ (s2 _ _ ek) (by simpa using nk.symm)
  clear en ek s2 k3 eD nD s1 H1
  dsimp only [gName]
  refine ⟨_, rfl, _, rfl, _, rfl, hp, t, v, c, G, as, ts, rfl, hh.same s3, Ty1, ht.same s3, gt, by omega, hn, fun D H4 s4 nD eD => ?_⟩
  refine ⟨_, rfl, ?_⟩
  dsimp only [tNil, List.append_nil, List.cons_append, List.nil_append]
  refine row eD (s4 _ _ ek3) (fun z => by rw [z, ek3] at nD; cases nD) lc (by decide) fun p2 H5 k5 e2 ek5 => ?_
  have s5 : Same H H5 := keep s3 s4 k5 fk
  have en5 := k5 _ _ (s4 _ _ en3) (by simpa using nk)
  have e15 := k5 _ _ (s4 _ _ e1) (fun z => by rw [List.mem_singleton.mp z, ek3] at e1; cases e1)
  clear en3 ek3 s4 k5 eD nD s3 e1
  dsimp only [gName]
  refine ⟨_, rfl, _, rfl, _, rfl, hp, u, vu, x, G, as, ts, rfl, hh.same s5, Ty1, hu.same s5, gu, by omega, nu, fun D H6 s6 nD eD => ?_⟩
  refine ⟨_, rfl, ?_⟩
  dsimp only [tNil, List.append_nil, List.cons_append, List.nil_append]
  refine row eD (s6 _ _ en5) (fun z => by rw [z, en5] at nD; cases nD) lr2 (by omega) fun p3 H7 k7 e3 en7 => ?_
  have s7 : Same H H7 := keep s5 s6 k7 fn
  have ek7 := k7 _ _ (s6 _ _ ek5) (by simpa using nk.symm)
  have e17 := k7 _ _ (s6 _ _ e15) (fun z => by rw [List.mem_singleton.mp z, en5] at e15; cases e15)
  have e27 := k7 _ _ (s6 _ _ e2) (fun z => by rw [List.mem_singleton.mp z, en5] at e2; cases e2)
  clear en5 ek5 s6 k7 eD nD s5 e15 e2
  dsimp only [gName]
  refine ⟨_, rfl, _, rfl, _, rfl, hp, u, vu, x, G, as, ts, rfl, hh.same s7, Ty1, hu.same s7, gu, by omega, nu, fun D H8 s8 nD eD => ?_⟩
  refine ⟨_, rfl, ?_⟩
  dsimp only [tNil, List.append_nil, List.cons_append, List.nil_append]
  refine row eD (s8 _ _ ek7) (fun z => by rw [z, ek7] at nD; cases nD) lc2 (by omega) fun p4 H9 k9 e4 ek9 => ?_
  have s9 : Same H H9 := keep s7 s8 k9 fk
  have e19 := k9 _ _ (s8 _ _ e17) (fun z => by rw [List.mem_singleton.mp z, ek7] at e17; cases e17)
  have e29 := k9 _ _ (s8 _ _ e27) (fun z => by rw [List.mem_singleton.mp z, ek7] at e27; cases e27)
  have e39 := k9 _ _ (s8 _ _ e3) (fun z => by rw [List.mem_singleton.mp z, ek7] at e3; cases e3)
  clear ek7 s8 k9 eD nD s7 e17 e27 e3 en7
  dsimp only [gName]
  refine ⟨_, rfl, _, rfl, _, rfl, _, rfl, _, rfl, _, rfl, ?_⟩
  dsimp only [tNil, List.append_nil, List.cons_append, List.nil_append]
  refine row (s9 _ _ hsn) ek9 (fun z => by rw [z, fk] at hsn; cases hsn) lsn (by omega) fun p5 HA kA e5 _ => ?_
  have sA : Same H HA := keep s9 (Same.refl _) kA fk
  have off : ∀ {p : Addr} {xs : List V}, H9 p = some (.tup xs) → HA p = some (.tup xs) := fun {p xs} e => kA _ _ e fun z => by rw [List.mem_singleton.mp z, ek9] at e; cases e
  refine ⟨Nat.le_of_ble_eq_true rfl, fun p np => ?_⟩
  have sp := same_upd (o := .tup [.ref p1, .ref p2, .ref p3, .ref p4, .ref p5]) np
  exact q p p1 p2 p3 p4 p5 _ (sA.trans sp) upd_same (sp _ _ (off e19)) (sp _ _ (off e29)) (sp _ _ (off e39)) (sp _ _ (off e4)) (sp _ _ e5)
end
end Lx
namespace Lx
open PySem PySem.Spec PyProof.Rows L2 Ub Ur Ug Ue Up Uo Ve Va Vk
section
variable {P : Program} {w : World} {K : PySem.W.Frag} {mg : Str → Option Value} {base : Heap}
theorem lk5 {z : Str} {tv : V} {na fa sa : Addr} : ([("text", V.str z), ("tree", tv), ("names", .ref na), ("fields", .ref fa), ("spots", .ref sa)] : List (Str × V)).lookup ("names" : Str) = some (V.ref na) := rfl
theorem sc_is_plain : FnScope ["self"] ["self"] (defScope s_Shape_is_plain) := ⟨rfl, rfl, rfl, by decide +kernel, rfl, by decide +kernel, by decide +kernel⟩
theorem ok_is_plain {f : Addr} {fd : FuncData} (F : FunD K "is_plain" "Shape.is_plain" (defArgs s_Shape_is_plain) (defBody s_Shape_is_plain) (defScope s_Shape_is_plain) [] [] f fd) (T : Tx K mg) : FnOk P w K mg base CX0 1 f fd ["self"] (sp_shP (He.ga K "Shape") fun t => .bl t.isNil) := by
  refine F.ok sc_is_plain (fun vs H Q E h => by obtain ⟨x, g, Z, rfl, _⟩ := h; rfl) (fun cdv A outer s H vs Q E hr h => ?_)
  obtain ⟨x, g, Z, rfl, sh, hg, q⟩ := h
  refine ⟨_, PSs.nox (pss_one (ps_ret (pe_cmpR (op_eq_nilK K hr.units0) (pe_fldK K (pv 0) rfl) (pe_tup pa_nil) (nomark _)))), ?_⟩
  obtain ⟨dx, tv, na, fa, sa, h1, h2, h3, _⟩ := sh.1
  refine ⟨_, rfl, x, _, dx, _, _, rfl, h1, T.k_Shape, T.n_Shape_names, lk5, Nat.zero_le _, fun e ne => ?_⟩
  have s1 := same_upd (o := .tup []) ne
  refine ⟨na, e, _, rfl, rfl, .inl (.inl (s1 _ _ h3)), .inl (.inl upd_same), ?_⟩
  have ee : (g.tr.fields.map fun m => V.str m.1).isEmpty = g.tr.isNil := by rw [List.isEmpty_map, Tr.nil_iff]
  rw [ee]
  exact q _ s1
theorem lk2 {z : Str} {tv : V} {na fa sa : Addr} : ([("text", V.str z), ("tree", tv), ("names", .ref na), ("fields", .ref fa), ("spots", .ref sa)] : List (Str × V)).lookup ("tree" : Str) = some tv := rfl
theorem sc_pplains : FnScope ["self"] ["self"] (defScope s_Shape_plains) := ⟨rfl, rfl, rfl, by decide +kernel, rfl, by decide +kernel, by decide +kernel⟩
theorem ok_pplains {f : Addr} {fd : FuncData} (F : FunD K "plains" "Shape.plains" (defArgs s_Shape_plains) (defBody s_Shape_plains) (defScope s_Shape_plains) [] [] f fd) (T : Tx K mg) (c_plains_of : Cal P w K mg base 4 "plains_of" ["tree"] (sp_tree 4 fun t => .int (t.plains : Nat))) : FnOk P w K mg base CX0 5 f fd ["self"] (sp_shP (He.ga K "Shape") fun t => .int (t.plains : Nat)) := by
  refine F.ok sc_pplains (fun vs H Q E h => by obtain ⟨x, g, Z, rfl, _⟩ := h; rfl) (fun cdv A outer s H vs Q E hr h => ?_)
  obtain ⟨x, g, Z, rfl, sh, hg, q⟩ := h
  refine ⟨_, PSs.nox (pss_one (ps_ret (pe_cal c_plains_of (hr.mono (by omega)) (by rfl) (pa_cons (pe_fldK K (pv 0) rfl) pa_nil)))), ?_⟩
  obtain ⟨dx, tv, na, fa, sa, h1, h2, h3, _⟩ := sh.1
  obtain ⟨md, ms, mh⟩ := good_has hg
  exact ⟨_, rfl, x, _, dx, _, _, rfl, h1, T.k_Shape, T.n_Shape_tree, lk2, g.tr, tv, rfl, h2, by omega, by omega, mh, q⟩
end
section
variable {P : Program} {w : World} {K : PySem.W.Frag} {mg : Str → Option Value} {base : Heap}
theorem sc_precords : FnScope ["self"] ["self"] (defScope s_Shape_records) := ⟨rfl, rfl, rfl, by decide +kernel, rfl, by decide +kernel, by decide +kernel⟩
theorem ok_precords {f : Addr} {fd : FuncData} (F : FunD K "records" "Shape.records" (defArgs s_Shape_records) (defBody s_Shape_records) (defScope s_Shape_records) [] [] f fd) (T : Tx K mg) (c_records_of : Cal P w K mg base 4 "records_of" ["tree"] (sp_tree 4 fun t => .int (t.recs : Nat))) : FnOk P w K mg base CX0 5 f fd ["self"] (sp_shP (He.ga K "Shape") fun t => .int (t.recs : Nat)) := by
  refine F.ok sc_precords (fun vs H Q E h => by obtain ⟨x, g, Z, rfl, _⟩ := h; rfl) (fun cdv A outer s H vs Q E hr h => ?_)
  obtain ⟨x, g, Z, rfl, sh, hg, q⟩ := h
  refine ⟨_, PSs.nox (pss_one (ps_ret (pe_cal c_records_of (hr.mono (by omega)) (by rfl) (pa_cons (pe_fldK K (pv 0) rfl) pa_nil)))), ?_⟩
  obtain ⟨dx, tv, na, fa, sa, h1, h2, h3, _⟩ := sh.1
  obtain ⟨md, ms, mh⟩ := good_has hg
  exact ⟨_, rfl, x, _, dx, _, _, rfl, h1, T.k_Shape, T.n_Shape_tree, lk2, g.tr, tv, rfl, h2, by omega, by omega, mh, q⟩
end
end Lx
namespace Ub
open PySem PySem.Spec PyProof.Rows L2 Ur
def letters3 : Str := "etaoinshrdlucmfwypvbgkjqxz"
theorem lets3_nd : letters3.cps.toList.Nodup := by decide +kernel
theorem lets3_len : letters3.cps.toList.length = 26 := by decide +kernel
theorem lets3_let : letters3.cps.toList.all isLet = true := by decide +kernel
theorem let3 {c : Nat} (h : c ∈ letters3.cps.toList) : isLet c = true := List.all_eq_true.mp lets3_let c h
def ways3 (z : Str) : List Str := z :: letters3.cps.toList.map (way z)
theorem ways3_ex (z : Str) (bad : List Str) (hb : bad.length ≤ 25) : ∃ c ∈ letters3.cps.toList, way z c ∉ bad := by
  refine Classical.byContradiction fun h => ?_
  have hs : ∀ x ∈ letters3.cps.toList.map (way z), x ∈ bad := fun x hx => by
    obtain ⟨c, hc, rfl⟩ := List.mem_map.mp hx
    exact Classical.byContradiction fun hn => h ⟨c, hc, hn⟩
  have hn : (letters3.cps.toList.map (way z)).Nodup := by
    unfold List.Nodup
    rw [List.pairwise_map]
    exact lets3_nd.imp fun hne e => hne (way_inj e)
  have := sub_len _ _ hn hs
  rw [List.length_map, lets3_len] at this
  omega
def sign3 (n : Nat) : Str := ⟨#[letters3.cps.toList.getD n 0]⟩
theorem sign3_low {n : Nat} (h : n < 26) : (sign3 n).length = 1 ∧ Low (sign3 n) := by
  refine ⟨rfl, fun c hc => ?_⟩
  have e : c = letters3.cps.toList.getD n 0 := by
    unfold sign3 at hc
    simpa using hc
  rw [e, List.getD_eq_getElem?_getD, List.getElem?_eq_getElem (by rw [lets3_len]; exact h)]
  exact let3 (List.getElem_mem _)
theorem sign3_at {n : Nat} (h : n < 26) : letters3.cps.toList[n]? = some (letters3.cps.toList.getD n 0) := by
  rw [List.getD_eq_getElem?_getD, List.getElem?_eq_getElem (by rw [lets3_len]; exact h)]
  rfl
def fresh3 (taken : List Str) : V → Option V
  | .str y => if y ∉ taken ++ kept then some (.str y) else none
  | _ => none
def sgn3 : V → Option V
  | .int i => some (.str (sign3 i.toNat))
  | _ => none
end Ub
namespace Lx
open PySem PySem.Spec PyProof.Rows L2 Ub Ur
section
variable {P : Program} {w : World} {K : PySem.W.Frag} {mg : Str → Option Value} {base : Heap}
theorem sc_law_word : FnScope ["_law_state", "_law_taken", "_law_letters", "_law_kept", "_law_drawn", "_law_word_here", "_law_ways", "_law_turn", "_law_at_here", "_law_letter", "_law_way"] ["_law_state", "_law_taken"] (defScope s_law_word) := ⟨rfl, rfl, rfl, by decide +kernel, rfl, by decide +kernel, by decide +kernel⟩
theorem ok_law_word {f : Addr} {fd : FuncData} (F : FunD K "_law_word" "_law_word" (defArgs s_law_word) (defBody s_law_word) (defScope s_law_word) [] [] f fd) (T : Tx K mg) (c_law_draw : Cal P w K mg base 1 "_law_draw" ["_law_state", "_law_many"] sp_draw) : FnOk P w K mg base CX0 2 f fd ["_law_state", "_law_taken"] sp_word := by
  refine F.ok sc_law_word (fun vs H Q E h => ?_) (fun cdv A outer s H vs Q E hr h => ?_)
  · obtain ⟨st, g, l, t, taken, rfl, _⟩ := h
    rfl
  · obtain ⟨st, g, l, t, taken, rfl, ht, t1, t2, t3, lt, S, q⟩ := h
    refine ⟨_, PSs.nox (pss_cons (ps_set (i := 2) sc_law_word.nd rfl (by first | exact Or.inl rfl | exact Or.inr rfl) pe_str)
      (pss_cons (ps_set (i := 3) sc_law_word.nd rfl (by first | exact Or.inl rfl | exact Or.inr rfl) (pe_lst (pa_cons pe_str (pa_cons pe_str (pa_cons pe_str (pa_cons pe_str (pa_cons pe_str (pa_cons pe_str (pa_cons pe_str (pa_cons pe_str (pa_cons pe_str pa_nil)))))))))))
      (pss_cons (ps_setLc (i := 4) (own := [("_law_turn", 7)]) (by rfl) sc_law_word.nd rfl rfl (sw_true rfl rfl rfl (by decide +kernel)) (pi_range1 (by rfl) T.range (pa_cons (pe_op op_add pe_int (pe_cal c_law_draw (hr.mono (by omega)) (by rfl) (pa_cons (pv 0) (pa_cons pe_int pa_nil)))) pa_nil)) (blkOk_by (N := ["_law_state", "_law_taken", "_law_letters", "_law_kept", "_law_drawn", "_law_word_here", "_law_ways", "_law_turn", "_law_at_here", "_law_letter", "_law_way"]) (sc := (defScope s_law_word)) (by decide +kernel)) (fun _ _ _ _ _ => (pg_name (i := 7) sc_law_word.nd rfl (by first | exact Or.inl rfl | exact Or.inr rfl))) (fun _ _ _ _ _ => pts_nil) (fun _ _ _ _ _ => (pe_cal c_law_draw (hr.mono (by omega)) (by rfl) (pa_cons (pv 0) (pa_cons pe_int pa_nil)))))
      (pss_cons (ps_set (i := 5) sc_law_word.nd rfl (by first | exact Or.inl rfl | exact Or.inr rfl) (pe_join pe_str (pe_lc (own := [("_law_at_here", 8)]) (by rfl) sc_law_word.nd (pi_listK K (pv 4)) (blkOk_by (N := ["_law_state", "_law_taken", "_law_letters", "_law_kept", "_law_drawn", "_law_word_here", "_law_ways", "_law_turn", "_law_at_here", "_law_letter", "_law_way"]) (sc := (defScope s_law_word)) (by decide +kernel)) (fun _ _ _ _ _ => (pg_name (i := 8) sc_law_word.nd rfl (by first | exact Or.inl rfl | exact Or.inr rfl))) (fun _ _ _ _ _ => pts_nil) (fun _ _ _ _ _ => (pe_ix ix_str (pv 2) (pv 8) (fun _ _ => rfl))))))
      (pss_cons (ps_set (i := 6) sc_law_word.nd rfl (by first | exact Or.inl rfl | exact Or.inr rfl) (pe_op op_cat (pe_lst (pa_cons (pv 5) pa_nil)) (pe_lc (own := [("_law_letter", 9)]) (by rfl) sc_law_word.nd (pi_str (pv 2)) (blkOk_by (N := ["_law_state", "_law_taken", "_law_letters", "_law_kept", "_law_drawn", "_law_word_here", "_law_ways", "_law_turn", "_law_at_here", "_law_letter", "_law_way"]) (sc := (defScope s_law_word)) (by decide +kernel)) (fun _ _ _ _ _ => (pg_name (i := 9) sc_law_word.nd rfl (by first | exact Or.inl rfl | exact Or.inr rfl))) (fun _ _ _ _ _ => pts_nil) (fun _ _ _ _ _ => (pe_op op_add_str (pe_slice sl_str (pv 5) po_none (po_some pe_int)) (pv 9))))))
      (pss_one (ps_ret (pe_ix (ix_listK K) (pe_lc (own := [("_law_way", 10)]) (by rfl) sc_law_word.nd (pi_listK K (pv 6)) (blkOk_by (N := ["_law_state", "_law_taken", "_law_letters", "_law_kept", "_law_drawn", "_law_word_here", "_law_ways", "_law_turn", "_law_at_here", "_law_letter", "_law_way"]) (sc := (defScope s_law_word)) (by decide +kernel)) (fun _ _ _ _ _ => (pg_name (i := 10) sc_law_word.nd rfl (by first | exact Or.inl rfl | exact Or.inr rfl))) (fun _ _ _ _ _ => pts_one (pt_cmpR (op_notIn_seqK K) (pv 10) (pe_op op_cat (pv 1) (pv 3)) (by rfl))) (fun _ _ _ _ _ => (pv 10))) pe_int (fun _ _ => rfl))))))))), ?_⟩
    -- letters, kept
    refine ⟨(by show 9 ≤ sizeLine; decide), fun k hk => ?_⟩
    have sk := same_upd (o := .lst keptV) hk
    have ek : (upd H k (.lst keptV)) k = some (.lst keptV) := upd_same
    obtain ⟨k1, k2, k3⟩ := S.ne hk
    have S1 := S.same sk
    dsimp only [gName]
    -- many
    refine ⟨_, rfl, st, g, l, 8, rfl, by decide, by decide, S1, fun d H1 d0 d1 S2 p1 => ?_⟩
    refine ⟨_, _, rfl, rfl, ?_⟩
    obtain ⟨n, rfl⟩ : ∃ n : Nat, d = (n : Int) := ⟨d.toNat, by omega⟩
    have hn : n < 8 := by omega
    have en : (1 + (n : Int)).toNat = n + 1 := by omega
    refine ⟨_, rfl, by omega, by omega, fun D hD => ?_⟩
    rw [en]
    obtain ⟨D1, D2, D3⟩ := S2.ne hD
    refine lc_range (fun i H2 => StAt H2 st g l ∧ Kp st g l H1 H2 ∧ ∃ ns : List Nat, H2 D = some (.lst (ns.map fun n => V.int (n : Nat))) ∧ ns.length = i ∧ ∀ n ∈ ns, n < 26) ?_ (fun i H2 hi hp => ?_) (fun H2 hp => ?_)
    · exact ⟨S2.same (same_upd hD), Kp.of (same_upd hD), [], upd_same, rfl, fun _ h => nomatch h⟩
    · obtain ⟨Sx, px, ns, hD2, lw, hw⟩ := hp
      refine ⟨rfl, _, rfl, st, g, l, 26, rfl, by decide, by decide, Sx, fun d H3 d0 d1 S3 p3 => ?_⟩
      obtain ⟨j, rfl⟩ : ∃ j : Nat, d = (j : Int) := ⟨d.toNat, by omega⟩
      have hD3 := p3 _ _ hD2 D1 D2 D3
      refine ⟨_, hD3, ?_, ?_, ?_, ns ++ [j], ?_, ?_, ?_⟩
      · rw [List.length_map]
        exact small1000 (by omega)
      · obtain ⟨⟨gs, ls, c, a, h1, h2, h3, r⟩, n1, n2, n3⟩ := S3
        exact ⟨⟨gs, ls, c, a, by rw [upd_ne D1.symm]; exact h1, by rw [upd_ne D2.symm]; exact h2, by rw [upd_ne D3.symm]; exact h3, r⟩, n1, n2, n3⟩
      · intro b o e b1 b2 b3
        rw [upd_ne (ne_of_none e hD)]
        exact p3 _ _ (px _ _ e b1 b2 b3) b1 b2 b3
      · rw [upd_same, List.map_append]
        rfl
      · rw [List.length_append, lw]; rfl
      · intro x hx
        rcases List.mem_append.mp hx with hx | hx
        · exact hw x hx
        · rw [List.mem_singleton.mp hx]
          omega
    obtain ⟨Sx, px, ns, hD2, lw, hw⟩ := hp
    dsimp only [gName]
    refine ⟨⟨_, rfl⟩, _, rfl, D, rfl, ⟨_, .inl (.inl hD2)⟩, fun J hJ => ?_⟩
    refine lcW (walk_list (xs := ns.map fun n => V.int (n : Nat))) sgn3 (fun H s => s.seq (.inl (.inl hD2))) (sz4 (by rw [List.length_map]; omega)) hJ (fun i x H' hx s' => ?_) (fun HJ sJ dJ => ?_)
    · obtain ⟨m, hm, rfl⟩ := List.mem_map.mp (List.mem_of_getElem? hx)
      intro Q1 Q0 h1 h0
      exact ⟨rfl, _, rfl, _, rfl, letters3, _, _, rfl, rfl, (by decide +kernel), atI_nat (sign3_at (hw m hm)), h1 _ _ rfl (Same.refl _)⟩
    have ews : (ns.map fun n => V.int (n : Nat)).filterMap sgn3 = (ns.map sign3).map V.str := by
      rw [List.filterMap_map, List.map_map]
      show ns.filterMap (fun n => some (V.str (sign3 n))) = _
      rw [List.filterMap_eq_map']
      rfl
    rw [ews] at dJ
    have hw2 : ∀ x ∈ ns.map sign3, x.length = 1 ∧ Low x := fun x hx => by
      obtain ⟨n, hn, rfl⟩ := List.mem_map.mp hx
      exact sign3_low (hw n hn)
    have lw2 : (ns.map sign3).length = n + 1 := by rw [List.length_map]; exact lw
    generalize ns.map sign3 = ws at *
    have slen : (ws.map (·.length)).sum = ws.length := by
      clear dJ lw2 ews
      induction ws with
      | nil => rfl
      | cons x r ih =>
        rw [List.map_cons, List.sum_cons, ih fun y hy => hw2 y (List.mem_cons_of_mem _ hy), (hw2 x List.mem_cons_self).1, List.length_cons]
        omega
    refine ⟨"", J, ws, rfl, rfl, .inl (.inl (.inl dJ)), ?_, ?_⟩
    · rw [slen, show (("" : Str)).length = 0 by decide +kernel]
      omega
    rw [TL.join_eq]
    have lowz : Low (Str.join "" ws) := fun c hc => by
      rw [join_cps] at hc
      obtain ⟨x, hx, hcx⟩ := List.mem_flatMap.mp hc
      exact (hw2 x hx).2 c hcx
    have lenz : (Str.join "" ws).length = n + 1 := by
      rw [← len_toList, join_cps, List.length_flatMap]
      have : (ws.map fun w => w.cps.toList.length) = ws.map (·.length) := List.map_congr_left fun x _ => len_toList x
      rw [this, slen, lw2]
    generalize Str.join "" ws = z at *
    dsimp only [gName]
    -- ways
    refine ⟨_, rfl, (by show 1 ≤ sizeLine; decide), fun e1 ne1 => ?_⟩
    have se := same_upd (o := .lst [.str z]) ne1
    have he1 : (upd HJ e1 (.lst [.str z])) e1 = some (.lst [.str z]) := upd_same
    generalize upd HJ e1 (.lst [.str z]) = H3 at *
    refine ⟨_, rfl, letters3, rfl, fun e2 ne2 => ?_⟩
    refine lcW (walk_strV (z := letters3)) (liftS fun c => some (.str (way z c))) (fun _ _ => trivial) (sz4 (by rw [List.length_map, lets3_len]; decide)) ne2 (fun i x H' hx s' => ?_) (fun H4 s4 d4 => ?_)
    · obtain ⟨c, hc, rfl⟩ := List.mem_map.mp (List.mem_of_getElem? hx)
      intro Q1 Q0 h1 h0
      refine ⟨rfl, _, rfl, 7, rfl, z, rfl, sz4 (by omega), _, rfl, _, _, rfl, rfl, ?_, h1 _ _ rfl (Same.refl _)⟩
      have h7 := cut_7 z
      have e1 : ((⟨#[c]⟩ : Str)).length = 1 := rfl
      rw [e1]
      exact sz4 (by omega)
    rw [fm_liftS] at d4
    have ew : (letters3.cps.toList.filterMap fun c => some (V.str (way z c))) = (letters3.cps.toList.map (way z)).map V.str := by
      rw [List.filterMap_eq_map', List.map_map]
      rfl
    rw [ew] at d4
    refine ⟨e1, e2, _, _, rfl, rfl, s4 _ _ he1, d4, ?_, fun u nu => ?_⟩
    · rw [List.length_map, List.length_map, lets3_len]
      show 1 + 26 ≤ sizeLine
      decide
    have su := same_upd (o := .lst ([.str z] ++ (letters3.cps.toList.map (way z)).map V.str)) nu
    have hu : (upd H4 u (.lst ([.str z] ++ (letters3.cps.toList.map (way z)).map V.str))) u = some (.lst ((ways3 z).map V.str)) := upd_same
    generalize upd H4 u (.lst ([.str z] ++ (letters3.cps.toList.map (way z)).map V.str)) = H5 at *
    -- return
    have s25 : Same H2 H5 := sJ.trans ((se.trans s4).trans su)
    have kk : Kp st g l H H5 := (((Kp.of sk).trans p1).trans px).trans (Kp.of s25)
    have ht5 : H5 t = some (.lst (taken.map V.str)) := kk _ _ ht t1 t2 t3
    have hk5 : H5 k = some (.lst keptV) := s25 _ _ (px _ _ (p1 _ _ ek k1 k2 k3) k1 k2 k3)
    refine ⟨_, rfl, u, rfl, ⟨_, .inl (.inl hu)⟩, fun v nv => ?_⟩
    have ekv : taken.map V.str ++ keptV = (taken ++ kept).map V.str := by rw [List.map_append]; rfl
    refine lcW (walk_list (xs := (ways3 z).map V.str)) (fresh3 taken) (fun H s => s.seq (.inl (.inl hu))) (sz4 (by rw [List.length_map]; unfold ways3; rw [List.length_cons, List.length_map, lets3_len]; decide)) nv (fun i x H' hx s' => ?_) (fun H6 s6 d6 => ?_)
    · obtain ⟨y, hy, rfl⟩ := List.mem_map.mp (List.mem_of_getElem? hx)
      intro Q1 Q0 h1 h0
      refine ⟨rfl, _, rfl, _, rfl, _, rfl, t, k, _, _, rfl, rfl, s' _ _ ht5, s' _ _ hk5, ?_, fun e3 ne3 => ?_⟩
      · rw [List.length_map]
        show taken.length + 9 ≤ sizeLine
        exact Nat.le_trans (show taken.length + 9 ≤ 100 by omega) (by decide)
      have s3 := same_upd (o := .lst (taken.map V.str ++ keptV)) ne3
      refine ⟨e3, _, rfl, .inl (.inl (.inl upd_same)), rfl, (by rw [ekv]; exact Ub.flat_strs _), _, rfl, ?_⟩
      refine iteE (c := !decide (y ∈ taken ++ kept)) (by show (!inV (.str y) (taken.map V.str ++ keptV)) = _; rw [ekv, inV_str]) (fun e => ?_) (fun e => ?_)
      · have ey : y ∉ taken ++ kept := by simpa using e
        exact ⟨_, rfl, h1 _ _ (by show (if y ∉ taken ++ kept then some (V.str y) else none) = _; rw [if_pos ey]) s3⟩
      · have ey : y ∈ taken ++ kept := by
          cases h : decide (y ∈ taken ++ kept) with
          | true => exact of_decide_eq_true h
          | false => rw [h] at e; cases e
        exact h0 _ (by show (if y ∉ taken ++ kept then some (V.str y) else none) = _; rw [if_neg fun z => z ey]) s3
    have good : ∀ x ∈ ((ways3 z).map V.str).filterMap (fresh3 taken), ∃ y, x = .str y ∧ isWord y = true ∧ y ∉ taken := fun x hx => by
      obtain ⟨a, ha, e⟩ := List.mem_filterMap.mp hx
      obtain ⟨y, hy, rfl⟩ := List.mem_map.mp ha
      have e2 : (if y ∉ taken ++ kept then some (V.str y) else none) = some x := e
      by_cases hc : y ∉ taken ++ kept
      · rw [if_pos hc] at e2
        have hk : y ∉ kept := fun h => hc (List.mem_append_right _ h)
        refine ⟨y, (Option.some.inj e2).symm, isWord_iff.mpr ?_, fun h => hc (List.mem_append_left _ h)⟩
        unfold ways3 at hy
        rcases List.mem_cons.mp hy with rfl | hy
        · exact ⟨by omega, by omega, lowz, hk⟩
        · obtain ⟨c, hcl, rfl⟩ := List.mem_map.mp hy
          exact ⟨(way_len z c).1, (way_len z c).2, way_low lowz (let3 hcl), hk⟩
      · rw [if_neg hc] at e2
        cases e2
    obtain ⟨c, hc, hb⟩ := ways3_ex z (taken ++ kept) (by rw [List.length_append]; have : kept.length = 9 := rfl; omega)
    have hin : V.str (way z c) ∈ ((ways3 z).map V.str).filterMap (fresh3 taken) := by
      refine List.mem_filterMap.mpr ⟨V.str (way z c), List.mem_map.mpr ⟨_, List.mem_cons_of_mem _ (List.mem_map.mpr ⟨c, hc, rfl⟩), rfl⟩, ?_⟩
      show (if way z c ∉ taken ++ kept then some (V.str (way z c)) else none) = _
      rw [if_pos hb]
    generalize ((ways3 z).map V.str).filterMap (fresh3 taken) = L at *
    cases L with
    | nil => cases hin
    | cons x r =>
      obtain ⟨y, rfl, hy, hyt⟩ := good x List.mem_cons_self
      exact ixl d6 at0 (q y H6 hy hyt (((Sx.same s25).same s6)) (kk.trans (Kp.of s6)))
end
end Lx
namespace Lx
open PySem PySem.Spec PyProof.Rows L2 Ub Ur Ug Ue Up Uo Ve Va Vk Wb Pt Gr Sb Rw
theorem facts {P : Program} {w : World} {K : PySem.W.Frag} {h : Heap} {mg : Str → Option Value} {f : Addr} (X : K.In h) (G : h.Ns mainGlobals mg) (hfa : mg ("law" : Str) = some (.ref f)) (c : Says w h K) (hfile : ((P.main.file : Str) == fileT) = true) (htop : (P.main.scope.names.lookup ("super" : Str)).isSome = false) :
    ∃ fd : FuncData, (∀ (s : Shared) (v : Value), BindsTo s fd ⟨[v], []⟩ [("_law_script", v)]) ∧ ∀ base : Heap, K.In base → base.Ns mainGlobals mg → FnG P w K mg base CX0 30 f fd ["_law_script"] (sp_law K) := by
  have T := tx_of X G c
  obtain ⟨fd_BadShape___init__, F_BadShape___init__⟩ := df_BadShape___init__ c
  obtain ⟨fd_BadPath___init__, F_BadPath___init__⟩ := df_BadPath___init__ c
  obtain ⟨fd_BadLine___init__, F_BadLine___init__⟩ := df_BadLine___init__ c
  obtain ⟨fd_law_start, F_law_start⟩ := df_law_start c
  obtain ⟨fd_law_draw, F_law_draw⟩ := df_law_draw c
  obtain ⟨fd_law_of, F_law_of⟩ := df_law_of c
  obtain ⟨fd_law_word, F_law_word⟩ := df_law_word c
  obtain ⟨fd_law_size, F_law_size⟩ := df_law_size c
  obtain ⟨fd_law_tree, F_law_tree⟩ := df_law_tree c
  obtain ⟨fd_law_text, F_law_text⟩ := df_law_text c
  obtain ⟨fd_law_paths, F_law_paths⟩ := df_law_paths c
  obtain ⟨fd_law_path, F_law_path⟩ := df_law_path c
  obtain ⟨fd_law_shape, F_law_shape⟩ := df_law_shape c
  obtain ⟨fd_law_made, F_law_made⟩ := df_law_made c
  obtain ⟨fd_law_at, F_law_at⟩ := df_law_at c
  obtain ⟨fd_law_below, F_law_below⟩ := df_law_below c
  obtain ⟨fd_law_get, F_law_get⟩ := df_law_get c
  obtain ⟨fd_law_set, F_law_set⟩ := df_law_set c
  obtain ⟨fd_law_content, F_law_content⟩ := df_law_content c
  obtain ⟨fd_law_nodes, F_law_nodes⟩ := df_law_nodes c
  obtain ⟨fd_law_numbers, F_law_numbers⟩ := df_law_numbers c
  obtain ⟨fd_law_form, F_law_form⟩ := df_law_form c
  obtain ⟨fd_law_held_form, F_law_held_form⟩ := df_law_held_form c
  obtain ⟨fd_is_word, F_is_word⟩ := df_is_word c
  obtain ⟨fd_records_of, F_records_of⟩ := df_records_of c
  obtain ⟨fd_plains_of, F_plains_of⟩ := df_plains_of c
  obtain ⟨fd_text_of, F_text_of⟩ := df_text_of c
  obtain ⟨fd_scan_word, F_scan_word⟩ := df_scan_word c
  obtain ⟨fd_scan_shape, F_scan_shape⟩ := df_scan_shape c
  obtain ⟨fd_is_bounded, F_is_bounded⟩ := df_is_bounded c
  obtain ⟨fd_tree_of, F_tree_of⟩ := df_tree_of c
  obtain ⟨fd_Shape___init__, F_Shape___init__⟩ := df_Shape___init__ c
  obtain ⟨fd_Shape___getitem__, F_Shape___getitem__⟩ := df_Shape___getitem__ c
  obtain ⟨fd_Shape___contains__, F_Shape___contains__⟩ := df_Shape___contains__ c
  obtain ⟨fd_Shape_is_plain, F_Shape_is_plain⟩ := df_Shape_is_plain c
  obtain ⟨fd_Shape_plains, F_Shape_plains⟩ := df_Shape_plains c
  obtain ⟨fd_Shape_records, F_Shape_records⟩ := df_Shape_records c
  obtain ⟨fd_add_line, F_add_line⟩ := df_add_line c
  obtain ⟨fd_Update___init__, F_Update___init__⟩ := df_Update___init__ c
  obtain ⟨fd_Book___init__, F_Book___init__⟩ := df_Book___init__ c
  obtain ⟨fd_is_whole, F_is_whole⟩ := df_is_whole c
  obtain ⟨fd_are_wholes, F_are_wholes⟩ := df_are_wholes c
  obtain ⟨fd_spans_of, F_spans_of⟩ := df_spans_of c
  obtain ⟨fd_are_numbered, F_are_numbered⟩ := df_are_numbered c
  obtain ⟨fd_are_consistent, F_are_consistent⟩ := df_are_consistent c
  obtain ⟨fd_is_form, F_is_form⟩ := df_is_form c
  obtain ⟨fd_is_held_form, F_is_held_form⟩ := df_is_held_form c
  obtain ⟨fd_check_record_path, F_check_record_path⟩ := df_check_record_path c
  obtain ⟨fd_Worlds___init__, F_Worlds___init__⟩ := df_Worlds___init__ c
  obtain ⟨fd_HeldWorlds___init__, F_HeldWorlds___init__⟩ := df_HeldWorlds___init__ c
  obtain ⟨fd_Worlds___contains__, F_Worlds___contains__⟩ := df_Worlds___contains__ c
  obtain ⟨fd_HeldWorlds___contains__, F_HeldWorlds___contains__⟩ := df_HeldWorlds___contains__ c
  obtain ⟨fd_law_spoiled, F_law_spoiled⟩ := df_law_spoiled c
  obtain ⟨fd_law_is_row, F_law_is_row⟩ := df_law_is_row c
  obtain ⟨fd_law_is_counted, F_law_is_counted⟩ := df_law_is_counted c
  obtain ⟨fd_law_places, F_law_places⟩ := df_law_places c
  obtain ⟨fd_law_do_agree, F_law_do_agree⟩ := df_law_do_agree c
  obtain ⟨fd_law_is_world, F_law_is_world⟩ := df_law_is_world c
  obtain ⟨fd_law_shared, F_law_shared⟩ := df_law_shared c
  obtain ⟨fd_law, F_law⟩ := df_law c
  have e := hfa.symm.trans T.g_law
  cases e
  have b := FunD.bindsA (ps := ["_law_script"]) F_law fun _ _ _ _ _ _ us hl => match us, hl with | [_], _ => rfl
  refine ⟨fd_law, fun s v => b s [v] rfl, fun base _ _ => ?_⟩
  have x_BadShape : CalX P w K mg base 1 "BadShape" (He.ga K "BadShape") "text" := x_BadShape F_BadShape___init__ T
  have x_BadPath : CalX P w K mg base 1 "BadPath" (He.ga K "BadPath") "path" := x_BadPath F_BadPath___init__ T
  have x_BadLine : CalX P w K mg base 1 "BadLine" (He.ga K "BadLine") "at" := x_BadLine F_BadLine___init__ T
  have c_law_start : Cal P w K mg base 1 "_law_start" ["_law_script"] (sp_start K) := ⟨_, fd_law_start, ok_law_start F_law_start T , T.g__law_start, F_law_start.kp, F_law_start.bindsN fun _ _ _ _ _ _ us hl => match us, hl with | [_], _ => rfl⟩
  have c_law_draw : Cal P w K mg base 1 "_law_draw" ["_law_state", "_law_many"] sp_draw := ⟨_, fd_law_draw, ok_law_draw F_law_draw T , T.g__law_draw, F_law_draw.kp, F_law_draw.bindsN fun _ _ _ _ _ _ us hl => match us, hl with | [_, _], _ => rfl⟩
  have c_law_of : Cal P w K mg base 2 "_law_of" ["_law_state", "_law_some"] sp_of := ⟨_, fd_law_of, ok_law_of F_law_of T c_law_draw, T.g__law_of, F_law_of.kp, F_law_of.bindsN fun _ _ _ _ _ _ us hl => match us, hl with | [_, _], _ => rfl⟩
  have c_law_word : Cal P w K mg base 2 "_law_word" ["_law_state", "_law_taken"] sp_word := ⟨_, fd_law_word, ok_law_word F_law_word T c_law_draw, T.g__law_word, F_law_word.kp, F_law_word.bindsN fun _ _ _ _ _ _ us hl => match us, hl with | [_, _], _ => rfl⟩
  have b_law_size : Binds K fd_law_size ["_law_tree_here"] [] := F_law_size.bindsN fun _ _ _ _ _ _ us hl => match us, hl with | [_], _ => rfl
  have c_law_size : Cal P w K mg base 4 "_law_size" ["_law_tree_here"] (sp_size 4) := ⟨_, fd_law_size, ok_law_size F_law_size T T.g__law_size b_law_size 4, T.g__law_size, F_law_size.kp, b_law_size⟩
  have b_law_tree : Binds K fd_law_tree ["_law_state", "_law_floors", "_law_room", "_law_pool"] [] := F_law_tree.bindsN fun _ _ _ _ _ _ us hl => match us, hl with | [_, _, _, _], _ => rfl
  have c_law_tree : Cal P w K mg base 8 "_law_tree" ["_law_state", "_law_floors", "_law_room", "_law_pool"] (sp_ltree 4) := ⟨_, fd_law_tree, ok_law_tree F_law_tree T T.g__law_tree b_law_tree c_law_draw c_law_of c_law_word c_law_size 4, T.g__law_tree, F_law_tree.kp, b_law_tree⟩
  obtain ⟨fd_law_fields, F_law_fields⟩ := df_law_fields c
  have b_law_text : Binds K fd_law_text ["_law_tree_here"] [] := F_law_text.bindsN fun _ _ _ _ _ _ us hl => match us, hl with | [_], _ => rfl
  have b_law_fields : Binds K fd_law_fields ["_law_tree_here"] [] := F_law_fields.bindsN fun _ _ _ _ _ _ us hl => match us, hl with | [_], _ => rfl
  have c_law_text : Cal P w K mg base 8 "_law_text" ["_law_tree_here"] (sp_tree 4 fun t => .str t.text) := ⟨_, fd_law_text, ok_law_text F_law_text F_law_fields T T.g__law_text b_law_text T.g__law_fields b_law_fields 4, T.g__law_text, F_law_text.kp, b_law_text⟩
  have b_law_paths : Binds K fd_law_paths ["_law_tree_here"] [] := F_law_paths.bindsN fun _ _ _ _ _ _ us hl => match us, hl with | [_], _ => rfl
  have c_law_paths : Cal P w K mg base 4 "_law_paths" ["_law_tree_here"] (sp_wpaths3 4) := ⟨_, fd_law_paths, ok_law_paths F_law_paths T T.g__law_paths b_law_paths 4, T.g__law_paths, F_law_paths.kp, b_law_paths⟩
  have c_law_path : Cal P w K mg base 1 "_law_path" ["_law_words"] sp_wpath := ⟨_, fd_law_path, ok_law_path F_law_path T , T.g__law_path, F_law_path.kp, F_law_path.bindsN fun _ _ _ _ _ _ us hl => match us, hl with | [_], _ => rfl⟩
  have c_law_shape : Cal P w K mg base 9 "_law_shape" ["_law_state", "_law_records", "_law_plains"] Ni.sp_lshape := ⟨_, fd_law_shape, ok_law_shape F_law_shape T c_law_draw c_law_word c_law_size c_law_tree, T.g__law_shape, F_law_shape.kp, F_law_shape.bindsN fun _ _ _ _ _ _ us hl => match us, hl with | [_, _, _], _ => rfl⟩
  have b_law_made : Binds K fd_law_made ["_law_heap", "_law_tree_here", "_law_values"] [] := F_law_made.bindsN fun _ _ _ _ _ _ us hl => match us, hl with | [_, _, _], _ => rfl
  have c_law_made : Cal P w K mg base 4 "_law_made" ["_law_heap", "_law_tree_here", "_law_values"] (Ni.sp_made 4) := ⟨_, fd_law_made, ok_law_made F_law_made T T.g__law_made b_law_made 4, T.g__law_made, F_law_made.kp, b_law_made⟩
  have c_law_at : Cal P w K mg base 1 "_law_at" ["_law_tree_here", "_law_word_here"] Ni.sp_at := ⟨_, fd_law_at, ok_law_at F_law_at T , T.g__law_at, F_law_at.kp, F_law_at.bindsN fun _ _ _ _ _ _ us hl => match us, hl with | [_, _], _ => rfl⟩
  have c_law_below : Cal P w K mg base 2 "_law_below" ["_law_tree_here", "_law_words"] Ni.sp_below := ⟨_, fd_law_below, ok_law_below F_law_below T c_law_at, T.g__law_below, F_law_below.kp, F_law_below.bindsN fun _ _ _ _ _ _ us hl => match us, hl with | [_, _], _ => rfl⟩
  have c_law_get : Cal P w K mg base 3 "_law_get" ["_law_heap", "_law_tree_here", "_law_node", "_law_words"] Ni.sp_get := ⟨_, fd_law_get, ok_law_get F_law_get T c_law_at c_law_below, T.g__law_get, F_law_get.kp, F_law_get.bindsN fun _ _ _ _ _ _ us hl => match us, hl with | [_, _, _, _], _ => rfl⟩
  have c_law_set : Cal P w K mg base 4 "_law_set" ["_law_heap", "_law_tree_here", "_law_root", "_law_words", "_law_value"] Ni.sp_set := ⟨_, fd_law_set, ok_law_set F_law_set T c_law_at c_law_below c_law_get, T.g__law_set, F_law_set.kp, F_law_set.bindsN fun _ _ _ _ _ _ us hl => match us, hl with | [_, _, _, _, _], _ => rfl⟩
  have b_law_content : Binds K fd_law_content ["_law_heap", "_law_tree_here", "_law_node"] [] := F_law_content.bindsN fun _ _ _ _ _ _ us hl => match us, hl with | [_, _, _], _ => rfl
  have c_law_content : Cal P w K mg base 4 "_law_content" ["_law_heap", "_law_tree_here", "_law_node"] (Ni.sp_walk Ni.contI 4) := ⟨_, fd_law_content, ok_law_content F_law_content T T.g__law_content b_law_content 4, T.g__law_content, F_law_content.kp, b_law_content⟩
  have b_law_nodes : Binds K fd_law_nodes ["_law_heap", "_law_tree_here", "_law_node"] [] := F_law_nodes.bindsN fun _ _ _ _ _ _ us hl => match us, hl with | [_, _, _], _ => rfl
  have c_law_nodes : Cal P w K mg base 4 "_law_nodes" ["_law_heap", "_law_tree_here", "_law_node"] (Ni.sp_walk Ni.nodI 4) := ⟨_, fd_law_nodes, ok_law_nodes F_law_nodes T T.g__law_nodes b_law_nodes 4, T.g__law_nodes, F_law_nodes.kp, b_law_nodes⟩
  have c_law_numbers : Cal P w K mg base 1 "_law_numbers" ["_law_keys", "_law_known"] Ni.sp_numbers := ⟨_, fd_law_numbers, ok_law_numbers F_law_numbers T , T.g__law_numbers, F_law_numbers.kp, F_law_numbers.bindsN fun _ _ _ _ _ _ us hl => match us, hl with | [_, _], _ => rfl⟩
  have c_law_form : Cal P w K mg base 5 "_law_form" ["_law_heap", "_law_tree_here", "_law_root"] Ni.sp_form := ⟨_, fd_law_form, ok_law_form F_law_form T c_law_content c_law_nodes c_law_numbers, T.g__law_form, F_law_form.kp, F_law_form.bindsN fun _ _ _ _ _ _ us hl => match us, hl with | [_, _, _], _ => rfl⟩
  have c_law_held_form : Cal P w K mg base 5 "_law_held_form" ["_law_heap", "_law_tree_here", "_law_root", "_law_below_here", "_law_held", "_law_seen"] Ni.sp_hform := ⟨_, fd_law_held_form, ok_law_held_form F_law_held_form T c_law_content c_law_nodes c_law_numbers, T.g__law_held_form, F_law_held_form.kp, F_law_held_form.bindsN fun _ _ _ _ _ _ us hl => match us, hl with | [_, _, _, _, _, _], _ => rfl⟩
  have c_is_word : Cal P w K mg base 1 "is_word" ["text"] (sp_is_word K) := ⟨_, fd_is_word, ok_is_word F_is_word T , T.g_is_word, F_is_word.kp, F_is_word.bindsN fun _ _ _ _ _ _ us hl => match us, hl with | [_], _ => rfl⟩
  have b_records_of : Binds K fd_records_of ["tree"] [] := F_records_of.bindsN fun _ _ _ _ _ _ us hl => match us, hl with | [_], _ => rfl
  have c_records_of : Cal P w K mg base 4 "records_of" ["tree"] (sp_tree 4 fun t => .int (t.recs : Nat)) := ⟨_, fd_records_of, ok_records_of F_records_of T T.g_records_of b_records_of 4, T.g_records_of, F_records_of.kp, b_records_of⟩
  have b_plains_of : Binds K fd_plains_of ["tree"] [] := F_plains_of.bindsN fun _ _ _ _ _ _ us hl => match us, hl with | [_], _ => rfl
  have c_plains_of : Cal P w K mg base 4 "plains_of" ["tree"] (sp_tree 4 fun t => .int (t.plains : Nat)) := ⟨_, fd_plains_of, ok_plains_of F_plains_of T T.g_plains_of b_plains_of 4, T.g_plains_of, F_plains_of.kp, b_plains_of⟩
  have b_text_of : Binds K fd_text_of ["tree"] [] := F_text_of.bindsN fun _ _ _ _ _ _ us hl => match us, hl with | [_], _ => rfl
  have c_text_of : Cal P w K mg base 4 "text_of" ["tree"] (sp_tree 4 fun t => .str t.text) := ⟨_, fd_text_of, ok_text_of F_text_of T T.g_text_of b_text_of 4, T.g_text_of, F_text_of.kp, b_text_of⟩
  have c_scan_word : Cal P w K mg base 2 "scan_word" ["text", "at"] sp_scan_word := ⟨_, fd_scan_word, ok_scan_word F_scan_word T c_is_word, T.g_scan_word, F_scan_word.kp, F_scan_word.bindsN fun _ _ _ _ _ _ us hl => match us, hl with | [_, _], _ => rfl⟩
  obtain ⟨ds3_scan_shape, v3, b3_scan_shape⟩ := F_scan_shape.binds1 (ps := ["text", "at", "floors"]) 3 1 (by simp) rfl fun _ _ _ _ _ _ _ us its hu hi => match us, hu, its, hi with | [_, _, _], _, [_], _ => ⟨_, rfl, rfl⟩
  cases v3
  obtain ⟨ds2_scan_shape, v2_scan_shape, b2_scan_shape⟩ := F_scan_shape.binds1 (ps := ["text", "at", "floors"]) 2 0 (by simp) rfl fun _ _ _ _ _ _ _ us its hu hi => match us, hu, its, hi with | [_, _], _, [_], _ => ⟨_, rfl, rfl⟩
  have c_scan_shape2 : CalD P w K mg base 6 "scan_shape" ["text", "at", "floors"] [.int 3] (sp_scan 4) := ⟨_, fd_scan_shape, ds2_scan_shape, ok_scan_shape F_scan_shape T T.g_scan_shape b3_scan_shape c_scan_word 4, T.g_scan_shape, F_scan_shape.kp, b2_scan_shape, v2_scan_shape⟩
  have c_is_bounded : Cal P w K mg base 5 "is_bounded" ["tree"] sp_bounded := ⟨_, fd_is_bounded, ok_is_bounded F_is_bounded T c_records_of c_plains_of, T.g_is_bounded, F_is_bounded.kp, F_is_bounded.bindsN fun _ _ _ _ _ _ us hl => match us, hl with | [_], _ => rfl⟩
  have c_tree_of : Cal P w K mg base 7 "tree_of" ["text"] (sp_tree_of K) := ⟨_, fd_tree_of, ok_tree_of F_tree_of T c_is_bounded c_scan_shape2, T.g_tree_of, F_tree_of.kp, F_tree_of.bindsN fun _ _ _ _ _ _ us hl => match us, hl with | [_], _ => rfl⟩
  have b_Shape___init__ : Binds K fd_Shape___init__ ["self", "text"] [] := F_Shape___init__.bindsN fun _ _ _ _ _ _ us hl => match us, hl with | [_, _], _ => rfl
  have m_Shape : CalM P w K mg base 16 "Shape" (He.ga K "Shape") ["self", "text"] (sp_shape K (He.ga K "Shape") (He.ga K "BadShape") 4) := ⟨_, fd_Shape___init__, T.m_Shape, ok_Shape F_Shape___init__ T b_Shape___init__ c_tree_of c_text_of x_BadShape 4, T.g_Shape, b_Shape___init__⟩
  have k_Shape_getitem : CalK P w K mg base (L2.CX P w) 4 (He.ga K "Shape") "__getitem__" ["self", "path"] (sp_get K (He.ga K "Shape") (He.ga K "BadPath")) := ⟨_, fd_Shape___getitem__, T.h_Shape___getitem__, T.fi_get, ok_get F_Shape___getitem__ T x_BadPath, F_Shape___getitem__.bindsN fun _ _ _ _ _ _ us hl => match us, hl with | [_, _], _ => rfl⟩
  have k_Shape_contains : CalK P w K mg base CX0 1 (He.ga K "Shape") "__contains__" ["self", "path"] (sp_con K (He.ga K "Shape")) := ⟨_, fd_Shape___contains__, T.h_Shape___contains__, T.fi_con, ok_con F_Shape___contains__ T, F_Shape___contains__.bindsN fun _ _ _ _ _ _ us hl => match us, hl with | [_, _], _ => rfl⟩
  have p_Shape_is_plain : CalP P w K mg base 1 (He.ga K "Shape") "is_plain" (sp_shP (He.ga K "Shape") fun t => .bl t.isNil) := ⟨_, _, fd_Shape_is_plain, T.p_Shape_is_plain.ex, T.k_Shape, ok_is_plain F_Shape_is_plain T , F_Shape_is_plain.bindsN fun _ _ _ _ _ _ us hl => match us, hl with | [_], _ => rfl⟩
  have p_Shape_plains : CalP P w K mg base 5 (He.ga K "Shape") "plains" (sp_shP (He.ga K "Shape") fun t => .int (t.plains : Nat)) := ⟨_, _, fd_Shape_plains, T.p_Shape_plains.ex, T.k_Shape, ok_pplains F_Shape_plains T c_plains_of, F_Shape_plains.bindsN fun _ _ _ _ _ _ us hl => match us, hl with | [_], _ => rfl⟩
  have p_Shape_records : CalP P w K mg base 5 (He.ga K "Shape") "records" (sp_shP (He.ga K "Shape") fun t => .int (t.recs : Nat)) := ⟨_, _, fd_Shape_records, T.p_Shape_records.ex, T.k_Shape, ok_precords F_Shape_records T c_records_of, F_Shape_records.bindsN fun _ _ _ _ _ _ us hl => match us, hl with | [_], _ => rfl⟩
  have c_add_line : Cal P w K mg base 10 "add_line" ["shape", "blocks", "line"] (fun _ _ _ _ => False) := ⟨_, fd_add_line, ⟨fun _ _ _ _ h => h.elim, fun _ _ _ _ _ _ _ _ _ _ _ _ _ h => h.elim⟩, T.g_add_line, F_add_line.kp, F_add_line.bindsN fun _ _ _ _ _ _ us hl => match us, hl with | [_, _, _], _ => rfl⟩
  have m_Update : CalR P w K mg base 18 "Update" (He.ga K "Update") (fun _ _ _ _ => False) := ⟨_, T.m_Update, (by intro A; intros; exact False.elim (by assumption)), T.g_Update⟩
  have b_Book : Binds K fd_Book___init__ ["self", "text"] [] := F_Book___init__.bindsN fun _ _ _ _ _ _ us hl => match us, hl with | [_, _], _ => rfl
  have m_Book : CalM P w K mg base 20 "Book" (He.ga K "Book") ["self", "text"] (sp_book0 K) := ⟨_, fd_Book___init__, T.m_Book, ok_Book0 F_Book___init__ T c_tree_of c_add_line m_Shape m_Update x_BadLine, T.g_Book, b_Book⟩
  have c_is_whole : Cal P w K mg base 1 "is_whole" ["value"] Ni.sp_isw0 := ⟨_, fd_is_whole, ok_is_whole F_is_whole T , T.g_is_whole, F_is_whole.kp, F_is_whole.bindsN fun _ _ _ _ _ _ us hl => match us, hl with | [_], _ => rfl⟩
  have c_are_wholes : Cal P w K mg base 2 "are_wholes" ["values", "many"] sp_wholes := ⟨_, fd_are_wholes, ok_are_wholes F_are_wholes T c_is_whole, T.g_are_wholes, F_are_wholes.kp, F_are_wholes.bindsN fun _ _ _ _ _ _ us hl => match us, hl with | [_, _], _ => rfl⟩
  have c_spans_of : Cal P w K mg base 7 "spans_of" ["shape"] (Ni.sp_spans (He.ga K "Shape")) := ⟨_, fd_spans_of, ok_spans_of F_spans_of T p_Shape_is_plain p_Shape_plains p_Shape_records, T.g_spans_of, F_spans_of.kp, F_spans_of.bindsN fun _ _ _ _ _ _ us hl => match us, hl with | [_], _ => rfl⟩
  have c_are_numbered : Cal P w K mg base 1 "are_numbered" ["rows"] Ni.sp_numd := ⟨_, fd_are_numbered, ok_are_numbered F_are_numbered T , T.g_are_numbered, F_are_numbered.kp, F_are_numbered.bindsN fun _ _ _ _ _ _ us hl => match us, hl with | [_], _ => rfl⟩
  have c_are_consistent : Cal P w K mg base 8 "are_consistent" ["places"] (Ni.sp_consis (He.ga K "Shape")) := ⟨_, fd_are_consistent, ok_are_consistent F_are_consistent T c_spans_of, T.g_are_consistent, F_are_consistent.kp, F_are_consistent.bindsN fun _ _ _ _ _ _ us hl => match us, hl with | [_], _ => rfl⟩
  have c_is_form : Cal P w K mg base 9 "is_form" ["shape", "form"] (Ni.sp_isform (He.ga K "Shape")) := ⟨_, fd_is_form, ok_is_form F_is_form T p_Shape_plains p_Shape_records c_are_wholes c_are_numbered c_are_consistent, T.g_is_form, F_is_form.kp, F_is_form.bindsN fun _ _ _ _ _ _ us hl => match us, hl with | [_, _], _ => rfl⟩
  have c_is_held_form : Cal P w K mg base 9 "is_held_form" ["shape", "below", "form"] (Ni.sp_isheld (He.ga K "Shape")) := ⟨_, fd_is_held_form, ok_is_held_form F_is_held_form T p_Shape_plains p_Shape_records c_are_wholes c_are_numbered c_are_consistent, T.g_is_held_form, F_is_held_form.kp, F_is_held_form.bindsN fun _ _ _ _ _ _ us hl => match us, hl with | [_, _, _], _ => rfl⟩
  have c_check_record_path : Cal P w K mg base 6 "check_record_path" ["shape", "path"] (Ni.sp_crp K) := ⟨_, fd_check_record_path, ok_check_record_path F_check_record_path T p_Shape_is_plain k_Shape_contains k_Shape_getitem, T.g_check_record_path, F_check_record_path.kp, F_check_record_path.bindsN fun _ _ _ _ _ _ us hl => match us, hl with | [_, _], _ => rfl⟩
  have b_Worlds : Binds K fd_Worlds___init__ ["self", "book"] [] := F_Worlds___init__.bindsN fun _ _ _ _ _ _ us hl => match us, hl with | [_, _], _ => rfl
  have m_Worlds : CalM P w K mg base 1 "Worlds" (He.ga K "Worlds") ["self", "book"] (Ni.sp_winit K) := ⟨_, fd_Worlds___init__, T.m_Worlds, ok_Worlds F_Worlds___init__ T, T.g_Worlds, b_Worlds⟩
  have m_HeldWorlds : CalM P w K mg base 8 "HeldWorlds" (He.ga K "HeldWorlds") ["self", "book", "path"] (Ni.sp_hinit K) := ⟨_, fd_HeldWorlds___init__, T.m_HeldWorlds, ok_HeldWorlds F_HeldWorlds___init__ T hfile htop c_check_record_path (ok_Worlds F_Worlds___init__ T) b_Worlds, T.g_HeldWorlds, F_HeldWorlds___init__.bindsN fun _ _ _ _ _ us hl => match us, hl with | [_, _, _], _ => rfl⟩
  have k_Worlds_contains : CalK P w K mg base CX0 10 (He.ga K "Worlds") "__contains__" ["self", "form"] (Ni.sp_wcon K) := ⟨_, fd_Worlds___contains__, T.h_Worlds___contains__, T.fi_wcon, ok_wcon F_Worlds___contains__ T c_is_form, F_Worlds___contains__.bindsN fun _ _ _ _ _ _ us hl => match us, hl with | [_, _], _ => rfl⟩
  have k_HeldWorlds_contains : CalK P w K mg base CX0 10 (He.ga K "HeldWorlds") "__contains__" ["self", "form"] (Ni.sp_hcon K) := ⟨_, fd_HeldWorlds___contains__, T.h_HeldWorlds___contains__, T.fi_hcon, ok_hcon F_HeldWorlds___contains__ T c_is_held_form k_Shape_getitem, F_HeldWorlds___contains__.bindsN fun _ _ _ _ _ _ us hl => match us, hl with | [_, _], _ => rfl⟩
  have c_law_spoiled : Cal P w K mg base 3 "_law_spoiled" ["_law_state", "_law_form_here"] Ni.sp_spoiled := ⟨_, fd_law_spoiled, ok_law_spoiled F_law_spoiled T c_law_draw c_law_of, T.g__law_spoiled, F_law_spoiled.kp, F_law_spoiled.bindsN fun _ _ _ _ _ _ us hl => match us, hl with | [_, _], _ => rfl⟩
  have c_law_is_row : Cal P w K mg base 1 "_law_is_row" ["_law_row", "_law_many"] sp_wholes := ⟨_, fd_law_is_row, ok_law_is_row F_law_is_row T , T.g__law_is_row, F_law_is_row.kp, F_law_is_row.bindsN fun _ _ _ _ _ _ us hl => match us, hl with | [_, _], _ => rfl⟩
  have c_law_is_counted : Cal P w K mg base 1 "_law_is_counted" ["_law_row"] Ni.sp_counted := ⟨_, fd_law_is_counted, ok_law_is_counted F_law_is_counted T , T.g__law_is_counted, F_law_is_counted.kp, F_law_is_counted.bindsN fun _ _ _ _ _ _ us hl => match us, hl with | [_], _ => rfl⟩
  have b_law_places : Binds K fd_law_places ["_law_tree_here", "_law_records", "_law_integers"] [] := F_law_places.bindsN fun _ _ _ _ _ _ us hl => match us, hl with | [_, _, _], _ => rfl
  have c_law_places : Cal P w K mg base 8 "_law_places" ["_law_tree_here", "_law_records", "_law_integers"] (Ni.sp_places 4) := ⟨_, fd_law_places, ok_law_places F_law_places T T.g__law_places b_law_places c_law_size 4, T.g__law_places, F_law_places.kp, b_law_places⟩
  have c_law_do_agree : Cal P w K mg base 1 "_law_do_agree" ["_law_places_here"] Ni.sp_agree := ⟨_, fd_law_do_agree, ok_law_do_agree F_law_do_agree T , T.g__law_do_agree, F_law_do_agree.kp, F_law_do_agree.bindsN fun _ _ _ _ _ _ us hl => match us, hl with | [_], _ => rfl⟩
  have c_law_is_world : Cal P w K mg base 9 "_law_is_world" ["_law_shapes", "_law_form_here"] Ni.sp_isworld := ⟨_, fd_law_is_world, ok_law_is_world F_law_is_world T c_law_size c_law_is_row c_law_places c_law_is_counted c_law_do_agree, T.g__law_is_world, F_law_is_world.kp, F_law_is_world.bindsN fun _ _ _ _ _ _ us hl => match us, hl with | [_, _], _ => rfl⟩
  have c_law_shared : Cal P w K mg base 5 "_law_shared" ["_law_state", "_law_heap", "_law_tree_here", "_law_roots"] Ni.sp_shared := ⟨_, fd_law_shared, ok_law_shared F_law_shared T c_law_draw c_law_of c_law_paths c_law_get c_law_set, T.g__law_shared, F_law_shared.kp, F_law_shared.bindsN fun _ _ _ _ _ _ us hl => match us, hl with | [_, _, _, _], _ => rfl⟩
  exact ok_law F_law T c_law_start c_law_draw c_law_of c_law_shape c_law_paths c_law_size c_law_made c_law_shared c_law_get c_law_text c_law_path c_law_form c_law_held_form c_law_spoiled c_law_is_world m_Book m_Worlds m_HeldWorlds k_Worlds_contains k_HeldWorlds_contains
end Lx
open PySem PySem.W PySem.Calls PyProof.Rows
set_option maxHeartbeats 0 in
theorem PySem.Challenge.cw_unseenwrites_k39_worlds_by_form_holds : PySem.Challenge.rw_unseenwrites_k39_worlds_by_form.Holds := by
  w_on; o_law
  refine HandSHeadRun.head_any (r := OpenLaw.row PySem.Challenge.rw_unseenwrites_k39_worlds_by_form) (q := view (OpenLaw.row PySem.Challenge.rw_unseenwrites_k39_worlds_by_form).prog [133]) (H := Lx.hk) (ob := Lx.ob) (M := 20000) (loose := Lx.loose) (d := HandSHeadRun.topDef (OpenLaw.row PySem.Challenge.rw_unseenwrites_k39_worlds_by_form).prog 133) (kwd := []) Lx.ob_eq
    (by kernel_rfl) (fun s => by kernel_rfl) Lx.run (by kernel_rfl) (by kernel_rfl) (by kernel_rfl) (by rfl) (by first | assumption | decide +kernel) (by decide +kernel) ⟨rfl, rfl, rfl, rfl, rfl, by decide +kernel⟩ ?hw ?hc
  case hw => w_witness2
  case hc =>
    refine Ug.walk_ofG (l := PySem.Challenge.rw_unseenwrites_k39_worlds_by_form) (n := 63) (k := 30) (x := "_law_script") rfl (by decide) (by kernel_rfl) ⟨rfl, by decide, by decide⟩ ?F
    intro w mg fa h Y G hmg0
    obtain ⟨K, KX, c⟩ := Y
    have hmg : mg ("law" : PySem.Str) = some (.ref fa) := by
      have e : (HandSHeadRun.topDef (OpenLaw.row PySem.Challenge.rw_unseenwrites_k39_worlds_by_form).prog 133).name = ("law" : PySem.Str) := by kernel_rfl
      rw [← e]
      exact hmg0
    obtain ⟨fd, hb, hF⟩ := Lx.facts (P := (PySem.Challenge.rw_unseenwrites_k39_worlds_by_form).prog) (w := w) KX G hmg c (by decide +kernel) (by decide +kernel)
    exact ⟨K, fd, Lx.sp_law K, KX, hb, fun H a ns hl _ hS => ⟨a, ns, rfl, hS, hl, fun _ => rfl⟩, hF⟩

