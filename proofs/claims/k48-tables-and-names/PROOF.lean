import PyProof.Rows.All
import Wide.All
import OpenK.AllK
import Wide.FinOn
import HandS.ForMost
import HandS.IsInst
import HandS.TupAny
import HandS.Wide
import KE.KeyNested
import HandS.Nested
import HandS.NestedK
import HandS.EndTab
import HandS.Zip
import HandS.RevTup
import KE.GoesMore
import HandS.Rev
import KE.KRevSl
import KE.GoesEnum
import HandS.NoneIn
import HandS.Flt
import HandS.Dict
import HandS.More
import HandS.Text
import HandS.TupLe
import HandS.DeepEq
import HandS.Codes
import KE.KDictZip
import HandS.Conv
import PyProof.NeKinds
import HandS.ListEq
import HandS.ExcOwn
import HandS.ExcIs
import HandS.WordsExc
import HandS.DictComp
import KE.KDictKeyed
import HandS.RevRange
import HandS.ReplaceLit
import HandS.StrMore
import HandS.ExcCtx
import HandS.HotCalls
import HandS.SortKw
import KE.SortUse
import KE.DataFind
import HandS.Head0
import HandS.Head1
import HandS.Head2
import HandS.HeadEnd
import HandS.HeadHook1
import HandS.Words
import Open.Tops
import PySem.Challenge.RW_viewkeep_k48_tables_and_names
set_option pp.maxSteps 300
set_option pp.deepTerms false
set_option Elab.async false
set_option linter.all false
set_option maxRecDepth 100000
set_option maxHeartbeats 4000000
set_option maxHeartbeats 0
namespace Law
open PySem PySem.Spec PyProof.Rows L2
def hxTop (i : Nat) : Stmt := PySem.Challenge.pw_viewkeep_k48_tables_and_names.main.body.getD i (.Pass ⟨0, 0, 0, 0⟩)
def hxR : Value → List Addr
  | .ref a => [a]
  | _ => []
def hxIn (g : Addr → Option Obj) (n : Addr) (xs : List Str) : List Addr := match g n with
  | some ⟨_, _, .dict es _, _⟩ => xs.flatMap fun x => (match es.toList.find? (·.key.isStr x) with
    | some e => hxR e.val
    | none => [])
  | _ => []
def hxCode (g : Addr → Option Obj) (a : Addr) : List Addr := match g a with
  | some ⟨_, _, .func fd, _⟩ => hxR fd.code
  | _ => []
def hxNs (g : Addr → Option Obj) (a : Addr) : List Addr := match g a with
  | some ⟨_, _, .cls cd, _⟩ => [cd.ns]
  | _ => []
def hxMe (g : Addr → Option Obj) (C : Str) (ms : List Str) : List Addr := (hxIn g mainGlobals [C]).flatMap fun c => (hxNs g c).flatMap fun n => hxIn g n ms
def hxG0 : List Str := ["is_whole", "told", "is_name", "_law_cell_at", "_law_mixed", "_law_which", "_law_no_name", "_law_no_width", "_law_due", "_law_names", "_law_asked", "_law_made", "_law_look", "law"]
def hxC : List Str := ["Keeper", "Machine", "Net", "NoChange", "NoCount", "NoName", "NoPlace", "NoRow", "NoText", "NoWidth", "Short", "TooLarge", "Twice", "Unlike", "ViewError", "Wide"]
def hxF (g : Addr → Option Obj) : List Addr := hxIn g mainGlobals hxG0 ++ hxIn g mainGlobals ["rank"] ++ hxMe g "Net" ["__init__", "put", "nodes", "table"] ++ hxMe g "Machine" ["rows_of", "memory", "nodes", "__init__", "table"] ++ hxMe g "Keeper" ["put_down", "depth", "not_taken", "node", "memory", "kept", "ask", "told", "plainly", "width", "size", "nodes", "table", "__init__"]
def hxAs (g : Addr → Option Obj) : List Addr := mainGlobals :: (hxIn g mainGlobals hxC ++ (hxIn g mainGlobals hxC).flatMap (hxNs g) ++ hxF g ++ (hxF g).flatMap (hxCode g))
def hxD0 : List He.FnD := [⟨("is_whole", none), "is_whole", "is_whole", defArgs (hxTop 2), defBody (hxTop 2), defScope (hxTop 2)⟩,
  ⟨("told", none), "told", "told", defArgs (hxTop 14), defBody (hxTop 14), defScope (hxTop 14)⟩,
  ⟨("Net", some "__init__"), "__init__", "Net.__init__", defArgs (inClass (hxTop 88) 0), defBody (inClass (hxTop 88) 0), defScope (inClass (hxTop 88) 0)⟩,
  ⟨("Net", some "put"), "put", "Net.put", defArgs (inClass (hxTop 88) 1), defBody (inClass (hxTop 88) 1), defScope (inClass (hxTop 88) 1)⟩,
  ⟨("Net", some "nodes"), "nodes", "Net.nodes", defArgs (inClass (hxTop 88) 7), defBody (inClass (hxTop 88) 7), defScope (inClass (hxTop 88) 7)⟩,
  ⟨("Machine", some "rows_of"), "rows_of", "Machine.rows_of", defArgs (inClass (hxTop 101) 6), defBody (inClass (hxTop 101) 6), defScope (inClass (hxTop 101) 6)⟩,
  ⟨("Machine", some "memory"), "memory", "Machine.memory", defArgs (inClass (hxTop 101) 7), defBody (inClass (hxTop 101) 7), defScope (inClass (hxTop 101) 7)⟩,
  ⟨("is_name", none), "is_name", "is_name", defArgs (hxTop 105), defBody (hxTop 105), defScope (hxTop 105)⟩,
  ⟨("Keeper", some "put_down"), "put_down", "Keeper.put_down", defArgs (inClass (hxTop 154) 2), defBody (inClass (hxTop 154) 2), defScope (inClass (hxTop 154) 2)⟩,
  ⟨("Keeper", some "depth"), "depth", "Keeper.depth", defArgs (inClass (hxTop 154) 15), defBody (inClass (hxTop 154) 15), defScope (inClass (hxTop 154) 15)⟩,
  ⟨("_law_cell_at", none), "_law_cell_at", "_law_cell_at", defArgs (hxTop 156), defBody (hxTop 156), defScope (hxTop 156)⟩,
  ⟨("_law_mixed", none), "_law_mixed", "_law_mixed", defArgs (hxTop 157), defBody (hxTop 157), defScope (hxTop 157)⟩]
def hxD1 : List He.FnD := [⟨("_law_which", none), "_law_which", "_law_which", defArgs (hxTop 159), defBody (hxTop 159), defScope (hxTop 159)⟩,
  ⟨("_law_no_name", none), "_law_no_name", "_law_no_name", defArgs (hxTop 160), defBody (hxTop 160), defScope (hxTop 160)⟩,
  ⟨("_law_no_width", none), "_law_no_width", "_law_no_width", defArgs (hxTop 161), defBody (hxTop 161), defScope (hxTop 161)⟩,
  ⟨("_law_due", none), "_law_due", "_law_due", defArgs (hxTop 165), defBody (hxTop 165), defScope (hxTop 165)⟩,
  ⟨("Net", some "table"), "table", "Net.table", defArgs (inClass (hxTop 88) 2), defBody (inClass (hxTop 88) 2), defScope (inClass (hxTop 88) 2)⟩,
  ⟨("Machine", some "nodes"), "nodes", "Machine.nodes", defArgs (inClass (hxTop 101) 4), defBody (inClass (hxTop 101) 4), defScope (inClass (hxTop 101) 4)⟩,
  ⟨("Keeper", some "not_taken"), "not_taken", "Keeper.not_taken", defArgs (inClass (hxTop 154) 1), defBody (inClass (hxTop 154) 1), defScope (inClass (hxTop 154) 1)⟩,
  ⟨("Keeper", some "node"), "node", "Keeper.node", defArgs (inClass (hxTop 154) 9), defBody (inClass (hxTop 154) 9), defScope (inClass (hxTop 154) 9)⟩,
  ⟨("Keeper", some "memory"), "memory", "Keeper.memory", defArgs (inClass (hxTop 154) 17), defBody (inClass (hxTop 154) 17), defScope (inClass (hxTop 154) 17)⟩,
  ⟨("Keeper", some "kept"), "kept", "Keeper.kept", defArgs (inClass (hxTop 154) 18), defBody (inClass (hxTop 154) 18), defScope (inClass (hxTop 154) 18)⟩,
  ⟨("_law_names", none), "_law_names", "_law_names", defArgs (hxTop 158), defBody (hxTop 158), defScope (hxTop 158)⟩,
  ⟨("Machine", some "__init__"), "__init__", "Machine.__init__", defArgs (inClass (hxTop 101) 0), defBody (inClass (hxTop 101) 0), defScope (inClass (hxTop 101) 0)⟩]
def hxD2 : List He.FnD := [⟨("Machine", some "table"), "table", "Machine.table", defArgs (inClass (hxTop 101) 1), defBody (inClass (hxTop 101) 1), defScope (inClass (hxTop 101) 1)⟩,
  ⟨("Keeper", some "ask"), "ask", "Keeper.ask", defArgs (inClass (hxTop 154) 10), defBody (inClass (hxTop 154) 10), defScope (inClass (hxTop 154) 10)⟩,
  ⟨("Keeper", some "told"), "told", "Keeper.told", defArgs (inClass (hxTop 154) 11), defBody (inClass (hxTop 154) 11), defScope (inClass (hxTop 154) 11)⟩,
  ⟨("Keeper", some "plainly"), "plainly", "Keeper.plainly", defArgs (inClass (hxTop 154) 12), defBody (inClass (hxTop 154) 12), defScope (inClass (hxTop 154) 12)⟩,
  ⟨("Keeper", some "width"), "width", "Keeper.width", defArgs (inClass (hxTop 154) 13), defBody (inClass (hxTop 154) 13), defScope (inClass (hxTop 154) 13)⟩,
  ⟨("Keeper", some "size"), "size", "Keeper.size", defArgs (inClass (hxTop 154) 14), defBody (inClass (hxTop 154) 14), defScope (inClass (hxTop 154) 14)⟩,
  ⟨("Keeper", some "nodes"), "nodes", "Keeper.nodes", defArgs (inClass (hxTop 154) 16), defBody (inClass (hxTop 154) 16), defScope (inClass (hxTop 154) 16)⟩,
  ⟨("Keeper", some "table"), "table", "Keeper.table", defArgs (inClass (hxTop 154) 3), defBody (inClass (hxTop 154) 3), defScope (inClass (hxTop 154) 3)⟩,
  ⟨("_law_asked", none), "_law_asked", "_law_asked", defArgs (hxTop 163), defBody (hxTop 163), defScope (hxTop 163)⟩,
  ⟨("Keeper", some "__init__"), "__init__", "Keeper.__init__", defArgs (inClass (hxTop 154) 0), defBody (inClass (hxTop 154) 0), defScope (inClass (hxTop 154) 0)⟩,
  ⟨("_law_made", none), "_law_made", "_law_made", defArgs (hxTop 162), defBody (hxTop 162), defScope (hxTop 162)⟩,
  ⟨("_law_look", none), "_law_look", "_law_look", defArgs (hxTop 164), defBody (hxTop 164), defScope (hxTop 164)⟩]
def hxD3 : List He.FnD := [⟨("law", none), "law", "law", defArgs (hxTop 166), defBody (hxTop 166), defScope (hxTop 166)⟩]
def hxD : List He.FnD := hxD0 ++ hxD1 ++ hxD2 ++ hxD3
def hxB0 (K : PySem.W.Frag) : List Bool := [He.eqO (PySem.W.nsIn K mainGlobals "is_whole") (some (some (.ref (He.ga K "is_whole")))),
  PySem.W.keepIn K (.ref (He.ga K "is_whole")),
  He.eqO (PySem.W.nsIn K mainGlobals "told") (some (some (.ref (He.ga K "told")))),
  PySem.W.keepIn K (.ref (He.ga K "told")),
  He.eqO (PySem.W.findIn K (.ref (He.ga K "Net")) "__init__") (some (some (.ref (He.ma K (He.ga K "Net") "__init__")))),
  PySem.W.isFn K (.ref (He.ma K (He.ga K "Net") "__init__")),
  PySem.W.keepIn K (.ref (He.ma K (He.ga K "Net") "__init__")),
  He.eqO (PySem.W.findIn K (.ref (He.ga K "Net")) "put") (some (some (.ref (He.ma K (He.ga K "Net") "put")))),
  PySem.W.isFn K (.ref (He.ma K (He.ga K "Net") "put")),
  PySem.W.keepIn K (.ref (He.ma K (He.ga K "Net") "put")),
  He.eqO (PySem.W.findIn K (.ref (He.ga K "Net")) "nodes") (some (some (.ref (He.ma K (He.ga K "Net") "nodes")))),
  PySem.W.isFn K (.ref (He.ma K (He.ga K "Net") "nodes")),
  PySem.W.keepIn K (.ref (He.ma K (He.ga K "Net") "nodes")),
  He.eqO (PySem.W.findIn K (.ref (He.ga K "Machine")) "rows_of") (some (some (.ref (He.ma K (He.ga K "Machine") "rows_of")))),
  PySem.W.isFn K (.ref (He.ma K (He.ga K "Machine") "rows_of")),
  PySem.W.keepIn K (.ref (He.ma K (He.ga K "Machine") "rows_of")),
  He.eqO (PySem.W.findIn K (.ref (He.ga K "Machine")) "memory") (some (some (.ref (He.ma K (He.ga K "Machine") "memory")))),
  PySem.W.isFn K (.ref (He.ma K (He.ga K "Machine") "memory")),
  PySem.W.keepIn K (.ref (He.ma K (He.ga K "Machine") "memory")),
  He.eqO (PySem.W.nsIn K mainGlobals "is_name") (some (some (.ref (He.ga K "is_name")))),
  PySem.W.keepIn K (.ref (He.ga K "is_name")),
  He.eqO (PySem.W.findIn K (.ref (He.ga K "Keeper")) "put_down") (some (some (.ref (He.ma K (He.ga K "Keeper") "put_down")))),
  PySem.W.isFn K (.ref (He.ma K (He.ga K "Keeper") "put_down")),
  PySem.W.keepIn K (.ref (He.ma K (He.ga K "Keeper") "put_down"))]
def hxB1 (K : PySem.W.Frag) : List Bool := [He.eqO (PySem.W.findIn K (.ref (He.ga K "Keeper")) "depth") (some (some (.ref (He.ma K (He.ga K "Keeper") "depth")))),
  PySem.W.isFn K (.ref (He.ma K (He.ga K "Keeper") "depth")),
  PySem.W.keepIn K (.ref (He.ma K (He.ga K "Keeper") "depth")),
  He.eqO (PySem.W.nsIn K mainGlobals "_law_cell_at") (some (some (.ref (He.ga K "_law_cell_at")))),
  PySem.W.keepIn K (.ref (He.ga K "_law_cell_at")),
  He.eqO (PySem.W.nsIn K mainGlobals "_law_mixed") (some (some (.ref (He.ga K "_law_mixed")))),
  PySem.W.keepIn K (.ref (He.ga K "_law_mixed")),
  He.eqO (PySem.W.nsIn K mainGlobals "_law_which") (some (some (.ref (He.ga K "_law_which")))),
  PySem.W.keepIn K (.ref (He.ga K "_law_which")),
  He.eqO (PySem.W.nsIn K mainGlobals "_law_no_name") (some (some (.ref (He.ga K "_law_no_name")))),
  PySem.W.keepIn K (.ref (He.ga K "_law_no_name")),
  He.eqO (PySem.W.nsIn K mainGlobals "_law_no_width") (some (some (.ref (He.ga K "_law_no_width")))),
  PySem.W.keepIn K (.ref (He.ga K "_law_no_width")),
  He.eqO (PySem.W.nsIn K mainGlobals "_law_due") (some (some (.ref (He.ga K "_law_due")))),
  PySem.W.keepIn K (.ref (He.ga K "_law_due")),
  He.eqO (PySem.W.findIn K (.ref (He.ga K "Net")) "table") (some (some (.ref (He.ma K (He.ga K "Net") "table")))),
  PySem.W.isFn K (.ref (He.ma K (He.ga K "Net") "table")),
  PySem.W.keepIn K (.ref (He.ma K (He.ga K "Net") "table")),
  He.eqO (PySem.W.findIn K (.ref (He.ga K "Machine")) "nodes") (some (some (.ref (He.ma K (He.ga K "Machine") "nodes")))),
  PySem.W.isFn K (.ref (He.ma K (He.ga K "Machine") "nodes")),
  PySem.W.keepIn K (.ref (He.ma K (He.ga K "Machine") "nodes")),
  He.eqO (PySem.W.findIn K (.ref (He.ga K "Keeper")) "not_taken") (some (some (.ref (He.ma K (He.ga K "Keeper") "not_taken")))),
  PySem.W.isFn K (.ref (He.ma K (He.ga K "Keeper") "not_taken")),
  PySem.W.keepIn K (.ref (He.ma K (He.ga K "Keeper") "not_taken"))]
def hxB2 (K : PySem.W.Frag) : List Bool := [He.eqO (PySem.W.findIn K (.ref (He.ga K "Keeper")) "node") (some (some (.ref (He.ma K (He.ga K "Keeper") "node")))),
  PySem.W.isFn K (.ref (He.ma K (He.ga K "Keeper") "node")),
  PySem.W.keepIn K (.ref (He.ma K (He.ga K "Keeper") "node")),
  He.eqO (PySem.W.findIn K (.ref (He.ga K "Keeper")) "memory") (some (some (.ref (He.ma K (He.ga K "Keeper") "memory")))),
  PySem.W.isFn K (.ref (He.ma K (He.ga K "Keeper") "memory")),
  PySem.W.keepIn K (.ref (He.ma K (He.ga K "Keeper") "memory")),
  He.eqO (PySem.W.findIn K (.ref (He.ga K "Keeper")) "kept") (some (some (.ref (He.ma K (He.ga K "Keeper") "kept")))),
  PySem.W.isFn K (.ref (He.ma K (He.ga K "Keeper") "kept")),
  PySem.W.keepIn K (.ref (He.ma K (He.ga K "Keeper") "kept")),
  He.eqO (PySem.W.nsIn K mainGlobals "_law_names") (some (some (.ref (He.ga K "_law_names")))),
  PySem.W.keepIn K (.ref (He.ga K "_law_names")),
  He.eqO (PySem.W.findIn K (.ref (He.ga K "Machine")) "__init__") (some (some (.ref (He.ma K (He.ga K "Machine") "__init__")))),
  PySem.W.isFn K (.ref (He.ma K (He.ga K "Machine") "__init__")),
  PySem.W.keepIn K (.ref (He.ma K (He.ga K "Machine") "__init__")),
  He.eqO (PySem.W.findIn K (.ref (He.ga K "Machine")) "table") (some (some (.ref (He.ma K (He.ga K "Machine") "table")))),
  PySem.W.isFn K (.ref (He.ma K (He.ga K "Machine") "table")),
  PySem.W.keepIn K (.ref (He.ma K (He.ga K "Machine") "table")),
  He.eqO (PySem.W.findIn K (.ref (He.ga K "Keeper")) "ask") (some (some (.ref (He.ma K (He.ga K "Keeper") "ask")))),
  PySem.W.isFn K (.ref (He.ma K (He.ga K "Keeper") "ask")),
  PySem.W.keepIn K (.ref (He.ma K (He.ga K "Keeper") "ask")),
  He.eqO (PySem.W.findIn K (.ref (He.ga K "Keeper")) "told") (some (some (.ref (He.ma K (He.ga K "Keeper") "told")))),
  PySem.W.isFn K (.ref (He.ma K (He.ga K "Keeper") "told")),
  PySem.W.keepIn K (.ref (He.ma K (He.ga K "Keeper") "told")),
  He.eqO (PySem.W.findIn K (.ref (He.ga K "Keeper")) "plainly") (some (some (.ref (He.ma K (He.ga K "Keeper") "plainly"))))]
def hxB3 (K : PySem.W.Frag) : List Bool := [PySem.W.isFn K (.ref (He.ma K (He.ga K "Keeper") "plainly")),
  PySem.W.keepIn K (.ref (He.ma K (He.ga K "Keeper") "plainly")),
  He.eqO (PySem.W.findIn K (.ref (He.ga K "Keeper")) "width") (some (some (.ref (He.ma K (He.ga K "Keeper") "width")))),
  PySem.W.isFn K (.ref (He.ma K (He.ga K "Keeper") "width")),
  PySem.W.keepIn K (.ref (He.ma K (He.ga K "Keeper") "width")),
  He.eqO (PySem.W.findIn K (.ref (He.ga K "Keeper")) "size") (some (some (.ref (He.ma K (He.ga K "Keeper") "size")))),
  PySem.W.isFn K (.ref (He.ma K (He.ga K "Keeper") "size")),
  PySem.W.keepIn K (.ref (He.ma K (He.ga K "Keeper") "size")),
  He.eqO (PySem.W.findIn K (.ref (He.ga K "Keeper")) "nodes") (some (some (.ref (He.ma K (He.ga K "Keeper") "nodes")))),
  PySem.W.isFn K (.ref (He.ma K (He.ga K "Keeper") "nodes")),
  PySem.W.keepIn K (.ref (He.ma K (He.ga K "Keeper") "nodes")),
  He.eqO (PySem.W.findIn K (.ref (He.ga K "Keeper")) "table") (some (some (.ref (He.ma K (He.ga K "Keeper") "table")))),
  PySem.W.isFn K (.ref (He.ma K (He.ga K "Keeper") "table")),
  PySem.W.keepIn K (.ref (He.ma K (He.ga K "Keeper") "table")),
  He.eqO (PySem.W.nsIn K mainGlobals "_law_asked") (some (some (.ref (He.ga K "_law_asked")))),
  PySem.W.keepIn K (.ref (He.ga K "_law_asked")),
  He.eqO (PySem.W.findIn K (.ref (He.ga K "Keeper")) "__init__") (some (some (.ref (He.ma K (He.ga K "Keeper") "__init__")))),
  PySem.W.isFn K (.ref (He.ma K (He.ga K "Keeper") "__init__")),
  PySem.W.keepIn K (.ref (He.ma K (He.ga K "Keeper") "__init__")),
  He.eqO (PySem.W.nsIn K mainGlobals "_law_made") (some (some (.ref (He.ga K "_law_made")))),
  PySem.W.keepIn K (.ref (He.ga K "_law_made")),
  He.eqO (PySem.W.nsIn K mainGlobals "_law_look") (some (some (.ref (He.ga K "_law_look")))),
  PySem.W.keepIn K (.ref (He.ga K "_law_look")),
  He.eqO (PySem.W.nsIn K mainGlobals "law") (some (some (.ref (He.ga K "law"))))]
def hxB4 (K : PySem.W.Frag) : List Bool := [PySem.W.keepIn K (.ref (He.ga K "law")),
  He.eqO (PySem.W.nsIn K mainGlobals "ValueError") (some none),
  He.eqO (PySem.W.nsIn K mainGlobals "all") (some none),
  He.eqO (PySem.W.nsIn K mainGlobals "bool") (some none),
  He.eqO (PySem.W.nsIn K mainGlobals "dict") (some none),
  He.eqO (PySem.W.nsIn K mainGlobals "int") (some none),
  He.eqO (PySem.W.nsIn K mainGlobals "isinstance") (some none),
  He.eqO (PySem.W.nsIn K mainGlobals "len") (some none),
  He.eqO (PySem.W.nsIn K mainGlobals "list") (some none),
  He.eqO (PySem.W.nsIn K mainGlobals "range") (some none),
  He.eqO (PySem.W.nsIn K mainGlobals "sorted") (some none),
  He.eqO (PySem.W.nsIn K mainGlobals "str") (some none),
  He.eqO (PySem.W.nsIn K mainGlobals "told_bags") (some (some (.ref (He.ga K "told")))),
  He.eqO (PySem.W.nsIn K mainGlobals "rank") (some (some (.ref (He.ga K "rank")))),
  He.eqO (PySem.W.nsIn K mainGlobals "Net") (some (some (.ref (He.ga K "Net")))),
  PySem.W.plainGet K (He.ga K "Net") Str.empty,
  PySem.W.hasDictIn K (He.ga K "Net"),
  PySem.W.plainOver K (He.ga K "Net"),
  He.eqO (PySem.W.findIn K (.ref (He.ga K "Net")) "__setattr__") (some (some (.builtin "object.__setattr__"))),
  PySem.W.makesIn K (He.ga K "Net"),
  PySem.W.keepIn K (.ref (He.ga K "Net")),
  He.eqO (PySem.W.findIn K (.ref (He.ga K "Net")) "laid") (some none),
  He.eqO (PySem.W.findIn K (.ref (He.ga K "Net")) "wide") (some none),
  He.eqO (PySem.W.findIn K (.ref (He.ga K "Net")) "numbers") (some none)]
def hxB5 (K : PySem.W.Frag) : List Bool := [He.eqO (PySem.W.nsIn K mainGlobals "Machine") (some (some (.ref (He.ga K "Machine")))),
  PySem.W.plainGet K (He.ga K "Machine") Str.empty,
  PySem.W.hasDictIn K (He.ga K "Machine"),
  PySem.W.plainOver K (He.ga K "Machine"),
  He.eqO (PySem.W.findIn K (.ref (He.ga K "Machine")) "__setattr__") (some (some (.builtin "object.__setattr__"))),
  PySem.W.makesIn K (He.ga K "Machine"),
  PySem.W.keepIn K (.ref (He.ga K "Machine")),
  He.eqO (PySem.W.findIn K (.ref (He.ga K "Machine")) "net") (some none),
  He.eqO (PySem.W.findIn K (.ref (He.ga K "Machine")) "parts") (some none),
  He.eqO (PySem.W.findIn K (.ref (He.ga K "Machine")) "bags") (some none),
  He.eqO (PySem.W.nsIn K mainGlobals "Keeper") (some (some (.ref (He.ga K "Keeper")))),
  PySem.W.plainGet K (He.ga K "Keeper") Str.empty,
  PySem.W.hasDictIn K (He.ga K "Keeper"),
  PySem.W.plainOver K (He.ga K "Keeper"),
  He.eqO (PySem.W.findIn K (.ref (He.ga K "Keeper")) "__setattr__") (some (some (.builtin "object.__setattr__"))),
  PySem.W.makesIn K (He.ga K "Keeper"),
  PySem.W.keepIn K (.ref (He.ga K "Keeper")),
  He.eqO (PySem.W.findIn K (.ref (He.ga K "Keeper")) "machine") (some none),
  He.eqO (PySem.W.findIn K (.ref (He.ga K "Keeper")) "spots") (some none),
  He.eqO (PySem.W.findIn K (.ref (He.ga K "Keeper")) "wides") (some none),
  He.eqO (PySem.W.findIn K (.ref (He.ga K "Keeper")) "sizes") (some none),
  He.eqO (PySem.W.findIn K (.ref (He.ga K "Keeper")) "texts") (some none),
  He.eqO (PySem.W.findIn K (.ref (He.ga K "Keeper")) "trees") (some none),
  He.eqO (PySem.W.findIn K (.ref (He.ga K "Keeper")) "news") (some none)]
def hxB6 (K : PySem.W.Frag) : List Bool := [He.eqO (PySem.W.findIn K (.ref (He.ga K "Keeper")) "pours") (some none),
  He.eqO (PySem.W.nsIn K mainGlobals "ViewError") (some (some (.ref (He.ga K "ViewError")))),
  decide (PySem.W.typeIn K (.ref (He.ga K "ViewError")) = some (.type "type")),
  PySem.W.hasDictIn K (He.ga K "ViewError"),
  decide (PySem.W.subIn K (.ref (He.ga K "ViewError")) (.ref (He.ga K "ViewError")) = some true),
  He.eqO (PySem.W.nsIn K mainGlobals "NoName") (some (some (.ref (He.ga K "NoName")))),
  decide (PySem.W.typeIn K (.ref (He.ga K "NoName")) = some (.type "type")),
  PySem.W.hasDictIn K (He.ga K "NoName"),
  decide (PySem.W.subIn K (.ref (He.ga K "NoName")) (.ref (He.ga K "NoName")) = some true),
  He.eqO (PySem.W.nsIn K mainGlobals "NoPlace") (some (some (.ref (He.ga K "NoPlace")))),
  decide (PySem.W.typeIn K (.ref (He.ga K "NoPlace")) = some (.type "type")),
  PySem.W.hasDictIn K (He.ga K "NoPlace"),
  decide (PySem.W.subIn K (.ref (He.ga K "NoPlace")) (.ref (He.ga K "NoPlace")) = some true),
  He.eqO (PySem.W.nsIn K mainGlobals "Unlike") (some (some (.ref (He.ga K "Unlike")))),
  decide (PySem.W.typeIn K (.ref (He.ga K "Unlike")) = some (.type "type")),
  PySem.W.hasDictIn K (He.ga K "Unlike"),
  decide (PySem.W.subIn K (.ref (He.ga K "Unlike")) (.ref (He.ga K "Unlike")) = some true),
  He.eqO (PySem.W.nsIn K mainGlobals "Wide") (some (some (.ref (He.ga K "Wide")))),
  decide (PySem.W.typeIn K (.ref (He.ga K "Wide")) = some (.type "type")),
  PySem.W.hasDictIn K (He.ga K "Wide"),
  decide (PySem.W.subIn K (.ref (He.ga K "Wide")) (.ref (He.ga K "Wide")) = some true),
  He.eqO (PySem.W.nsIn K mainGlobals "Twice") (some (some (.ref (He.ga K "Twice")))),
  decide (PySem.W.typeIn K (.ref (He.ga K "Twice")) = some (.type "type")),
  PySem.W.hasDictIn K (He.ga K "Twice")]
def hxB7 (K : PySem.W.Frag) : List Bool := [decide (PySem.W.subIn K (.ref (He.ga K "Twice")) (.ref (He.ga K "Twice")) = some true),
  He.eqO (PySem.W.nsIn K mainGlobals "NoText") (some (some (.ref (He.ga K "NoText")))),
  decide (PySem.W.typeIn K (.ref (He.ga K "NoText")) = some (.type "type")),
  PySem.W.hasDictIn K (He.ga K "NoText"),
  decide (PySem.W.subIn K (.ref (He.ga K "NoText")) (.ref (He.ga K "NoText")) = some true),
  He.eqO (PySem.W.nsIn K mainGlobals "TooLarge") (some (some (.ref (He.ga K "TooLarge")))),
  decide (PySem.W.typeIn K (.ref (He.ga K "TooLarge")) = some (.type "type")),
  PySem.W.hasDictIn K (He.ga K "TooLarge"),
  decide (PySem.W.subIn K (.ref (He.ga K "TooLarge")) (.ref (He.ga K "TooLarge")) = some true),
  He.eqO (PySem.W.nsIn K mainGlobals "NoWidth") (some (some (.ref (He.ga K "NoWidth")))),
  decide (PySem.W.typeIn K (.ref (He.ga K "NoWidth")) = some (.type "type")),
  PySem.W.hasDictIn K (He.ga K "NoWidth"),
  decide (PySem.W.subIn K (.ref (He.ga K "NoWidth")) (.ref (He.ga K "NoWidth")) = some true),
  He.eqO (PySem.W.nsIn K mainGlobals "NoRow") (some (some (.ref (He.ga K "NoRow")))),
  decide (PySem.W.typeIn K (.ref (He.ga K "NoRow")) = some (.type "type")),
  PySem.W.hasDictIn K (He.ga K "NoRow"),
  decide (PySem.W.subIn K (.ref (He.ga K "NoRow")) (.ref (He.ga K "NoRow")) = some true),
  He.eqO (PySem.W.nsIn K mainGlobals "NoCount") (some (some (.ref (He.ga K "NoCount")))),
  decide (PySem.W.typeIn K (.ref (He.ga K "NoCount")) = some (.type "type")),
  PySem.W.hasDictIn K (He.ga K "NoCount"),
  decide (PySem.W.subIn K (.ref (He.ga K "NoCount")) (.ref (He.ga K "NoCount")) = some true),
  He.eqO (PySem.W.nsIn K mainGlobals "Short") (some (some (.ref (He.ga K "Short")))),
  decide (PySem.W.typeIn K (.ref (He.ga K "Short")) = some (.type "type")),
  PySem.W.hasDictIn K (He.ga K "Short")]
def hxB8 (K : PySem.W.Frag) : List Bool := [decide (PySem.W.subIn K (.ref (He.ga K "Short")) (.ref (He.ga K "Short")) = some true),
  He.eqO (PySem.W.nsIn K mainGlobals "NoChange") (some (some (.ref (He.ga K "NoChange")))),
  decide (PySem.W.typeIn K (.ref (He.ga K "NoChange")) = some (.type "type")),
  PySem.W.hasDictIn K (He.ga K "NoChange"),
  decide (PySem.W.subIn K (.ref (He.ga K "NoChange")) (.ref (He.ga K "NoChange")) = some true),
  decide (PySem.W.subIn K (.ref (He.ga K "ViewError")) (.type "BaseException") = some true),
  He.eqO (PySem.W.specialIn K (.builtin "object.__class__") "__get__") (some (some (.builtin "getset_descriptor.__get__"))),
  decide (PySem.W.takesIn K (.builtin "object.__class__") = some true),
  PySem.W.excIn K (He.ga K "NoName") [.type "ValueError", .type "Exception", .type "BaseException", .type "object"] "ValueError.__new__",
  PySem.W.keepIn K (.ref (He.ga K "NoName")),
  decide (PySem.W.subIn K (.ref (He.ga K "NoName")) (.type "BaseException") = some true),
  He.eqO (PySem.W.findIn K (.ref (He.ga K "NoName")) "__getattribute__") (some (some (.builtin "BaseException.__getattribute__"))),
  He.eqO (PySem.W.findIn K (.ref (He.ga K "NoName")) "__getattr__") (some none),
  He.eqO (PySem.W.findIn K (.ref (He.ga K "NoName")) "__class__") (some (some (.builtin "object.__class__"))),
  decide (PySem.W.mroIn K (He.ga K "NoName") (.type "object") = some true),
  decide (PySem.W.subIn K (.ref (He.ga K "NoName")) (.ref (He.ga K "ViewError")) = some true),
  decide (PySem.W.subIn K (.ref (He.ga K "NoName")) (.ref (He.ga K "NoName")) = some true),
  decide (PySem.W.subIn K (.ref (He.ga K "NoName")) (.ref (He.ga K "Twice")) = some false),
  decide (PySem.W.subIn K (.ref (He.ga K "NoName")) (.ref (He.ga K "NoWidth")) = some false),
  decide (PySem.W.subIn K (.ref (He.ga K "NoName")) (.ref (He.ga K "NoText")) = some false),
  decide (PySem.W.subIn K (.ref (He.ga K "NoName")) (.ref (He.ga K "NoPlace")) = some false),
  decide (PySem.W.subIn K (.ref (He.ga K "NoName")) (.ref (He.ga K "Unlike")) = some false),
  decide (PySem.W.subIn K (.ref (He.ga K "NoName")) (.ref (He.ga K "Wide")) = some false),
  decide (PySem.W.subIn K (.ref (He.ga K "NoName")) (.ref (He.ga K "TooLarge")) = some false)]
def hxB9 (K : PySem.W.Frag) : List Bool := [decide (PySem.W.subIn K (.ref (He.ga K "NoName")) (.ref (He.ga K "NoRow")) = some false),
  decide (PySem.W.subIn K (.ref (He.ga K "NoName")) (.ref (He.ga K "NoCount")) = some false),
  decide (PySem.W.subIn K (.ref (He.ga K "NoName")) (.ref (He.ga K "Short")) = some false),
  decide (PySem.W.subIn K (.ref (He.ga K "NoName")) (.ref (He.ga K "NoChange")) = some false),
  decide (PySem.W.subIn K (.ref (He.ga K "NoName")) (.type "ValueError") = some true),
  PySem.W.excIn K (He.ga K "Twice") [.type "ValueError", .type "Exception", .type "BaseException", .type "object"] "ValueError.__new__",
  PySem.W.keepIn K (.ref (He.ga K "Twice")),
  decide (PySem.W.subIn K (.ref (He.ga K "Twice")) (.type "BaseException") = some true),
  He.eqO (PySem.W.findIn K (.ref (He.ga K "Twice")) "__getattribute__") (some (some (.builtin "BaseException.__getattribute__"))),
  He.eqO (PySem.W.findIn K (.ref (He.ga K "Twice")) "__getattr__") (some none),
  He.eqO (PySem.W.findIn K (.ref (He.ga K "Twice")) "__class__") (some (some (.builtin "object.__class__"))),
  decide (PySem.W.mroIn K (He.ga K "Twice") (.type "object") = some true),
  decide (PySem.W.subIn K (.ref (He.ga K "Twice")) (.ref (He.ga K "ViewError")) = some true),
  decide (PySem.W.subIn K (.ref (He.ga K "Twice")) (.ref (He.ga K "NoName")) = some false),
  decide (PySem.W.subIn K (.ref (He.ga K "Twice")) (.ref (He.ga K "Twice")) = some true),
  decide (PySem.W.subIn K (.ref (He.ga K "Twice")) (.ref (He.ga K "NoWidth")) = some false),
  decide (PySem.W.subIn K (.ref (He.ga K "Twice")) (.ref (He.ga K "NoText")) = some false),
  decide (PySem.W.subIn K (.ref (He.ga K "Twice")) (.ref (He.ga K "NoPlace")) = some false),
  decide (PySem.W.subIn K (.ref (He.ga K "Twice")) (.ref (He.ga K "Unlike")) = some false),
  decide (PySem.W.subIn K (.ref (He.ga K "Twice")) (.ref (He.ga K "Wide")) = some false),
  decide (PySem.W.subIn K (.ref (He.ga K "Twice")) (.ref (He.ga K "TooLarge")) = some false),
  decide (PySem.W.subIn K (.ref (He.ga K "Twice")) (.ref (He.ga K "NoRow")) = some false),
  decide (PySem.W.subIn K (.ref (He.ga K "Twice")) (.ref (He.ga K "NoCount")) = some false),
  decide (PySem.W.subIn K (.ref (He.ga K "Twice")) (.ref (He.ga K "Short")) = some false)]
def hxB10 (K : PySem.W.Frag) : List Bool := [decide (PySem.W.subIn K (.ref (He.ga K "Twice")) (.ref (He.ga K "NoChange")) = some false),
  decide (PySem.W.subIn K (.ref (He.ga K "Twice")) (.type "ValueError") = some true),
  PySem.W.excIn K (He.ga K "NoWidth") [.type "ValueError", .type "Exception", .type "BaseException", .type "object"] "ValueError.__new__",
  PySem.W.keepIn K (.ref (He.ga K "NoWidth")),
  decide (PySem.W.subIn K (.ref (He.ga K "NoWidth")) (.type "BaseException") = some true),
  He.eqO (PySem.W.findIn K (.ref (He.ga K "NoWidth")) "__getattribute__") (some (some (.builtin "BaseException.__getattribute__"))),
  He.eqO (PySem.W.findIn K (.ref (He.ga K "NoWidth")) "__getattr__") (some none),
  He.eqO (PySem.W.findIn K (.ref (He.ga K "NoWidth")) "__class__") (some (some (.builtin "object.__class__"))),
  decide (PySem.W.mroIn K (He.ga K "NoWidth") (.type "object") = some true),
  decide (PySem.W.subIn K (.ref (He.ga K "NoWidth")) (.ref (He.ga K "ViewError")) = some true),
  decide (PySem.W.subIn K (.ref (He.ga K "NoWidth")) (.ref (He.ga K "NoName")) = some false),
  decide (PySem.W.subIn K (.ref (He.ga K "NoWidth")) (.ref (He.ga K "Twice")) = some false),
  decide (PySem.W.subIn K (.ref (He.ga K "NoWidth")) (.ref (He.ga K "NoWidth")) = some true),
  decide (PySem.W.subIn K (.ref (He.ga K "NoWidth")) (.ref (He.ga K "NoText")) = some false),
  decide (PySem.W.subIn K (.ref (He.ga K "NoWidth")) (.ref (He.ga K "NoPlace")) = some false),
  decide (PySem.W.subIn K (.ref (He.ga K "NoWidth")) (.ref (He.ga K "Unlike")) = some false),
  decide (PySem.W.subIn K (.ref (He.ga K "NoWidth")) (.ref (He.ga K "Wide")) = some false),
  decide (PySem.W.subIn K (.ref (He.ga K "NoWidth")) (.ref (He.ga K "TooLarge")) = some false),
  decide (PySem.W.subIn K (.ref (He.ga K "NoWidth")) (.ref (He.ga K "NoRow")) = some false),
  decide (PySem.W.subIn K (.ref (He.ga K "NoWidth")) (.ref (He.ga K "NoCount")) = some false),
  decide (PySem.W.subIn K (.ref (He.ga K "NoWidth")) (.ref (He.ga K "Short")) = some false),
  decide (PySem.W.subIn K (.ref (He.ga K "NoWidth")) (.ref (He.ga K "NoChange")) = some false),
  decide (PySem.W.subIn K (.ref (He.ga K "NoWidth")) (.type "ValueError") = some true)]
def hxS (K : PySem.W.Frag) : List Bool := [(He.Fa.str "LETTERS" "abcdefghijklmnopqrstuvwxyz").ok K, (He.Fa.int "MOST_keeper" (12)).ok K]
def hxL (K : PySem.W.Frag) : List Bool := [(hxB0 K).all id, (hxB1 K).all id, (hxB2 K).all id, (hxB3 K).all id, (hxB4 K).all id, (hxB5 K).all id, (hxB6 K).all id, (hxB7 K).all id, (hxB8 K).all id, (hxB9 K).all id, (hxB10 K).all id, (hxS K).all id]
def hxO (K : PySem.W.Frag) : Bool × List He.FnV := ((hxL K).all id && hxD.all (fun d => (He.Fa.code d.at_ d.qual).ok K), hxD.map fun d => He.fnObs K d.at_)
def hxV : Bool × List He.FnV := (true, hxD.map He.FnD.val)
def hxH : PySem.W.Hook where
  α := Bool × List He.FnV
  obs := fun s => hxO (He.frG s.heap.get? (hxAs s.heap.get?))
  val := fun _ => hxV
  says := fun _ h => ∃ K : PySem.W.Frag, K.In h ∧ hxO K = hxV
  of := fun _ _ e => ⟨_, He.frG_in, e⟩
  keeps := fun _ _ _ ⟨K, hK, c⟩ k => ⟨K, PySem.W.Frag.In.keeps hK k, c⟩
theorem hx_of {l : List Bool} (h : l.all id = true) (i : Nat) {b : Bool} (e : l[i]? = some b) : b = true := List.all_eq_true.mp h b (List.mem_of_getElem? e)
def hxN0 : List Str := ["_wall", "is_whole", "is_cell", "is_row", "earlier", "before", "cut", "put_to", "bag_of", "added", "turned", "rank", "told", "told_bags", "cut_to", "is_stock", "ViewError", "NoName", "NoPlace", "Unlike"]
def hxN1 : List Str := ["Wide", "Twice", "NoText", "TooLarge", "NoWidth", "NoRow", "NoCount", "Short", "NoChange", "sieved", "reckoned", "by_keys", "firsts_of", "seconds_of", "joined", "not_in", "left_joined", "both", "either", "less"]
def hxN2 : List Str := ["once", "counted", "summed", "least", "most", "by_place", "firsts", "always_told", "at_place", "deed_plus", "deed_minus", "deed_times", "deed_part", "deed_rest", "reckoned_by", "chosen_by", "column", "compared_by", "test", "Part"]
def hxN3 : List Str := ["Sieve", "Columns", "Pour", "Keyed", "End", "Least", "Most", "Once", "First", "Paired", "Left", "NotIn", "Join", "TWO", "besides_of", "width_of", "Net", "Count", "Sum", "RowByRow"]
def hxN4 : List Str := ["Both", "Either", "Less", "part_of_two", "part_of_one", "part_of", "Machine", "LETTERS", "MOST_views", "is_name", "places_in", "places_of", "not_beyond", "not_wide", "look_rounds", "look_two", "look", "terms_of", "size", "size_views"]
def hxN5 : List Str := ["of_one", "of_two", "of_rounds", "plain", "marked", "shown_expr", "shown_order", "words_behind", "shown", "FIGURES", "SIGNS", "DEEP", "BILLION", "number_in", "place_in", "pair_in", "turn_in", "at_most_twelve", "Reading", "column_from"]
def hxN6 : List Str := ["test_from", "columns_from", "pairs_from", "order_from", "name_from", "grouped_from", "worded_from", "view_from", "not_deep", "read", "MOST_keeper", "LARGEST", "is_cell_to_pour", "is_count_to_pour", "Keeper", "_law_cell_at", "_law_mixed", "_law_names", "_law_which", "_law_no_name"]
def hxN7 : List Str := ["_law_no_width", "_law_made", "_law_asked", "_law_look", "_law_due"]
def hxN : List Str := hxN0 ++ hxN1 ++ hxN2 ++ hxN3 ++ hxN4 ++ hxN5 ++ hxN6 ++ hxN7
abbrev hxP : Program := PySem.Challenge.pw_viewkeep_k48_tables_and_names
abbrev hxQ : Program := PySem.W.view hxP [166]
open_shared hxK for PySem.Challenge.pw_viewkeep_k48_tables_and_names leaving 89
noncomputable def hxS1 (w : World) (os : OsState) : PySem.W.SharedT := { tree := hxK.tree_901 w.params, n := 814, life := { }, gens := { toList := [] }, drawn := { }, toks := 1266, os := os }
noncomputable def hxSb (w : World) (os : OsState) : PySem.W.SharedT := { tree := hxK.tree_4 w.params, n := 15, life := { }, gens := { toList := [] }, drawn := { }, toks := 187, os := os }
abbrev hxZ : Pos := ⟨0, 0, 0, 0⟩
abbrev hxY : List Stmt := PySem.W.behindTheImports hxP
noncomputable def hxW : Code := Code.body hxY hxK.env_1
noncomputable def hxT1 : Thread := PySem.W.restOf (hxY.drop 78) hxK.env_1 hxW ⟨383, 0, 401, 63⟩ [PySem.W.topFrame hxZ]
def hxOb (s : PySem.W.SharedT) : Bool × List He.FnV := hxO (He.frG (HandSHeadRun.getT s) (hxAs (HandSHeadRun.getT s)))
theorem hxOb_eq (s : PySem.W.SharedT) : hxOb s = hxH.obs s.abs := by
  have e : HandSHeadRun.getT s = s.abs.heap.get? := funext (HandSHeadRun.getT_eq s)
  unfold hxOb
  rw [e]; rfl
abbrev hxX (s : Shared) : Bool := PySem.W.xlAt hxQ [] s && PySem.W.recOk (PySem.W.OpenLaw.row PySem.Challenge.rw_viewkeep_k48_tables_and_names).toRowW.records s
noncomputable def hxGo (w : World) (os : OsState) : Option PySem.W.SharedT := HandSHeadRun.goF (HandSHeadRun.stepQ (HandSHeadRun.denQ HandSHeadRun.tabQ) hxP w) 11 (some (Value.ref 6)) 12000 (hxS1 w os) hxT1
theorem hx_runB (w : World) (os : OsState) : (hxGo w os).map (fun s => HandSHeadRun.seenQ hxQ hxN (importedModules hxP.main.body) hxX s.abs) = some (PySem.W.openGood hxQ hxN) := by
  kernel_rfl
theorem hx_runA (w : World) (os : OsState) : (hxGo w os).map (fun s => HandSHeadRun.looksF hxP (PySem.W.boot_heap w.params) s.abs) = some true := by
  kernel_rfl
theorem hx_runC (w : World) (os : OsState) : (hxGo w os).map hxOb = some hxV := by
  kernel_rfl
noncomputable def hxS0 (w : World) (os : OsState) : Shared := ⟨PySem.W.boot_heap w.params, #[], PySem.W.boot_drawn, PySem.W.boot_toks, os⟩
noncomputable def hxG (w : World) (os : OsState) : Option (Shared × Thread) := PySem.W.topGo PySem.treeTable hxP w 11 (some (Value.ref 6)) 12 (hxS0 w os) (PySem.W.topStub hxP)
noncomputable def hxSa (w : World) (os : OsState) : Shared := match hxG w os with
  | some (s, _) => s
  | none => hxS0 w os
theorem hx_pre (w : World) (os : OsState) : hxG w os = some (hxSa w os, ⟨denote PySem.treeTable hxW, hxW, hxZ, [PySem.W.topFrame hxZ]⟩) := by
  kernel_rfl
theorem hx_block (w : World) (os : OsState) : PySem.W.segRun PySem.treeTable hxP w 11 (some (Value.ref 6)) 1 60 (hxSa w os) (PySem.W.blockOf hxY hxK.env_1 hxW hxZ [PySem.W.topFrame hxZ]) = some (.next, (hxSb w os).abs, hxW, hxZ) := by
  kernel_rfl
theorem hx_mid {w : World} {os : OsState} {n : Nat} {s : Shared} {l : List Stmt} (e : l = hxY) (c : PySem.W.topRun PySem.treeTable hxP w 11 (some (Value.ref 6)) n (hxSb w os).abs (PySem.W.restOf l hxK.env_1 hxW hxZ [PySem.W.topFrame hxZ]) = some s) : PySem.W.topRun PySem.treeTable hxP w 11 (some (Value.ref 6)) n (hxSb w os).abs (PySem.W.restOf hxY hxK.env_1 hxW hxZ [PySem.W.topFrame hxZ]) = some s := by
  rw [← e]; exact c
theorem hx_m0 (w : World) : (PySem.W.boot_heap w.params).objs.size = 11 := by kernel_rfl
theorem hx_ann (w : World) : HandSHeadRun.bootAnn w = some (Value.ref 6) := by kernel_rfl
theorem hx_top (w : World) (os : OsState) : ∃ (n : Nat) (s : Shared), n ≤ 200000 ∧ PySem.W.topRun PySem.treeTable hxP w (PySem.W.boot_heap w.params).objs.size (HandSHeadRun.bootAnn w) n (hxS0 w os) (PySem.W.topStub hxP) = some s ∧ HandSHeadRun.looksF hxP (PySem.W.boot_heap w.params) s = true ∧ PySem.W.openSeen hxQ hxN (importedModules hxP.main.body) hxX true s = PySem.W.openGood hxQ hxN ∧ hxH.obs s = hxV := by
  obtain ⟨s, e, v1⟩ := Option.map_eq_some_iff.mp (hx_runA w os)
  have v3 := hx_runC w os
  rw [e] at v3
  have v3 : hxOb s = hxV := Option.some.inj v3
  have v2 := hx_runB w os
  rw [e] at v2
  have v2 : HandSHeadRun.seenQ hxQ hxN (importedModules hxP.main.body) hxX s.abs = PySem.W.openGood hxQ hxN := Option.some.inj v2
  have e1 : HandSHeadRun.goF (PySem.W.stepT (denote PySem.treeTable) hxP w) 11 (some (Value.ref 6)) 12000 (hxS1 w os) hxT1 = some s := by rw [HandSHeadRun.stepQ_eq, HandSHeadRun.denQ_eq, HandSHeadRun.tabQ_eq]; exact e
  have c := hxK.chain hxP hxY w os (hxY.drop 78) _ _ (HandSHeadRun.goF_ok e1)
  have k := PySem.W.go_top (hx_pre w os) (PySem.W.piece_block (hx_block w os) (hx_mid (by kernel_rfl) c))
  rw [hx_m0, hx_ann]
  exact ⟨_, s.abs, by decide +kernel, k, v1, by rw [HandSHeadRun.seenQ_eq]; exact v2, by rw [← hxOb_eq]; exact v3⟩
theorem hx_leftG {p q : Program} {loose : List Str} {Xt : Shared → Bool} {α : Type} {Yf : Shared → α} {Ya : World → α} {N : Nat} (e : PySem.W.opening p = PySem.W.plainProg p.main.scope.names) (hN : Nat.ble 600 N = true) (f : ∀ s, fenceModules? p s = some s)
    (top : ∀ (w : World) (os : OsState), ∃ (n : Nat) (s : Shared), n ≤ N ∧ PySem.W.topRun PySem.treeTable p w (PySem.W.boot_heap w.params).objs.size (HandSHeadRun.bootAnn w) n (hxS0 w os) (PySem.W.topStub p) = some s ∧ HandSHeadRun.looksF p (PySem.W.boot_heap w.params) s = true ∧ PySem.W.openSeen q loose (importedModules p.main.body) Xt true s = PySem.W.openGood q loose ∧ Yf s = Ya w) : PySem.W.LeftO p q loose Xt Yf Ya N true := fun w => by
  obtain ⟨⟨h, gs, d, k, os⟩, a, z⟩ := Option.map_eq_some_iff.mp (PySem.W.boot_open e hN f w)
  obtain ⟨rfl, rfl, rfl, rfl⟩ : h = PySem.W.boot_heap w.params ∧ gs = Array.mk [] ∧ d = PySem.W.boot_drawn ∧ k = PySem.W.boot_toks := by simpa using z
  obtain ⟨n, s, le, r, v1, v2, v3⟩ := top w os
  have r2 := PySem.W.topRun_mono (N - n) _ _ _ _ r
  rw [Nat.add_sub_cancel' le] at r2
  have tf : PySem.W.topFrom PySem.treeTable p w N (hxS0 w os) = some s := by
    unfold PySem.W.topFrom
    dsimp only [hxS0]
    rw [HandSHeadRun.boot_ns]
    refine (congrArg (fun y => Option.bind y _) r2).trans ?_
    refine (congrArg (fun b : Bool => match b with | true => some s | false => none) v1).trans ?_; rfl
  unfold PySem.W.openEnds
  rw [a]
  refine (congrArg (Option.map _) tf).trans (congrArg some (Prod.ext v2 v3))
theorem hx_left : PySem.W.LeftO hxP hxQ hxN hxX hxH.obs hxH.val 200000 true := hx_leftG (by kernel_rfl) rfl (fun s => by kernel_rfl) hx_top
end Law
set_option maxHeartbeats 4000000
namespace VL
open PySem PySem.Spec PyProof.Rows L2 LamX NdefX
/-- pure data; ref n: the n-th object of the store; glb x: what the module calls x -/
inductive D where
  | non | bl (b : Bool) | int (i : Int) | str (x : Str) | tup (xs : List D) | ref (n : Nat) | glb (x : Str) | ty (n : String) | clo (k : Nat) (cap : List D) | exc (c : Str)
inductive O where
  | lst (xs : List D) | rl (xs : List D) | dic (kvs : List (D × D)) | fd (kvs : List (D × D)) | ins (c : Str) (fs : List (Str × D))
abbrev Sto := List O
abbrev EnvD := List (Option D)
inductive R (A : Type) where
  | ok (a : A) (s : Sto) | ex (c : Str) (s : Sto) | bad
namespace R
variable {A B : Type}
def bind (r : R A) (k : A → Sto → R B) : R B := match r with
  | ok a s => k a s
  | ex c s => ex c s
  | bad => bad
def post (r : R A) (Q : A → Sto → Prop) (X : Str → Sto → Prop) : Prop := match r with
  | ok a s => Q a s
  | ex c s => X c s
  | bad => False
theorem post_bind {r : R A} {k : A → Sto → R B} {Q : B → Sto → Prop} {X : Str → Sto → Prop} : (r.bind k).post Q X ↔ r.post (fun a s => (k a s).post Q X) X := by cases r <;> exact Iff.rfl
theorem post.imp {r : R A} {Q Q' : A → Sto → Prop} {X X' : Str → Sto → Prop} (h : r.post Q X) (hq : ∀ a s, Q a s → Q' a s) (hx : ∀ c s, X c s → X' c s) : r.post Q' X' := by
  cases r with
  | ok a s => exact hq a s h
  | ex c s => exact hx c s h
  | bad => exact h
/-- an exception here is not told -/
def noex (r : R A) : R A := match r with
  | ok a s => ok a s
  | _ => bad
theorem post_noex {r : R A} {Q : A → Sto → Prop} {X X' : Str → Sto → Prop} (h : r.noex.post Q X) : r.post Q X' := by
  cases r with
  | ok a s => exact h
  | ex c s => exact False.elim h
  | bad => exact h
@[simp] theorem bind_ok {a : A} {s : Sto} {k : A → Sto → R B} : (R.ok a s).bind k = k a s := rfl
@[simp] theorem bind_ex {c : Str} {s : Sto} {k : A → Sto → R B} : (R.ex c s : R A).bind k = R.ex c s := rfl
@[simp] theorem bind_bad {k : A → Sto → R B} : (R.bad : R A).bind k = R.bad := rfl
@[simp] theorem noex_ok {a : A} {s : Sto} : (R.ok a s).noex = R.ok a s := rfl
end R
mutual
/-- as a key of a dict -/
def nkey : D → Option NestedKey
  | .non => some .none
  | .bl b => some (.num (if b = true then 1 else 0))
  | .int i => some (.num i)
  | .str x => some (.text x)
  | .tup xs => (nkeys xs).map .tup
  | .ref _ => none
  | .glb _ => none
  | .ty _ => none
  | .clo _ _ => none
  | .exc _ => none
def nkeys : List D → Option (List NestedKey)
  | [] => some []
  | x :: xs => (nkey x).bind fun k => (nkeys xs).map fun ks => k :: ks
end
/-- a nested def, a lambda, as its text has it: name, qualified name, parameters; the body (a lambda's: its expression); its scope, its parameters, what it captures, all its names -/
structure NFS where
  name : Str
  qual : Str
  params : Arguments
  body : List Stmt
  lam : Option Expr
  scope : Scope
  ps : List Str
  fr : List Str
  N : List Str
abbrev NFS.nf (S : NFS) (cl : List (Str × Addr)) (c : Addr) : NF := ⟨S.name, S.qual, S.params, S.body, S.scope, cl, c⟩
/-- the function object of a lambda -/
def LamO (f : Addr) (S : NFS) (e : Expr) (cl : List (Str × Addr)) (c : Addr) : HO := .ext fun h => ∃ (od : Option Addr) (sl : Array (Option Value)) (pm ctv : Value), h.get? f = some (⟨.type "function", od, .func (PySem.W.kla_fn S.name S.qual S.params e S.scope cl pm (.ref c) ctv), sl⟩ : Obj)
def CloO (f : Addr) (S : NFS) (cl : List (Str × Addr)) (c : Addr) : HO := match S.lam with
  | none => FnO f (S.nf cl c)
  | some e => LamO f S e cl c
/-- a cell that holds w -/
def CellO (c : Addr) (w : V) : HO := .ext fun h => ∃ u, L2.RelV w u ∧ h.IsCell c (some u)
/-- tables of code objects (each tells one name); the nested defs by number -/
structure Tb where
  T : List (Addr × Str)
  nf : Nat → Option NFS
  xc : Option (Addr × Str) := none
def B0 : Tb := ⟨[], fun _ => none, none⟩
/-- what is fixed through the law -/
structure G where
  P : Program
  w : World
  K : PySem.W.Frag
  mg : Str → Option Value
  B : Tb
abbrev gOf (B : Tb) (X : Cx) : G := ⟨X.prog, X.w, X.K, X.mg, B⟩
/-- the heap without the cells -/
def less (H : Hp) (cl : List (Str × Addr)) : Hp := fun b => if b ∈ cl.map (·.2) then none else H b
/-- a made function at f, its captured cells hold ws -/
structure CloAt (q : List Addr) (H : Hp) (f : Addr) (S : NFS) (cl : List (Str × Addr)) (c : Addr) (ws : List V) : Prop where
  fn : H f = some (CloO f S cl c)
  fq : f ∉ q
  code : H c = some (CodeO c S.qual)
  cq : c ∉ q
  all : ∀ p ∈ cl, p.2 ∉ q ∧ ∃ w, H p.2 = some (CellO p.2 w)
  inj : ∀ x y a, cl.lookup x = some a → cl.lookup y = some a → x = y
  len : ws.length = S.fr.length
  has : ∀ (i : Nat) (y : Str), S.fr[i]? = some y → ∃ a w, cl.lookup y = some a ∧ ws[i]? = some w ∧ H a = some (CellO a w)
mutual
inductive RD (g : G) (q : List Addr) : Hp → V → D → Prop
  | non {H : Hp} : RD g q H .non .non
  | bl {H : Hp} (b : Bool) : RD g q H (.bl b) (.bl b)
  | int {H : Hp} (i : Int) : RD g q H (.int i) (.int i)
  | str {H : Hp} (x : Str) : RD g q H (.str x) (.str x)
  | tup {H : Hp} {a : Addr} {xs : List V} {ds : List D} : SqT g.K H a xs → RDs g q H xs ds → RD g q H (.ref a) (.tup ds)
  | ref {H : Hp} {n : Nat} {a : Addr} : q[n]? = some a → RD g q H (.ref a) (.ref n)
  | glb {H : Hp} {x : Str} {a : Addr} : g.mg x = some (.ref a) → RD g q H (.ref a) (.glb x)
  | ty {H : Hp} (n : String) : RD g q H (.ty n) (.ty n)
  | clo {H : Hp} {f : Addr} {k : Nat} {cap : List D} {S : NFS} {cl : List (Str × Addr)} {c : Addr} {ws : List V} : g.B.nf k = some S → CloAt q H f S cl c ws → RDs g q (less H cl) ws cap → RD g q H (.ref f) (.clo k cap)
  | exc {H : Hp} {a : Addr} {c : Str} : g.B.xc = some (a, c) → RD g q H (.ref a) (.exc c)
inductive RDs (g : G) (q : List Addr) : Hp → List V → List D → Prop
  | nil {H : Hp} : RDs g q H [] []
  | cons {H : Hp} {v : V} {vs : List V} {d : D} {ds : List D} : RD g q H v d → RDs g q H vs ds → RDs g q H (v :: vs) (d :: ds)
end
/-- something but a table stands there -/
def Live (H : Hp) (a : Addr) : Prop := ∃ o, H a = some o ∧ ∀ ps, o ≠ .tbl ps
/-- the later heap has the tuples of the earlier one, and all that is no place of the store; the later places begin as the earlier ones -/
structure Ext (q : List Addr) (H : Hp) (q' : List Addr) (H' : Hp) : Prop where
  pre : ∃ m, q' = q ++ m ∧ ∀ a ∈ m, ¬ Live H a
  tup : ∀ a xs, Rd H a (.tup xs) → Rd H' a (.tup xs)
  rest : ∀ a o, H a = some o → a ∉ q → (∀ ps, o ≠ .tbl ps) → H' a = some o
  live : ∀ a, Live H a → Live H' a
  frz : ∀ a o u, H a = some (.frz o u) → H' a = some (.frz o u)
theorem Ext.refl {q : List Addr} {H : Hp} : Ext q H q H := ⟨⟨[], by simp⟩, fun _ _ h => h, fun _ _ h _ _ => h, fun _ h => h, fun _ _ _ h => h⟩
theorem Ext.trans {q q1 q2 : List Addr} {H H1 H2 : Hp} (a : Ext q H q1 H1) (b : Ext q1 H1 q2 H2) : Ext q H q2 H2 := by
  obtain ⟨m, rfl, hm⟩ := a.pre
  obtain ⟨m', rfl, hm'⟩ := b.pre
  refine ⟨⟨m ++ m', by simp, fun c hc => ?_⟩, fun c xs h => b.tup c xs (a.tup c xs h), fun c o h n t => ?_, fun c h => b.live c (a.live c h), fun c o u h => b.frz c o u (a.frz c o u h)⟩
  · rcases List.mem_append.mp hc with h | h
    · exact hm c h
    · exact fun z => hm' c h (a.live c z)
  · refine b.rest c o (a.rest c o h n t) (fun z => ?_) t
    rcases List.mem_append.mp z with z | z
    · exact n z
    · exact hm c z ⟨o, h, t⟩
theorem Ext.notin {q q' : List Addr} {H H' : Hp} (e : Ext q H q' H') {a : Addr} (l : Live H a) (n : a ∉ q) : a ∉ q' := by
  obtain ⟨m, rfl, hm⟩ := e.pre
  intro z
  rcases List.mem_append.mp z with z | z
  · exact n z
  · exact hm a z l
theorem less_some {H : Hp} {cl : List (Str × Addr)} {a : Addr} {o : HO} : less H cl a = some o ↔ a ∉ cl.map (·.2) ∧ H a = some o := by
  by_cases h : a ∈ cl.map (·.2)
  · constructor
    · intro z; unfold less at z; rw [if_pos h] at z; cases z
    · intro z; exact absurd h z.1
  · constructor
    · intro z; unfold less at z; rw [if_neg h] at z; exact ⟨h, z⟩
    · intro z; unfold less; rw [if_neg h]; exact z.2
theorem less_rd {H : Hp} {cl : List (Str × Addr)} {a : Addr} {u : HO} : Rd (less H cl) a u ↔ a ∉ cl.map (·.2) ∧ Rd H a u := by
  constructor
  · rintro (h | ⟨o, h⟩)
    · exact ⟨(less_some.mp h).1, .inl (less_some.mp h).2⟩
    · exact ⟨(less_some.mp h).1, .inr ⟨o, (less_some.mp h).2⟩⟩
  · rintro ⟨n, h | ⟨o, h⟩⟩
    · exact .inl (less_some.mpr ⟨n, h⟩)
    · exact .inr ⟨o, less_some.mpr ⟨n, h⟩⟩
theorem less_live {H : Hp} {cl : List (Str × Addr)} {a : Addr} : Live (less H cl) a ↔ a ∉ cl.map (·.2) ∧ Live H a := by
  constructor
  · rintro ⟨o, h, t⟩
    exact ⟨(less_some.mp h).1, o, (less_some.mp h).2, t⟩
  · rintro ⟨n, o, h, t⟩
    exact ⟨o, less_some.mpr ⟨n, h⟩, t⟩
theorem Ext.less {q q' : List Addr} {H H' : Hp} (e : Ext q H q' H') (cl : List (Str × Addr)) : Ext q (less H cl) q' (VL.less H' cl) := by
  obtain ⟨m, rfl, hm⟩ := e.pre
  exact ⟨⟨m, rfl, fun a ha z => hm a ha (less_live.mp z).2⟩, fun a xs h => less_rd.mpr ⟨(less_rd.mp h).1, e.tup a xs (less_rd.mp h).2⟩, fun a o h n t => less_some.mpr ⟨(less_some.mp h).1, e.rest a o (less_some.mp h).2 n t⟩, fun a h => less_live.mpr ⟨(less_live.mp h).1, e.live a (less_live.mp h).2⟩, fun a o u h => less_some.mpr ⟨(less_some.mp h).1, e.frz a o u (less_some.mp h).2⟩⟩
theorem cloO_ne {f : Addr} {S : NFS} {cl : List (Str × Addr)} {c : Addr} (ps : Array Value) : CloO f S cl c ≠ .tbl ps := by
  unfold CloO
  split
  · exact fnO_ne ps
  · intro z; unfold LamO at z; cases z
theorem cellO_ne {c : Addr} {w : V} (ps : Array Value) : CellO c w ≠ .tbl ps := fun z => by unfold CellO at z; cases z
theorem CloAt.ext {q q' : List Addr} {H H' : Hp} {f : Addr} {S : NFS} {cl : List (Str × Addr)} {c : Addr} {ws : List V} (e : Ext q H q' H') (x : CloAt q H f S cl c ws) : CloAt q' H' f S cl c ws where
  fn := e.rest _ _ x.fn x.fq cloO_ne
  fq := e.notin ⟨_, x.fn, cloO_ne⟩ x.fq
  code := e.rest _ _ x.code x.cq codeO_ne
  cq := e.notin ⟨_, x.code, codeO_ne⟩ x.cq
  all := fun p h => by
    obtain ⟨n, w, z⟩ := x.all p h
    exact ⟨e.notin ⟨_, z, cellO_ne⟩ n, w, e.rest _ _ z n cellO_ne⟩
  inj := x.inj
  len := x.len
  has := fun i y h => by
    obtain ⟨a, w, h1, h2, h3⟩ := x.has i y h
    exact ⟨a, w, h1, h2, e.rest _ _ h3 (x.all (y, a) (PySem.mem_of_lookup h1)).1 cellO_ne⟩
theorem Ext.at {q q' : List Addr} {H H' : Hp} (e : Ext q H q' H') {n : Nat} {a : Addr} (h : q[n]? = some a) : q'[n]? = some a := by
  obtain ⟨m, rfl, _⟩ := e.pre
  rw [List.getElem?_append_left (List.getElem?_eq_some_iff.mp h).1]
  exact h
theorem Rd.same {H H' : Hp} {a : Addr} {u : HO} (s : Same H H') (h : Rd H a u) : Rd H' a u := by
  rcases h with h | ⟨o, h⟩
  · exact .inl (s _ _ h)
  · exact .inr ⟨o, s _ _ h⟩
theorem Same.live {H H' : Hp} (s : Same H H') {a : Addr} (h : Live H a) : Live H' a := let ⟨o, h1, h2⟩ := h; ⟨o, s _ _ h1, h2⟩
theorem Same.ext {q : List Addr} {p : Addr} {H H' : Hp} (s : Same H H') (hp : H p = none) : Ext q H (q ++ [p]) H' := ⟨⟨[p], rfl, fun a ha ⟨o, h, _⟩ => by
  rw [List.mem_singleton] at ha
  subst ha
  rw [hp] at h
  cases h⟩, fun _ _ h => Rd.same s h, fun _ _ h _ _ => s _ _ h, fun _ h => Same.live s h, fun _ _ _ h => s _ _ h⟩
theorem Same.ext0 {q : List Addr} {H H' : Hp} (s : Same H H') : Ext q H q H' := ⟨⟨[], by simp⟩, fun _ _ h => Rd.same s h, fun _ _ h _ _ => s _ _ h, fun _ h => Same.live s h, fun _ _ _ h => s _ _ h⟩
theorem same_upd {H : Hp} {p : Addr} {o : HO} (h : H p = none) : Same H (upd H p o) := fun b x e => by
  rw [upd_ne (ne_of_none e h)]
  exact e
theorem sqT_ext {K : PySem.W.Frag} {q q' : List Addr} {H H' : Hp} {a : Addr} {xs : List V} (e : Ext q H q' H') (h : SqT K H a xs) : SqT K H' a xs := by
  rcases h with h | h
  · exact .inl (e.tup _ _ h)
  · exact .inr h
section
variable {g : G} {q q' : List Addr}
mutual
theorem RD.ext {H H' : Hp} (e : Ext q H q' H') : ∀ {v : V} {d : D}, RD g q H v d → RD g q' H' v d
  | _, _, .non => .non
  | _, _, .bl b => .bl b
  | _, _, .int i => .int i
  | _, _, .str x => .str x
  | _, _, .tup h r => .tup (sqT_ext e h) (RDs.ext e r)
  | _, _, .ref h => .ref (e.at h)
  | _, _, .glb h => .glb h
  | _, _, .ty n => .ty n
  | _, _, .clo h x r => .clo h (x.ext e) (RDs.ext (e.less _) r)
  | _, _, .exc h => .exc h
theorem RDs.ext {H H' : Hp} (e : Ext q H q' H') : ∀ {vs : List V} {ds : List D}, RDs g q H vs ds → RDs g q' H' vs ds
  | _, _, .nil => .nil
  | _, _, .cons r t => .cons (RD.ext e r) (RDs.ext e t)
end
variable {H H' : Hp}
theorem RDs.length : ∀ {vs : List V} {ds : List D}, RDs g q H vs ds → vs.length = ds.length
  | _, _, .nil => rfl
  | _, _, .cons _ t => by rw [List.length_cons, List.length_cons, RDs.length t]
theorem RDs.get : ∀ {vs : List V} {ds : List D} {i : Nat} {d : D}, RDs g q H vs ds → ds[i]? = some d → ∃ v, vs[i]? = some v ∧ RD g q H v d
  | _, _, _, _, .nil, e => by simp at e
  | _, _, 0, _, .cons r _, e => by simp at e; subst e; exact ⟨_, rfl, r⟩
  | _, _, i + 1, d, .cons _ t, e => by
    obtain ⟨v, h1, h2⟩ := RDs.get (i := i) (d := d) t (by simpa using e)
    exact ⟨v, by simpa using h1, h2⟩
theorem RDs.getV {vs : List V} {ds : List D} {i : Nat} {v : V} (r : RDs g q H vs ds) (e : vs[i]? = some v) : ∃ d, ds[i]? = some d ∧ RD g q H v d := by
  have hl : i < ds.length := by rw [← r.length]; exact (List.getElem?_eq_some_iff.mp e).1
  obtain ⟨v', h1, h2⟩ := r.get (List.getElem?_eq_getElem hl)
  rw [e] at h1; cases h1
  exact ⟨_, List.getElem?_eq_getElem hl, h2⟩
theorem RDs.append : ∀ {vs ws : List V} {ds es : List D}, RDs g q H vs ds → RDs g q H ws es → RDs g q H (vs ++ ws) (ds ++ es)
  | _, _, _, _, .nil, s => s
  | _, _, _, _, .cons r t, s => .cons r (RDs.append t s)
theorem RDs.take : ∀ {vs : List V} {ds : List D} (n : Nat), RDs g q H vs ds → RDs g q H (vs.take n) (ds.take n)
  | _, _, 0, _ => .nil
  | _, _, _ + 1, .nil => .nil
  | _, _, n + 1, .cons r t => .cons r (RDs.take n t)
theorem RDs.drop : ∀ {vs : List V} {ds : List D} (n : Nat), RDs g q H vs ds → RDs g q H (vs.drop n) (ds.drop n)
  | _, _, 0, r => r
  | _, _, _ + 1, .nil => .nil
  | _, _, n + 1, .cons _ t => RDs.drop n t
theorem RDs.set {v : V} {d : D} (r : RD g q H v d) : ∀ {vs : List V} {ds : List D} (i : Nat), RDs g q H vs ds → RDs g q H (vs.set i v) (ds.set i d)
  | _, _, _, .nil => .nil
  | _, _, 0, .cons _ t => .cons r t
  | _, _, i + 1, .cons q t => .cons q (RDs.set r i t)
theorem RDs.ints : ∀ {ns : List Int}, RDs g q H (ns.map V.int) (ns.map D.int)
  | [] => .nil
  | n :: ns => .cons (.int n) RDs.ints
end
/-- the raw dict at a: its entries by their keys, the keys' tuples, the values -/
def rawK (g : G) (a : Addr) (xs : List (NestedKey × Addr × Value)) (h : Heap) : Prop :=
  (a == sysModules) = false ∧ ∃ o es ep, h.get? a = some o ∧ o.ExactDict ∧ o.data = .dict es ep ∧ es.toList = xs.map (entryOfKey (nestedKind g.P g.w)) ∧ (xs.map (·.1)).Nodup
/-- a dict whose keys are tuples -/
def RowDict (g : G) (q : List Addr) (H : Hp) (a : Addr) (kvs : List (D × D)) : Prop :=
  (kvs ≠ [] ∧ kvs.length ≤ sizeLine) ∧ ∃ xs : List (NestedKey × Addr × Value), H a = some (.ext (rawK g a xs)) ∧
    Paired (fun (p : D × D) (x : NestedKey × Addr × Value) => nkey p.1 = some x.1 ∧ x.1.depth ≤ 8 ∧ RD g q H (.ref x.2.1) p.1 ∧ ∃ v, RelV v x.2.2 ∧ RD g q H v p.2) kvs xs
/-- a key that is an int or a text -/
def dK : Key → D
  | .inl i => .int i
  | .inr x => .str x
/-- a list that is read and never written: locked, or of the written part -/
def RoL (K : PySem.W.Frag) (H : Hp) (a : Addr) (xs : List V) : Prop :=
  (∃ ob, H a = some (.frz ob (.lst xs))) ∨ ∃ (o : Obj) (its : Array Value) (n : Nat), K.lookup a = some o ∧ o.cls = .type "list" ∧ o.dict = none ∧ o.data = .seq its n ∧ its.size ≤ sizeLine ∧ Vals xs its.toList
theorem RoL.sq {K : PySem.W.Frag} {H : Hp} {a : Addr} {xs : List V} (h : RoL K H a xs) : SqL K H a xs := by
  rcases h with ⟨ob, h⟩ | h
  · exact .inl (.inr ⟨ob, h⟩)
  · exact .inr h
def RO (g : G) (q : List Addr) (H : Hp) (a : Addr) : O → Prop
  | .lst ds => ∃ xs, H a = some (.lst xs) ∧ RDs g q H xs ds
  | .rl ds => ∃ xs, RoL g.K H a xs ∧ RDs g q H xs ds
  | .dic kvs => (∃ gs : List (Key × V), H a = some (.dK gs) ∧ Paired (fun (p : D × D) (x : Key × V) => p.1 = dK x.1 ∧ RD g q H x.2 p.2) kvs gs) ∨ RowDict g q H a kvs
  | .fd kvs => ∃ od gs, H a = some (.frz od (.dK gs)) ∧ Paired (fun (p : D × D) (x : Key × V) => p.1 = dK x.1 ∧ RD g q H x.2 p.2) kvs gs
  | .ins c fs => ∃ C dx gs, g.mg c = some (.ref C) ∧ H a = some (.ins C dx gs) ∧ Paired (fun (p : Str × D) (x : Str × V) => p.1 = x.1 ∧ RD g q H x.2 p.2) fs gs
/-- the store as it lies: q, its objects' places -/
structure RS (g : G) (q : List Addr) (H : Hp) (st : Sto) : Prop where
  len : q.length = st.length
  nd : ∀ (m n : Nat) (a : Addr), q[m]? = some a → q[n]? = some a → m = n ∨ (∃ xs, st[m]? = some (.rl xs)) ∨ ∃ xs, st[n]? = some (.rl xs)
  at_ : ∀ (n : Nat) (a : Addr) (o : O), q[n]? = some a → st[n]? = some o → RO g q H a o
  tabs : Tabs g.B.T H
/-- the names' values -/
def RE (g : G) (q : List Addr) (H : Hp) (sg : L2.St) (env : EnvD) : Prop := Paired (fun (v : Option V) (d : Option D) => ∀ x, d = some x → ∃ y, v = some y ∧ RD g q H y x) sg env
section
variable {g : G} {q q' : List Addr} {H H' : Hp} {a : Addr} {o : O} {st : Sto} {sg : L2.St} {env : EnvD}
/-- an object that stands as it stood -/
theorem RO.stay (e : Ext q H q' H') (h0 : H' a = H a) (r : RO g q H a o) : RO g q' H' a o := by
  cases o with
  | lst ds => obtain ⟨xs, h, r⟩ := r; exact ⟨xs, h0.trans h, r.ext e⟩
  | rl ds =>
    obtain ⟨xs, h, r⟩ := r
    refine ⟨xs, ?_, r.ext e⟩
    rcases h with ⟨ob, h⟩ | h
    · exact .inl ⟨ob, h0.trans h⟩
    · exact .inr h
  | dic kvs =>
    rcases r with ⟨gs, h, r⟩ | ⟨hz, xs, h, r⟩
    · exact .inl ⟨gs, h0.trans h, Paired.mapP r fun p x z => ⟨z.1, z.2.ext e⟩⟩
    · exact .inr ⟨hz, xs, h0.trans h, Paired.mapP r fun p x ⟨z1, z2, z3, v, z4, z5⟩ => ⟨z1, z2, z3.ext e, v, z4, z5.ext e⟩⟩
  | fd kvs =>
    obtain ⟨od, gs, h, r⟩ := r
    exact ⟨od, gs, h0.trans h, Paired.mapP r fun p x z => ⟨z.1, z.2.ext e⟩⟩
  | ins c fs =>
    obtain ⟨C, dx, gs, hc, h, r⟩ := r
    exact ⟨C, dx, gs, hc, h0.trans h, Paired.mapP r fun p x z => ⟨z.1, z.2.ext e⟩⟩
/-- it is tracked, or a list of the written part (then nothing of the heap is asked) -/
theorem RO.there (r : RO g q H a o) : H a ≠ none ∨ ((∃ xs, o = O.rl xs) ∧ ∀ q' H', Ext q H q' H' → RO g q' H' a o) := by
  cases o with
  | lst ds => obtain ⟨xs, h, _⟩ := r; exact .inl (by rw [h]; simp)
  | rl ds =>
    obtain ⟨xs, h, r⟩ := r
    rcases h with ⟨ob, h⟩ | h
    · exact .inl (by rw [h]; simp)
    · exact .inr ⟨⟨ds, rfl⟩, fun q' H' e => ⟨xs, .inr h, r.ext e⟩⟩
  | dic kvs =>
    rcases r with ⟨gs, h, _⟩ | ⟨_, xs, h, _⟩
    · exact .inl (by rw [h]; simp)
    · exact .inl (by rw [h]; simp)
  | fd kvs => obtain ⟨od, gs, h, _⟩ := r; exact .inl (by rw [h]; simp)
  | ins c fs => obtain ⟨C, dx, gs, _, h, _⟩ := r; exact .inl (by rw [h]; simp)
theorem RO.same (s : Same H H') (r : RO g q H a o) : RO g q H' a o := by
  rcases r.there with h | ⟨_, h⟩
  · cases e : H a with
    | some u => exact RO.stay (Same.ext0 s) ((s _ _ e).trans e.symm) r
    | none => exact absurd e h
  · exact h _ _ (Same.ext0 s)
theorem RS.same (s : Same H H') (r : RS g q H st) : RS g q H' st := ⟨r.len, r.nd, fun n a o h1 h2 => (r.at_ n a o h1 h2).same s, r.tabs.ext fun b o e => s b o e⟩
theorem RS.get (r : RS g q H st) {n : Nat} {o : O} (h : st[n]? = some o) : ∃ a, q[n]? = some a ∧ RO g q H a o := by
  have hl : n < q.length := by rw [r.len]; exact (List.getElem?_eq_some_iff.mp h).1
  exact ⟨_, List.getElem?_eq_getElem hl, r.at_ n _ o (List.getElem?_eq_getElem hl) h⟩
theorem RE.ext (e : Ext q H q' H') (r : RE g q H sg env) : RE g q' H' sg env := Paired.mapP r fun v d z x hx => let ⟨y, h1, h2⟩ := z x hx; ⟨y, h1, h2.ext e⟩
theorem Paired.at? {A B : Type} {F : A → B → Prop} : ∀ {l : List A} {m : List B} {i : Nat} {b : B}, Paired F l m → m[i]? = some b → ∃ a, l[i]? = some a ∧ F a b
  | _, _, _, _, .nil, h => by simp at h
  | _, _, 0, _, .cons r _, h => by simp at h; subst h; exact ⟨_, rfl, r⟩
  | _, _, i + 1, b, .cons _ t, h => by
    obtain ⟨a, h1, h2⟩ := Paired.at? (i := i) (b := b) t (by simpa using h)
    exact ⟨a, by simpa using h1, h2⟩
theorem Paired.set_ {A B : Type} {F : A → B → Prop} {a : A} {b : B} (r : F a b) : ∀ {l : List A} {m : List B} (i : Nat), Paired F l m → Paired F (l.set i a) (m.set i b)
  | _, _, _, .nil => .nil
  | _, _, 0, .cons _ t => .cons r t
  | _, _, i + 1, .cons q t => .cons q (Paired.set_ r i t)
theorem Paired.app {A B : Type} {F : A → B → Prop} : ∀ {l l' : List A} {m m' : List B}, Paired F l m → Paired F l' m' → Paired F (l ++ l') (m ++ m')
  | _, _, _, _, .nil, s => s
  | _, _, _, _, .cons r t, s => .cons r (Paired.app t s)
theorem RE.get (r : RE g q H sg env) {i : Nat} {d : D} (h : env[i]? = some (some d)) : ∃ v, sg[i]? = some (some v) ∧ RD g q H v d := by
  obtain ⟨ov, h1, h2⟩ := Paired.at? r h
  obtain ⟨y, rfl, h3⟩ := h2 d rfl
  exact ⟨y, h1, h3⟩
theorem RE.set (r : RE g q H sg env) {i : Nat} {v : V} {d : D} (h : RD g q H v d) : RE g q H (sg.set i (some v)) (env.set i (some d)) := Paired.set_ (fun x e => by cases e; exact ⟨v, rfl, h⟩) i r
/-- a new object of the store -/
theorem RS.new (r : RS g q H st) {p : Addr} {u : HO} (hp : H p = none) (ho : RO g (q ++ [p]) (upd H p u) p o) : RS g (q ++ [p]) (upd H p u) (st ++ [o]) := by
  have s := same_upd (o := u) hp
  have low : ∀ {n : Nat} {a : Addr}, q[n]? = some a → n < st.length := fun h => by rw [← r.len]; exact (List.getElem?_eq_some_iff.mp h).1
  have fresh : ∀ n, q[n]? = some p → ∃ xs, (st ++ [o])[n]? = some (O.rl xs) := fun n hn => by
    have hl := low hn
    rcases (r.at_ n p _ hn (List.getElem?_eq_getElem hl)).there with h | ⟨⟨xs, h⟩, _⟩
    · exact absurd hp h
    · exact ⟨xs, by rw [List.getElem?_append_left hl, List.getElem?_eq_getElem hl, h]⟩
  have last : ∀ {n : Nat} {a : Addr}, ¬ n < q.length → (q ++ [p])[n]? = some a → n = q.length ∧ a = p := fun {n a} hn h => by
    have e : n = q.length := by
      have := (List.getElem?_eq_some_iff.mp h).1
      rw [List.length_append, List.length_singleton] at this
      omega
    subst e
    rw [List.getElem?_append_right (Nat.le_refl _), Nat.sub_self] at h
    simp at h
    exact ⟨rfl, h.symm⟩
  refine ⟨by simp [r.len], fun m n a h1 h2 => ?_, fun n a x h1 h2 => ?_, r.tabs.ext fun b o e => s b o e⟩
  · by_cases hm : m < q.length
    · by_cases hn : n < q.length
      · rw [List.getElem?_append_left hm] at h1
        rw [List.getElem?_append_left hn] at h2
        rw [List.getElem?_append_left (low h1), List.getElem?_append_left (low h2)]
        exact r.nd m n a h1 h2
      · obtain ⟨_, rfl⟩ := last hn h2
        rw [List.getElem?_append_left hm] at h1
        exact .inr (.inl (fresh m h1))
    · obtain ⟨e1, rfl⟩ := last hm h1
      by_cases hn : n < q.length
      · rw [List.getElem?_append_left hn] at h2
        exact .inr (.inr (fresh n h2))
      · obtain ⟨e2, _⟩ := last hn h2
        exact .inl (e1.trans e2.symm)
  · by_cases hn : n < q.length
    · rw [List.getElem?_append_left hn] at h1
      rw [List.getElem?_append_left (low h1)] at h2
      have z := r.at_ n a x h1 h2
      rcases z.there with h | ⟨_, h⟩
      · have hne : a ≠ p := fun e => h (by rw [e]; exact hp)
        exact z.stay (Same.ext s hp) (upd_ne hne)
      · exact h _ _ (Same.ext s hp)
    · obtain ⟨rfl, rfl⟩ := last hn h1
      rw [r.len, List.getElem?_append_right (Nat.le_refl _), Nat.sub_self] at h2
      simp at h2
      subst h2
      exact ho
/-- an object of the store written -/
theorem RS.put' (r : RS g q H st) {n : Nat} {u : HO} (ha : q[n]? = some a) (h0 : ∀ xs, st[n]? ≠ some (O.rl xs)) (mu : Mut (H a)) (nx : ∀ φ, H a ≠ some (.ext φ)) (hu : ∀ ps, u ≠ .tbl ps) (ho : Ext q H q (upd H a u) → RO g q (upd H a u) a o) : RS g q (upd H a u) (st.set n o) ∧ Ext q H q (upd H a u) := by
  have hin : a ∈ q := List.mem_of_getElem? ha
  have ext : Ext q H q (upd H a u) := ⟨⟨[], by simp⟩, fun b xs h => by
    have hb : b ≠ a := fun e => by
      subst e
      rcases h with h | ⟨ob, h⟩
      · rw [h] at mu; exact mu
      · rw [h] at mu; exact mu
    rcases h with h | ⟨ob, h⟩
    · exact .inl (by rw [upd_ne hb]; exact h)
    · exact .inr ⟨ob, by rw [upd_ne hb]; exact h⟩, fun b o h n _ => by
      have hb : b ≠ a := fun e => n (by rw [e]; exact hin)
      rw [upd_ne hb]; exact h, fun b ⟨o, h, t⟩ => by
      by_cases hb : b = a
      · subst hb; exact ⟨u, upd_same, hu⟩
      · exact ⟨o, by rw [upd_ne hb]; exact h, t⟩, fun b o v h => by
      have hb : b ≠ a := fun e => by
        subst e
        rw [h] at mu; exact mu
      rw [upd_ne hb]; exact h⟩
  have tabs : Tabs g.B.T (upd H a u) := fun p hp => by
    obtain ⟨ps, h1, h2, h3⟩ := r.tabs p hp
    have n1 : p.1 ≠ a := fun e => by rw [← e, h1] at mu; exact mu
    refine ⟨ps, by rw [upd_ne n1]; exact h1, h2, fun pos cv hc => ?_⟩
    obtain ⟨c, e1, e2⟩ := h3 pos cv hc
    refine ⟨c, e1, ?_⟩
    rw [upd_ne]
    · exact e2
    · intro e
      rw [e] at e2
      unfold CodeO at e2
      exact nx _ e2
  have hl : n < st.length := by rw [← r.len]; exact (List.getElem?_eq_some_iff.mp ha).1
  have other : ∀ m : Nat, q[m]? = some a → m ≠ n → ∃ xs, st[m]? = some (O.rl xs) := fun m hm hne => by
    rcases r.nd m n a hm ha with z | z | ⟨xs, z⟩
    · exact absurd z hne
    · exact z
    · exact absurd z (h0 xs)
  refine ⟨⟨by simp [r.len], fun m k b h1 h2 => ?_, fun m b x h1 h2 => ?_, tabs⟩, ext⟩
  · by_cases e : m = k
    · exact .inl e
    · have keep : ∀ {j : Nat} {xs : List D}, st[j]? = some (O.rl xs) → (st.set n o)[j]? = some (O.rl xs) := fun {j xs} z => by
        have : n ≠ j := fun e => h0 xs (by rw [e]; exact z)
        rw [List.getElem?_set_ne this]; exact z
      rcases r.nd m k b h1 h2 with z | ⟨xs, z⟩ | ⟨xs, z⟩
      · exact .inl z
      · exact .inr (.inl ⟨xs, keep z⟩)
      · exact .inr (.inr ⟨xs, keep z⟩)
  · by_cases e : m = n
    · subst e
      rw [ha] at h1; cases h1
      rw [List.getElem?_set_self hl] at h2
      cases h2
      exact ho ext
    · rw [List.getElem?_set_ne (Ne.symm e)] at h2
      have z := r.at_ m b x h1 h2
      by_cases hb : b = a
      · subst hb
        obtain ⟨xs, hx⟩ := other m h1 e
        rw [h2] at hx; cases hx
        obtain ⟨ys, hy, ry⟩ := z
        rcases hy with ⟨ob, hy⟩ | hy
        · rw [hy] at mu; exact False.elim mu
        · exact ⟨ys, .inr hy, ry.ext ext⟩
      · exact z.stay ext (upd_ne hb)
end
end VL
namespace L2
open PySem PySem.Spec PyProof.Rows
section
variable {X : Cx}
theorem PE.imp {e : Expr} {t t' : TE} (h : PE X e t) (i : ∀ sg H Q, t' sg H Q → t sg H Q) : PE X e t' := ⟨fun pins s sg H Q I w => h.run pins s sg H Q I (i _ _ _ w)⟩
theorem PT.imp {e : Expr} {t t' : TT} (h : PT X e t) (i : ∀ sg H Q, t' sg H Q → t sg H Q) : PT X e t' := ⟨fun pins s sg H Q I w => h.run pins s sg H Q I (i _ _ _ w)⟩
theorem PW.imp {e : Expr} {t t' : TT} (h : PW X e t) (i : ∀ sg H Q, t' sg H Q → t sg H Q) : PW X e t' := ⟨fun wh pins s sg H Q I w => h.run wh pins s sg H Q I (i _ _ _ w)⟩
theorem PA.imp {e : List Expr} {t t' : TA} (h : PA X e t) (i : ∀ sg H Q, t' sg H Q → t sg H Q) : PA X e t' := ⟨fun pos pins s sg H Q I w => h.run pos pins s sg H Q I (i _ _ _ w)⟩
theorem PS.imp {e : Stmt} {t t' : TS} (h : PS X e t) (i : ∀ T sg H, t' T sg H → t T sg H) : PS X e t' := ⟨fun pins s sg H Q I w => h.run pins s sg H Q I (i _ _ _ w)⟩
theorem PSs.imp {e : List Stmt} {t t' : TS} (h : PSs X e t) (i : ∀ T sg H, t' T sg H → t T sg H) : PSs X e t' := ⟨fun pins s sg H Q I w => h.run pins s sg H Q I (i _ _ _ w)⟩
theorem OpR.imp {f : Value → Value → Sem Value} {r r' : R2} (h : OpR X f r) (i : ∀ x y H Q, r' x y H Q → r x y H Q) : OpR X f r' := fun pins s sg H x y v u Q I r1 r2 w => h pins s sg H x y v u Q I r1 r2 (i _ _ _ _ w)
theorem CallR.imp {f : Value} {r r' : List V → Hp → VK → Prop} (h : CallR X f r) (i : ∀ xs H Q, r' xs H Q → r xs H Q) : CallR X f r' := fun pins s sg H xs us Q I r1 w => h pins s sg H xs us Q I r1 (i _ _ _ w)
theorem MtR.imp {f : String} {r r' : V → List V → Hp → VK → Prop} (h : MtR X f r) (i : ∀ x xs H Q, r' x xs H Q → r x xs H Q) : MtR X f r' := fun pins s sg H x xs v us Q I r1 r2 w => h pins s sg H x xs v us Q I r1 r2 (i _ _ _ _ w)
theorem IxR.imp {r r' : R2} (h : IxR X r) (i : ∀ x y H Q, r' x y H Q → r x y H Q) : IxR X r' := fun a b pins s sg H x y v u Q I r1 r2 w => h a b pins s sg H x y v u Q I r1 r2 (i _ _ _ _ w)
theorem UnR.imp {f : Value → Sem Value} {r r' : V → Hp → VK → Prop} (h : UnR X f r) (i : ∀ x H Q, r' x H Q → r x H Q) : UnR X f r' := fun pins s sg H x v Q I r1 w => h pins s sg H x v Q I r1 (i _ _ _ w)
theorem PG.imp {e : Expr} {t t' : TG} (h : PG X e t) (i : ∀ v sg H Q, t' v sg H Q → t v sg H Q) : PG X e t' := ⟨fun pins s sg H v u Q I r w => h.run pins s sg H v u Q I r (i _ _ _ _ w)⟩
theorem PGs.imp {e : List Expr} {t t' : TGs} (h : PGs X e t) (i : ∀ v sg H Q, t' v sg H Q → t v sg H Q) : PGs X e t' := ⟨fun pins s sg H v u Q I r w => h.run pins s sg H v u Q I r (i _ _ _ _ w)⟩
end
end L2
namespace VL
open PySem PySem.Spec PyProof.Rows L2 LamX NdefX
variable {B : Tb}
/-- behind a value; behind an exception -/
def KV (g : G) (q : List Addr) (H : Hp) (Q : VK) : D → Sto → Prop := fun d st => ∀ q' v H', Ext q H q' H' → RS g q' H' st → RD g q' H' v d → Q v H'
def KX (g : G) (q : List Addr) (H : Hp) (E : XK) : Str → Sto → Prop := fun c st => ∀ q' H' C, Ext q H q' H' → RS g q' H' st → g.mg c = some (.ref C) → E (.ref C) none H'
theorem KX.ext {g : G} {q q' : List Addr} {H H' : Hp} {E : XK} (e : Ext q H q' H') {c : Str} {st : Sto} (k : KX g q H E c st) : KX g q' H' E c st := fun q2 H2 C e2 r m => k q2 H2 C (e.trans e2) r m
theorem KV.ext {g : G} {q q' : List Addr} {H H' : Hp} {Q : VK} (e : Ext q H q' H') {d : D} {st : Sto} (k : KV g q H Q d st) : KV g q' H' Q d st := fun q2 v H2 e2 r m => k q2 v H2 (e.trans e2) r m
abbrev EF := EnvD → Sto → R D
abbrev TF := EnvD → Sto → R Bool
abbrev AF := EnvD → Sto → R (List D)
inductive Fl where
  | nx (e : EnvD) | rt (d : D) | bk (e : EnvD) | ct (e : EnvD)
abbrev SF := EnvD → Sto → R Fl
abbrev Fn := List D → Sto → R D
def LE (g : G) (E : XK) (f : EF) : TE := fun sg H Q => ∃ q env st, RS g q H st ∧ RE g q H sg env ∧ (f env st).post (KV g q H Q) (KX g q H E)
def LT (g : G) (E : XK) (f : TF) : TT := fun sg H Q => ∃ q env st, RS g q H st ∧ RE g q H sg env ∧ (f env st).post (fun b st' => ∀ q' H', Ext q H q' H' → RS g q' H' st' → Q b H') (KX g q H E)
def LA (g : G) (E : XK) (f : AF) : TA := fun sg H Q => ∃ q env st, RS g q H st ∧ RE g q H sg env ∧ (f env st).post (fun ds st' => ∀ q' vs H', Ext q H q' H' → RS g q' H' st' → RDs g q' H' vs ds → Q vs H') (KX g q H E)
def KS (g : G) (q : List Addr) (H : Hp) (T : Ends) : Fl → Sto → Prop := fun fl st => ∀ q' H', Ext q H q' H' → RS g q' H' st → match fl with
  | .nx e => ∀ sg, RE g q' H' sg e → T.nx sg H'
  | .rt d => ∀ v, RD g q' H' v d → T.rt v H'
  | .bk e => ∀ sg, RE g q' H' sg e → T.bk sg H'
  | .ct e => ∀ sg, RE g q' H' sg e → T.ct sg H'
def LS (g : G) (E : XK) (f : SF) : TS := fun T sg H => ∃ q env st, RS g q H st ∧ RE g q H sg env ∧ (f env st).post (KS g q H T) (KX g q H E)
theorem KS.ext {g : G} {q q' : List Addr} {H H' : Hp} {T : Ends} (e : Ext q H q' H') {c : Fl} {st : Sto} (k : KS g q H T c st) : KS g q' H' T c st := fun q2 H2 e2 r => k q2 H2 (e.trans e2) r
section
variable {X : Cx}
variable {E : XK} {fa fb : EF} {a b : Expr} {pos : Pos}
def varF (i : Nat) : EF := fun env st => match env[i]? with
  | some (some d) => .ok d st
  | _ => .bad
def cF (d : D) : EF := fun _ st => .ok d st
theorem le_var {i : Nat} {x : Str} {pos : Pos} (h : PE X (.Name x pos) (tVar i)) : PE X (.Name x pos) (LE (gOf B X) E (varF i)) := h.imp fun sg H Q w => by
  obtain ⟨q, env, st, rs, re, p⟩ := w
  unfold varF at p
  split at p
  · rename_i d hd
    obtain ⟨v, h1, h2⟩ := re.get hd
    exact ⟨v, h1, p q v H Ext.refl rs h2⟩
  · exact False.elim p
theorem le_c {e : Expr} {v : V} {d : D} (h : PE X e (tC v)) (r : ∀ q H, RD (gOf B X) q H v d) : PE X e (LE (gOf B X) E (cF d)) := h.imp fun sg H Q w => by
  obtain ⟨q, env, st, rs, re, p⟩ := w
  exact p q v H Ext.refl rs (r q H)
theorem le_int {i j pos} : PE X (.Constant (.int i) j pos) (LE (gOf B X) E (cF (.int i))) := le_c pe_int fun _ _ => .int i
theorem le_bl {b j pos} : PE X (.Constant (.bool b) j pos) (LE (gOf B X) E (cF (.bl b))) := le_c pe_bl fun _ _ => .bl b
theorem le_non {j pos} : PE X (.Constant .none j pos) (LE (gOf B X) E (cF .non)) := le_c pe_non fun _ _ => .non
theorem RD.ty_inv {g : G} {q : List Addr} {H : Hp} {v : V} {n : String} (r : RD g q H v (.ty n)) : v = .ty n := by cases r; rfl
theorem le_str {x j pos} : PE X (.Constant (.str x) j pos) (LE (gOf B X) E (cF (.str x))) := le_c pe_str fun _ _ => .str x
def LR (g : G) (E : XK) (f : D → D → Sto → R D) : R2 := fun x y H Q => ∃ q st a b, RS g q H st ∧ RD g q H x a ∧ RD g q H y b ∧ (f a b st).post (KV g q H Q) (KX g q H E)
def opF (f : D → D → Sto → R D) (fa fb : EF) : EF := fun env st => (fa env st).bind fun a s1 => (fb env s1).bind fun b s2 => f a b s2
theorem LE.chain {g : G} {sg : L2.St} {H : Hp} {f : EF} {q : List Addr} {env : EnvD} {st : Sto} {Q : VK} {K : D → Sto → Prop} (rs : RS g q H st) (re : RE g q H sg env) (p : (f env st).post K (KX g q H E))
    (k : ∀ d st' q' v H', K d st' → Ext q H q' H' → RS g q' H' st' → RE g q' H' sg env → RD g q' H' v d → Q v H') : LE g E f sg H Q :=
  ⟨q, env, st, rs, re, p.imp (fun d st' hk q' v H' e rs' rd => k d st' q' v H' hk e rs' (re.ext e) rd) fun _ _ h => h⟩
theorem opT_le {f : D → D → Sto → R D} {sg : L2.St} {H : Hp} {Q : VK} (w : LE (gOf B X) E (opF f fa fb) sg H Q) : tOp (LR (gOf B X) E f) (LE (gOf B X) E fa) (LE (gOf B X) E fb) sg H Q := by
  obtain ⟨q, env, st, rs, re, p⟩ := w
  refine LE.chain rs re (R.post_bind.mp p) fun x s1 q1 v H1 p e1 rs1 re1 rx => ?_
  refine LE.chain rs1 re1 ((R.post_bind.mp p).imp (fun _ _ h => h) fun _ _ h => h.ext e1) fun y s2 q2 u H2 p e2 rs2 re2 ry => ?_
  exact ⟨q2, s2, x, y, rs2, rx.ext e2, ry, p.imp (fun _ _ h => h.ext (e1.trans e2)) fun _ _ h => h.ext (e1.trans e2)⟩
theorem le_op {op : Operator} {f : D → D → Sto → R D} (ho : OpR X (binaryOp op) (LR (gOf B X) E f)) (ha : PE X a (LE (gOf B X) E fa)) (hb : PE X b (LE (gOf B X) E fb)) : PE X (.BinOp a op b pos) (LE (gOf B X) E (opF f fa fb)) :=
  (pe_op ho ha hb).imp fun _ _ _ w => opT_le w
theorem le_cmp {op : CmpOp} {f : D → D → Sto → R D} (ho : OpR X (compareOp op) (LR (gOf B X) E f)) (ha : PE X a (LE (gOf B X) E fa)) (hb : PE X b (LE (gOf B X) E fb)) (hm : behindInMarks op b = false) : PE X (.Compare a [op] [b] pos) (LE (gOf B X) E (opF f fa fb)) :=
  (pe_cmpR ho ha hb hm).imp fun _ _ _ w => opT_le w
theorem le_ix {f : D → D → Sto → R D} (ho : IxR X (LR (gOf B X) E f)) (ha : PE X a (LE (gOf B X) E fa)) (hb : PE X b (LE (gOf B X) E fb)) (hs : PlainIx b) : PE X (.Subscript a b pos) (LE (gOf B X) E (opF f fa fb)) :=
  (pe_ix ho ha hb hs).imp fun _ _ _ w => opT_le w
/-- the truth of a value that is a bool -/
def bF (f : EF) : TF := fun env st => (f env st).bind fun d s => match d with
  | .bl b => .ok b s
  | _ => .bad
theorem RD.bl_inv {g : G} {q : List Addr} {H : Hp} {v : V} {b : Bool} (r : RD g q H v (.bl b)) : v = .bl b := by cases r; rfl
theorem RD.int_inv {g : G} {q : List Addr} {H : Hp} {v : V} {b : Int} (r : RD g q H v (.int b)) : v = .int b := by cases r; rfl
theorem RD.str_inv {g : G} {q : List Addr} {H : Hp} {v : V} {b : Str} (r : RD g q H v (.str b)) : v = .str b := by cases r; rfl
theorem RD.non_inv {g : G} {q : List Addr} {H : Hp} {v : V} (r : RD g q H v .non) : v = .non := by cases r; rfl
theorem RD.tup_inv {g : G} {q : List Addr} {H : Hp} {v : V} {ds : List D} (r : RD g q H v (.tup ds)) : ∃ a xs, v = .ref a ∧ SqT g.K H a xs ∧ RDs g q H xs ds := by cases r with | tup h r => exact ⟨_, _, rfl, h, r⟩
theorem RD.ref_inv {g : G} {q : List Addr} {H : Hp} {v : V} {n : Nat} (r : RD g q H v (.ref n)) : ∃ a, v = .ref a ∧ q[n]? = some a := by cases r with | ref h => exact ⟨_, rfl, h⟩
theorem bool_le {sg : L2.St} {H : Hp} {Q : Bool → Hp → Prop} {f : EF} (w : LT (gOf B X) E (bF f) sg H Q) : LE (gOf B X) E f sg H fun x H1 => ∃ c, x = .bl c ∧ Q c H1 := by
  obtain ⟨q, env, st, rs, re, p⟩ := w
  refine LE.chain rs re (R.post_bind.mp p) fun x s1 q1 v H1 p e1 rs1 re1 rx => ?_
  cases x with
  | bl b => exact ⟨b, rx.bl_inv, p q1 H1 e1 rs1⟩
  | _ => exact False.elim p
theorem lt_val {e : Expr} {f : EF} (h : PE X e (LE (gOf B X) E f)) (he : ∀ whole, isTrue e X.env whole = (do let v ← whole; standAt e.pos; holding [v] (truthy v)) := by intro _; rfl) : PT X e (LT (gOf B X) E (bF f)) :=
  (pt_val h he).imp fun _ _ _ w => bool_le w
theorem lt_cmp {op : CmpOp} {f : D → D → Sto → R D} (ho : OpR X (compareOp op) (LR (gOf B X) E f)) (ha : PE X a (LE (gOf B X) E fa)) (hb : PE X b (LE (gOf B X) E fb)) (hm : behindInMarks op b = false) : PT X (.Compare a [op] [b] pos) (LT (gOf B X) E (bF (opF f fa fb))) :=
  (pt_cmpR ho ha hb hm).imp fun _ _ _ w => by
    obtain ⟨q, env, st, rs, re, p⟩ := w
    exact opT_le (bool_le ⟨q, env, st, rs, re, p⟩)
theorem LT.chain {g : G} {sg : L2.St} {H : Hp} {f : TF} {q : List Addr} {env : EnvD} {st : Sto} {Q : Bool → Hp → Prop} {K : Bool → Sto → Prop} (rs : RS g q H st) (re : RE g q H sg env) (p : (f env st).post K (KX g q H E))
    (k : ∀ d st' q' H', K d st' → Ext q H q' H' → RS g q' H' st' → RE g q' H' sg env → Q d H') : LT g E f sg H Q :=
  ⟨q, env, st, rs, re, p.imp (fun d st' hk q' H' e rs' => k d st' q' H' hk e rs' (re.ext e)) fun _ _ h => h⟩
variable {ta tb : TF} {rest : List Expr}
def andT (ta tb : TF) : TF := fun env st => (ta env st).bind fun c s => if c = true then tb env s else .ok false s
def orT (ta tb : TF) : TF := fun env st => (ta env st).bind fun c s => if c = true then .ok true s else tb env s
def notT (ta : TF) : TF := fun env st => (ta env st).bind fun c s => .ok (!c) s
def KT (g : G) (q : List Addr) (H : Hp) (Q : Bool → Hp → Prop) : Bool → Sto → Prop := fun b st => ∀ q' H', Ext q H q' H' → RS g q' H' st → Q b H'
theorem KT.ext {g : G} {q q' : List Addr} {H H' : Hp} {Q : Bool → Hp → Prop} (e : Ext q H q' H') {c : Bool} {st : Sto} (k : KT g q H Q c st) : KT g q' H' Q c st := fun q2 H2 e2 r => k q2 H2 (e.trans e2) r
theorem lw_and1 {ta : TF} (ha : PT X a (LT (gOf B X) E ta)) : PW X (.BoolOp .And [a] pos) (LT (gOf B X) E ta) := pw_and1 ha
theorem lw_or1 {ta : TF} (ha : PT X a (LT (gOf B X) E ta)) : PW X (.BoolOp .Or [a] pos) (LT (gOf B X) E ta) := pw_or1 ha
theorem lw_and (ha : PT X a (LT (gOf B X) E ta)) (hb : PW X (.BoolOp .And (b :: rest) pos) (LT (gOf B X) E tb)) : PW X (.BoolOp .And (a :: b :: rest) pos) (LT (gOf B X) E (andT ta tb)) :=
  (pw_and ha hb).imp fun sg H Q w => by
    obtain ⟨q, env, st, rs, re, p⟩ := w
    refine LT.chain rs re (R.post_bind.mp p) fun c s1 q1 H1 p e1 rs1 re1 => ?_
    cases c with
    | true => exact iteT ⟨q1, env, s1, rs1, re1, (show (tb env s1).post _ _ from p).imp (fun _ _ h => KT.ext e1 h) fun _ _ h => h.ext e1⟩
    | false => exact iteF (p q1 H1 e1 rs1)
theorem lw_or (ha : PT X a (LT (gOf B X) E ta)) (hb : PW X (.BoolOp .Or (b :: rest) pos) (LT (gOf B X) E tb)) : PW X (.BoolOp .Or (a :: b :: rest) pos) (LT (gOf B X) E (orT ta tb)) :=
  (pw_or ha hb).imp fun sg H Q w => by
    obtain ⟨q, env, st, rs, re, p⟩ := w
    refine LT.chain rs re (R.post_bind.mp p) fun c s1 q1 H1 p e1 rs1 re1 => ?_
    cases c with
    | false => exact iteF ⟨q1, env, s1, rs1, re1, (show (tb env s1).post _ _ from p).imp (fun _ _ h => KT.ext e1 h) fun _ _ h => h.ext e1⟩
    | true => exact iteT (p q1 H1 e1 rs1)
theorem lt_not (ha : PT X a (LT (gOf B X) E ta)) : PT X (.UnaryOp .Not a pos) (LT (gOf B X) E (notT ta)) :=
  (pt_not ha).imp fun sg H Q w => by
    obtain ⟨q, env, st, rs, re, p⟩ := w
    exact LT.chain rs re (R.post_bind.mp p) fun c s1 q1 H1 p e1 rs1 re1 => p q1 H1 e1 rs1
def andV (fa fb : EF) : EF := fun env st => (bF fa env st).bind fun c s => if c = true then fb env s else .ok (.bl false) s
def orV (fa fb : EF) : EF := fun env st => (bF fa env st).bind fun c s => if c = true then .ok (.bl true) s else fb env s
def notV (fa : EF) : EF := fun env st => (bF fa env st).bind fun c s => .ok (.bl (!c)) s
theorem bool_chain {g : G} {sg : L2.St} {H : Hp} {f : EF} {q : List Addr} {env : EnvD} {st : Sto} {Q : V → Hp → Prop} {K : Bool → Sto → Prop} (rs : RS g q H st) (re : RE g q H sg env) (p : (bF f env st).post K (KX g q H E))
    (k : ∀ c st' q' H', K c st' → Ext q H q' H' → RS g q' H' st' → RE g q' H' sg env → Q (.bl c) H') : LE g E f sg H Q := by
  refine LE.chain rs re (R.post_bind.mp p) fun x s1 q1 v H1 p e1 rs1 re1 rx => ?_
  cases x with
  | bl b => rw [rx.bl_inv]; exact k b s1 q1 H1 p e1 rs1 re1
  | _ => exact False.elim p
theorem le_and1 {op} (ha : PE X a (LE (gOf B X) E fa)) : PE X (.BoolOp op [a] pos) (LE (gOf B X) E fa) := pe_one ha
theorem le_and (ha : PE X a (LE (gOf B X) E fa)) (hb : PE X (.BoolOp .And (b :: rest) pos) (LE (gOf B X) E fb)) : PE X (.BoolOp .And (a :: b :: rest) pos) (LE (gOf B X) E (andV fa fb)) :=
  (pe_and ha hb).imp fun sg H Q w => by
    obtain ⟨q, env, st, rs, re, p⟩ := w
    refine bool_chain rs re (R.post_bind.mp p) fun c s1 q1 H1 p e1 rs1 re1 => ⟨c, rfl, ?_⟩
    cases c with
    | true => exact iteT ⟨q1, env, s1, rs1, re1, (show (fb env s1).post _ _ from p).imp (fun _ _ h => h.ext e1) fun _ _ h => h.ext e1⟩
    | false => exact iteF (p q1 _ H1 e1 rs1 (.bl false))
theorem le_not (ha : PE X a (LE (gOf B X) E fa)) : PE X (.UnaryOp .Not a pos) (LE (gOf B X) E (notV fa)) :=
  (pe_not ha).imp fun sg H Q w => by
    obtain ⟨q, env, st, rs, re, p⟩ := w
    exact bool_chain rs re (R.post_bind.mp p) fun c s1 q1 H1 p e1 rs1 re1 => ⟨c, rfl, p q1 _ H1 e1 rs1 (.bl _)⟩
/-- a if t else b -/
def ifF (t : TF) (fa fb : EF) : EF := fun env st => (t env st).bind fun c s => if c = true then fa env s else fb env s
def nilA : AF := fun _ st => .ok [] st
def consA (fa : EF) (fr : AF) : AF := fun env st => (fa env st).bind fun x s => (fr env s).bind fun xs s' => .ok (x :: xs) s'
theorem la_nil : PA X [] (LA (gOf B X) E nilA) := pa_nil.imp fun sg H Q w => by
  obtain ⟨q, env, st, rs, re, p⟩ := w
  exact p q [] H Ext.refl rs .nil
theorem LA.chain {g : G} {sg : L2.St} {H : Hp} {f : AF} {q : List Addr} {env : EnvD} {st : Sto} {Q : List V → Hp → Prop} {K : List D → Sto → Prop} (rs : RS g q H st) (re : RE g q H sg env) (p : (f env st).post K (KX g q H E))
    (k : ∀ d st' q' v H', K d st' → Ext q H q' H' → RS g q' H' st' → RE g q' H' sg env → RDs g q' H' v d → Q v H') : LA g E f sg H Q :=
  ⟨q, env, st, rs, re, p.imp (fun d st' hk q' v H' e rs' rd => k d st' q' v H' hk e rs' (re.ext e) rd) fun _ _ h => h⟩
theorem la_cons {es : List Expr} {fr : AF} (ha : PE X a (LE (gOf B X) E fa)) (hr : PA X es (LA (gOf B X) E fr)) (hs : starEach (a :: es) X.env = (false, eval a X.env) :: starEach es X.env := by rfl) : PA X (a :: es) (LA (gOf B X) E (consA fa fr)) :=
  (pa_cons ha hr hs).imp fun sg H Q w => by
    obtain ⟨q, env, st, rs, re, p⟩ := w
    refine LE.chain rs re (R.post_bind.mp p) fun x s1 q1 v H1 p e1 rs1 re1 rx => ?_
    refine LA.chain rs1 re1 ((R.post_bind.mp p).imp (fun _ _ h => h) fun _ _ h => h.ext e1) fun ys s2 q2 vs H2 p e2 rs2 re2 ry => ?_
    exact p q2 _ H2 (e1.trans e2) rs2 (.cons (rx.ext e2) ry)
/-- a new object of the store -/
def newO (o : O) (st : Sto) : R D := .ok (.ref st.length) (st ++ [o])
def tupA (f : AF) : EF := fun env st => (f env st).bind fun xs s => if xs.length ≤ sizeLine then .ok (.tup xs) s else .bad
def lstA (f : AF) : EF := fun env st => (f env st).bind fun xs s => if xs.length ≤ sizeLine then newO (.lst xs) s else .bad
section
variable {g : G} {q : List Addr} {H : Hp} {st : Sto} {p : Addr}
/-- a new tuple -/
theorem tup_new {xs : List V} {ds : List D} (rs : RS g q H st) (hp : H p = none) (r : RDs g q H xs ds) : Ext q H q (upd H p (.tup xs)) ∧ RS g q (upd H p (.tup xs)) st ∧ RD g q (upd H p (.tup xs)) (.ref p) (.tup ds) := by
  have s := same_upd (o := HO.tup xs) hp
  exact ⟨Same.ext0 s, rs.same s, .tup (.inl (.inl upd_same)) (r.ext (Same.ext0 s))⟩
theorem lst_new {xs : List V} {ds : List D} (rs : RS g q H st) (hp : H p = none) (r : RDs g q H xs ds) : Ext q H (q ++ [p]) (upd H p (.lst xs)) ∧ RS g (q ++ [p]) (upd H p (.lst xs)) (st ++ [.lst ds]) ∧ RD g (q ++ [p]) (upd H p (.lst xs)) (.ref p) (.ref st.length) := by
  have s := same_upd (o := HO.lst xs) hp
  refine ⟨Same.ext s hp, rs.new hp ⟨xs, upd_same, r.ext (Same.ext s hp)⟩, .ref ?_⟩
  rw [← rs.len]; simp
theorem dic_new (rs : RS g q H st) (hp : H p = none) : Ext q H (q ++ [p]) (upd H p (.dK [])) ∧ RS g (q ++ [p]) (upd H p (.dK [])) (st ++ [.dic []]) ∧ RD g (q ++ [p]) (upd H p (.dK [])) (.ref p) (.ref st.length) := by
  have s := same_upd (o := HO.dK []) hp
  refine ⟨Same.ext s hp, rs.new hp (.inl ⟨[], upd_same, .nil⟩), .ref ?_⟩
  rw [← rs.len]; simp
end
theorem le_tup {es : List Expr} {f : AF} {x1} (h : PA X es (LA (gOf B X) E f)) : PE X (.Tuple es x1 pos) (LE (gOf B X) E (tupA f)) := (pe_tup h).imp fun sg H Q w => by
  obtain ⟨q, env, st, rs, re, p⟩ := w
  refine LA.chain rs re (R.post_bind.mp p) fun xs s1 q1 vs H1 p e1 rs1 re1 rx => ?_
  by_cases hz : xs.length ≤ sizeLine
  · rw [if_pos hz] at p
    refine ⟨by rw [rx.length]; exact hz, fun pp hp => ?_⟩
    obtain ⟨e2, rs2, r2⟩ := tup_new rs1 hp rx
    exact p q1 _ _ (e1.trans e2) rs2 r2
  · rw [if_neg hz] at p
    exact False.elim p
theorem le_lst {es : List Expr} {f : AF} (h : PA X es (LA (gOf B X) E f)) : PE X (.List es pos) (LE (gOf B X) E (lstA f)) := (pe_lst h).imp fun sg H Q w => by
  obtain ⟨q, env, st, rs, re, p⟩ := w
  refine LA.chain rs re (R.post_bind.mp p) fun xs s1 q1 vs H1 p e1 rs1 re1 rx => ?_
  by_cases hz : xs.length ≤ sizeLine
  · rw [if_pos hz] at p
    refine ⟨by rw [rx.length]; exact hz, fun pp hp => ?_⟩
    obtain ⟨e2, rs2, r2⟩ := lst_new rs1 hp rx
    exact p _ _ _ (e1.trans e2) rs2 r2
  · rw [if_neg hz] at p
    exact False.elim p
def dicF : EF := fun _ st => newO (.dic []) st
theorem le_dic {e : Expr} (h : PE X e (fun _ H Q => ∀ p, H p = none → Q (.ref p) (upd H p (.dK [])))) : PE X e (LE (gOf B X) E dicF) := h.imp fun sg H Q w p hp => by
  obtain ⟨q, env, st, rs, re, k⟩ := w
  obtain ⟨e2, rs2, r2⟩ := dic_new rs hp
  exact k _ _ _ e2 rs2 r2
def LC (g : G) (E : XK) (f : List D → Sto → R D) : List V → Hp → VK → Prop := fun vs H Q => ∃ q st ds, RS g q H st ∧ RDs g q H vs ds ∧ (f ds st).post (KV g q H Q) (KX g q H E)
def callF (f : List D → Sto → R D) (fa : AF) : EF := fun env st => (fa env st).bind fun ds s => f ds s
theorem call_le {f : List D → Sto → R D} {fa : AF} {sg : L2.St} {H : Hp} {Q : VK} (w : LE (gOf B X) E (callF f fa) sg H Q) : LA (gOf B X) E fa sg H fun vs H1 => LC (gOf B X) E f vs H1 Q := by
  obtain ⟨q, env, st, rs, re, p⟩ := w
  exact LA.chain rs re (R.post_bind.mp p) fun xs s1 q1 vs H1 p e1 rs1 re1 rx => ⟨q1, s1, xs, rs1, rx, p.imp (fun _ _ h => h.ext e1) fun _ _ h => h.ext e1⟩
theorem le_callB {x : Str} {p : Pos} {id : String} {e : Expr} {es : List Expr} {fa : AF} {f : List D → Sto → R D} (hc : CallR X (.builtin id) (LC (gOf B X) E f)) (hg : Gl X x) (hm : X.mg x = none) (hv : bootBuiltins x = some (.builtin id)) (ha : PA X (e :: es) (LA (gOf B X) E fa)) (hn : x ≠ "__name__" := by decide) (hdb : (x == ("__debug__" : Str)) = false := by decide)
    (he : starEach (e :: es) X.env = (false, eval e X.env) :: starEach es X.env := by rfl) (hpl : (backTo pos (starEach es X.env)).any (·.1) = false := by rfl) : PE X (.Call (.Name x p) (e :: es) [] pos) (LE (gOf B X) E (callF f fa)) :=
  (pe_callB hc hg hm hv ha hn hdb he hpl).imp fun _ _ _ w => call_le w
theorem le_callTy {x : Str} {p : Pos} {T : String} {e : Expr} {es : List Expr} {fa : AF} {f : List D → Sto → R D} (hc : CallR X (.type T) (LC (gOf B X) E f)) (hg : Gl X x) (hm : X.mg x = none) (hv : bootBuiltins x = some (.type T)) (ha : PA X (e :: es) (LA (gOf B X) E fa)) (hn : x ≠ "__name__" := by decide) (hdb : (x == ("__debug__" : Str)) = false := by decide)
    (he : starEach (e :: es) X.env = (false, eval e X.env) :: starEach es X.env := by rfl) (hpl : (backTo pos (starEach es X.env)).any (·.1) = false := by rfl) : PE X (.Call (.Name x p) (e :: es) [] pos) (LE (gOf B X) E (callF f fa)) :=
  (pe_callTy hc hg hm hv ha hn hdb he hpl).imp fun _ _ _ w => call_le w
/-- a def's promise -/
def SpD (g : G) (n : Nat) (f : Fn) : Sp := fun vs H Q E => vs.length = n ∧ LC g E f vs H Q
theorem len_nil {env : EnvD} {st : Sto} {ds : List D} {s : Sto} (h : nilA env st = .ok ds s) : ds.length = 0 := by cases h; rfl
theorem len_cons {fa : EF} {fr : AF} {n : Nat} (hr : ∀ env st ds s, fr env st = .ok ds s → ds.length = n) : ∀ env st ds s, consA fa fr env st = .ok ds s → ds.length = n + 1 := by
  intro env st ds s h
  unfold consA at h
  cases e1 : fa env st with
  | ok x s1 =>
    rw [e1, R.bind_ok] at h
    cases e2 : fr env s1 with
    | ok xs s2 =>
      rw [e2, R.bind_ok] at h
      cases h
      rw [List.length_cons, hr _ _ _ _ e2]
    | ex c s => rw [e2] at h; cases h
    | bad => rw [e2] at h; cases h
  | ex c s => rw [e1] at h; cases h
  | bad => rw [e1] at h; cases h
theorem LS.chain {g : G} {sg : L2.St} {H : Hp} {f : SF} {q : List Addr} {env : EnvD} {st : Sto} {T : Ends} {K : Fl → Sto → Prop} (rs : RS g q H st) (re : RE g q H sg env) (p : (f env st).post K (KX g q H E))
    (k : ∀ d st', K d st' → KS g q H T d st') : LS g E f T sg H := ⟨q, env, st, rs, re, p.imp k fun _ _ h => h⟩
def nilS : SF := fun env st => .ok (.nx env) st
def seqS (f r : SF) : SF := fun env st => (f env st).bind fun fl s => match fl with
  | .nx e => r e s
  | fl => .ok fl s
theorem lss_nil : PSs X [] (LS (gOf B X) E nilS) := pss_nil.imp fun T sg H w => by
  obtain ⟨q, env, st, rs, re, p⟩ := w
  exact p q H Ext.refl rs sg re
theorem lss_one {st : Stmt} {f : SF} (h : PS X st (LS (gOf B X) E f)) : PSs X [st] (LS (gOf B X) E f) := pss_one h
theorem lss_cons {st : Stmt} {r : List Stmt} {f fr : SF} (h : PS X st (LS (gOf B X) E f)) (hr : PSs X r (LS (gOf B X) E fr)) : PSs X (st :: r) (LS (gOf B X) E (seqS f fr)) := (pss_cons h hr).imp fun T sg H w => by
  obtain ⟨q, env, st, rs, re, p⟩ := w
  refine LS.chain rs re (R.post_bind.mp p) fun fl s p q1 H1 e1 rs1 => ?_
  cases fl with
  | nx e => exact fun sg1 re1 => ⟨q1, e, s, rs1, re1, (show (fr e s).post _ _ from p).imp (fun _ _ h => h.ext e1) fun _ _ h => h.ext e1⟩
  | rt d => exact p q1 H1 e1 rs1
  | bk e => exact p q1 H1 e1 rs1
  | ct e => exact p q1 H1 e1 rs1
def bkS : SF := fun env st => .ok (.bk env) st
def ctS : SF := fun env st => .ok (.ct env) st
def dropS (f : EF) : SF := fun env st => (f env st).bind fun _ s => .ok (.nx env) s
theorem ls_expr {e : Expr} {f : EF} (h : PE X e (LE (gOf B X) E f)) (hs : swapsWith e none pos.line X.env = pure false := by rfl) : PS X (.Expr e pos) (LS (gOf B X) E (dropS f)) := (ps_expr h hs).imp fun T sg H w => by
  obtain ⟨q, env, st, rs, re, p⟩ := w
  exact LE.chain rs re (R.post_bind.mp p) fun x s1 q1 v H1 p e1 rs1 re1 rx => p q1 H1 e1 rs1 sg re1
def retS (f : EF) : SF := fun env st => (f env st).bind fun d s => .ok (.rt d) s
theorem ls_ret {e : Expr} {f : EF} (h : PE X e (LE (gOf B X) E f)) : PS X (.Return (some e) pos) (LS (gOf B X) E (retS f)) := (ps_ret h).imp fun T sg H w => by
  obtain ⟨q, env, st, rs, re, p⟩ := w
  exact LE.chain rs re (R.post_bind.mp p) fun x s1 q1 v H1 p e1 rs1 re1 rx => p q1 H1 e1 rs1 v rx
def retN : SF := fun _ st => .ok (.rt .non) st
def ifS (t : TF) (f r : SF) : SF := fun env st => (t env st).bind fun c s => if c = true then f env s else r env s
theorem ls_if {c : Expr} {x y : List Stmt} {t : TF} {f r : SF} (hc : PT X c (LT (gOf B X) E t)) (hx : PSs X x (LS (gOf B X) E f)) (hy : PSs X y (LS (gOf B X) E r)) : PS X (.If c x y pos) (LS (gOf B X) E (ifS t f r)) := (ps_if hc hx hy).imp fun T sg H w => by
  obtain ⟨q, env, st, rs, re, p⟩ := w
  refine LT.chain rs re (R.post_bind.mp p) fun c s1 q1 H1 p e1 rs1 re1 => ?_
  cases c with
  | true => exact iteT ⟨q1, env, s1, rs1, re1, (show (f env s1).post _ _ from p).imp (fun _ _ h => h.ext e1) fun _ _ h => h.ext e1⟩
  | false => exact iteF ⟨q1, env, s1, rs1, re1, (show (r env s1).post _ _ from p).imp (fun _ _ h => h.ext e1) fun _ _ h => h.ext e1⟩
abbrev GF := D → EnvD → Sto → R EnvD
def LG (g : G) (E : XK) (f : GF) : TG := fun v sg H Q => ∃ q d env st, RS g q H st ∧ RE g q H sg env ∧ RD g q H v d ∧ (f d env st).post (fun e st' => ∀ q' H' sg', Ext q H q' H' → RS g q' H' st' → RE g q' H' sg' e → Q sg' H') (KX g q H E)
def LGs (g : G) (E : XK) (f : List D → EnvD → Sto → R EnvD) : TGs := fun vs sg H Q => ∃ q ds env st, RS g q H st ∧ RE g q H sg env ∧ RDs g q H vs ds ∧ (f ds env st).post (fun e st' => ∀ q' H' sg', Ext q H q' H' → RS g q' H' st' → RE g q' H' sg' e → Q sg' H') (KX g q H E)
def nameG (i : Nat) : GF := fun d env st => .ok (env.set i (some d)) st
theorem lg_name {e : Expr} {i : Nat} (h : PG X e (gName i)) : PG X e (LG (gOf B X) E (nameG i)) := h.imp fun v sg H Q w => by
  obtain ⟨q, d, env, st, rs, re, rd, p⟩ := w
  exact p q H _ Ext.refl rs (re.set rd)
def nilG : List D → EnvD → Sto → R EnvD := fun ds env st => match ds with
  | [] => .ok env st
  | _ => .bad
def consG (f : GF) (r : List D → EnvD → Sto → R EnvD) : List D → EnvD → Sto → R EnvD := fun ds env st => match ds with
  | d :: ds => (f d env st).bind fun e s => r ds e s
  | [] => .bad
theorem lgs_nil : PGs X [] (LGs (gOf B X) E nilG) := pgs_nil.imp fun vs sg H Q w => by
  obtain ⟨q, ds, env, st, rs, re, rd, p⟩ := w
  cases rd with
  | nil => exact ⟨rfl, p q H sg Ext.refl rs re⟩
  | cons _ _ => exact False.elim p
theorem lgs_cons {e : Expr} {es : List Expr} {f : GF} {r : List D → EnvD → Sto → R EnvD} (h1 : PG X e (LG (gOf B X) E f)) (h2 : PGs X es (LGs (gOf B X) E r))
    (hs : (assignEach (e :: es) X.env).map (·.2) = assign e X.env :: (assignEach es X.env).map (·.2) := by rfl) : PGs X (e :: es) (LGs (gOf B X) E (consG f r)) := (pgs_cons h1 h2 hs).imp fun vs sg H Q w => by
  obtain ⟨q, ds, env, st, rs, re, rd, p⟩ := w
  cases rd with
  | nil => exact False.elim p
  | cons rd rds =>
    refine ⟨_, _, rfl, q, _, env, st, rs, re, rd, (R.post_bind.mp p).imp (fun e1 s1 p q1 H1 sg1 x1 rs1 re1 => ?_) fun _ _ h => h⟩
    exact ⟨q1, _, e1, s1, rs1, re1, rds.ext x1, (show (r _ e1 s1).post _ _ from p).imp (fun e2 s2 p q2 H2 sg2 x2 rs2 re2 => p q2 H2 sg2 (x1.trans x2) rs2 re2) fun _ _ h => h.ext x1⟩
/-- (a, b, ..) = a tuple -/
def tupG (n : Nat) (f : List D → EnvD → Sto → R EnvD) : GF := fun d env st => match d with
  | .tup ds => if ds.length = n then f ds env st else .bad
  | _ => .bad
theorem lg_tup {es : List Expr} {k : Nat} {f : List D → EnvD → Sto → R EnvD} {n : Nat} (hc : X.calm = true) (h : PGs X es (LGs (gOf B X) E f))
    (hn : (assignEach es X.env).length = n := by rfl) (hst : (assignEach es X.env).findIdx? (·.1) = none := by rfl) : PG X (.Tuple es k pos) (LG (gOf B X) E (tupG n f)) := (pg_tup hc h hn hst).imp fun v sg H Q w => by
  obtain ⟨q, d, env, st, rs, re, rd, p⟩ := w
  cases d with
  | tup ds =>
    obtain ⟨a, xs, rfl, hs, rx⟩ := rd.tup_inv
    by_cases hl : ds.length = n
    · have z : tupG n f (.tup ds) env st = f ds env st := if_pos hl
      rw [z] at p
      exact ⟨a, xs, rfl, hs, by rw [rx.length]; exact hl, q, ds, env, st, rs, re, rx, p⟩
    · have z : tupG n f (.tup ds) env st = .bad := if_neg hl
      rw [z] at p
      exact False.elim p
  | _ => exact False.elim p
def asgS (f : EF) (gf : GF) : SF := fun env st => (f env st).bind fun d s => (gf d env s).bind fun e s' => .ok (.nx e) s'
theorem asg_le {f : EF} {gf : GF} {T : Ends} {sg : L2.St} {H : Hp} (w : LS (gOf B X) E (asgS f gf) T sg H) : tAsg (LE (gOf B X) E f) (LG (gOf B X) E gf) T sg H := by
  obtain ⟨q, env, st, rs, re, p⟩ := w
  refine LE.chain rs re (R.post_bind.mp p) fun x s1 q1 v H1 p e1 rs1 re1 rx => ?_
  exact ⟨q1, x, env, s1, rs1, re1, rx, (R.post_bind.mp p).imp (fun e2 s2 p q2 H2 sg2 x2 rs2 re2 => p q2 H2 (e1.trans x2) rs2 sg2 re2) fun _ _ h => h.ext e1⟩
theorem ls_asg {tg e : Expr} {f : EF} {gf : GF} (he : PE X e (LE (gOf B X) E f)) (hg : PG X tg (LG (gOf B X) E gf)) (hs : swapsWithSole [tg] e pos.line X.env = pure false := by rfl) (hw : swappedStores [tg] e X.env = pure none := by rfl)
    (h1 : (assignEach [tg] X.env).map (·.2) = [assign tg X.env] := by rfl) : PS X (.Assign [tg] e pos) (LS (gOf B X) E (asgS f gf)) := (ps_asg he hg hs hw h1).imp fun _ _ _ w => asg_le w
def setS (i : Nat) (f : EF) : SF := fun env st => (f env st).bind fun d s => .ok (.nx (env.set i (some d))) s
theorem set_le {i : Nat} {f : EF} {T : Ends} {sg : L2.St} {H : Hp} (w : LS (gOf B X) E (setS i f) T sg H) : tAsg (LE (gOf B X) E f) (gName i) T sg H := by
  obtain ⟨q, env, st, rs, re, p⟩ := w
  exact LE.chain rs re (R.post_bind.mp p) fun x s1 q1 v H1 p e1 rs1 re1 rx => p q1 H1 e1 rs1 _ (re1.set rx)
theorem ls_set {i : Nat} {x : Str} {e : Expr} {f : EF} {pos' : Pos} (hN : X.N.Nodup) (he : PE X e (LE (gOf B X) E f)) (hi : X.N[i]? = some x := by rfl) (hx : Loc X.env.scope x := by first | exact Or.inl rfl | exact Or.inr rfl) (hs : swapsWith e (some (.Name x pos')) pos.line X.env = pure false := by rfl) (hf : X.fn x = true ∨ X.env.scope.names.lookup x = some .local := by first | exact .inl rfl | exact .inr rfl | assumption) :
    PS X (.Assign [.Name x pos'] e pos) (LS (gOf B X) E (setS i f)) := (ps_set hN hi hx he hs hf).imp fun _ _ _ w => set_le w
def startE (n : Nat) (ds : List D) : EnvD := ds.map some ++ List.replicate (n - ds.length) none
def fnF (n : Nat) (f : SF) : Fn := fun ds st => (f (startE n ds) st).bind fun fl s => match fl with
  | .nx _ => .ok .non s
  | .rt d => .ok d s
  | _ => .bad
theorem RE.of {g : G} {q : List Addr} {H : Hp} : ∀ {vs : List V} {ds : List D}, RDs g q H vs ds → RE g q H (vs.map some) (ds.map some)
  | _, _, .nil => .nil
  | _, _, .cons r t => .cons (fun x e => by cases e; exact ⟨_, rfl, r⟩) (RE.of t)
theorem RE.start {g : G} {q : List Addr} {H : Hp} {vs : List V} {ds : List D} (r : RDs g q H vs ds) (n : Nat) : RE g q H (vs.map some ++ List.replicate (n - vs.length) none) (startE n ds) := by
  have h2 : ∀ k : Nat, RE g q H (List.replicate k none) (List.replicate k none) := by
    intro k
    induction k with
    | zero => exact .nil
    | succ k ih => exact .cons (fun x e => nomatch e) ih
  unfold startE
  rw [r.length]
  exact Paired.app (RE.of r) (h2 _)
theorem fn_le {g : G} {E : XK} {n : Nat} {f : SF} {N : List Str} {vs : List V} {H : Hp} {Q : VK} (hN : N.length = n) (w : LC g E (fnF n f) vs H Q) : LS g E f { nx := fun _ H' => Q .non H', rt := Q } (start N vs) H := by
  obtain ⟨q, st, ds, rs, rd, p⟩ := w
  subst hN
  refine ⟨q, startE N.length ds, st, rs, RE.start rd _, (R.post_bind.mp p).imp (fun fl s p q1 H1 e1 rs1 => ?_) fun _ _ h => h⟩
  cases fl with
  | nx e => exact fun sg re => p q1 _ H1 e1 rs1 .non
  | rt d => exact fun v rv => p q1 v H1 e1 rs1 rv
  | bk e => exact False.elim p
  | ct e => exact False.elim p
end
end VL
namespace L2
open PySem PySem.Spec PyProof.Rows
section
variable {X : Cx}
theorem OpR.rI0 {op : Value → Value → Sem Value} {v : Int → Int → V} (h : OpR X op (rI0 v)) : OpR X op (rI (fun _ _ => True) v) := h.imp fun x y H Q ⟨i, j, h1, h2, _, h3⟩ => ⟨i, j, h1, h2, h3⟩
theorem PO.imp {e : Option Expr} {t t' : TO} (h : PO X e t) (i : ∀ sg H Q, t' sg H Q → t sg H Q) : PO X e t' := ⟨fun pins s sg H Q I w => h.run pins s sg H Q I (i _ _ _ w)⟩
end
end L2
namespace VL
open PySem PySem.Spec PyProof.Rows L2 LamX NdefX
variable {B : Tb}
section
variable {X : Cx} {E : XK}
/-- a sequence that may be read: list or tuple -/
theorem RO.seqL {g : G} {q : List Addr} {H : Hp} {a : Addr} {ds : List D} (h : RO g q H a (.lst ds) ∨ RO g q H a (.rl ds)) : ∃ xs, SqL g.K H a xs ∧ RDs g q H xs ds := by
  rcases h with ⟨xs, h, r⟩ | ⟨xs, h, r⟩
  · exact ⟨xs, SqL.of h, r⟩
  · exact ⟨xs, h.sq, r⟩
/-- the items of the list n -/
def listAt (st : Sto) (n : Nat) : Option (List D) := match st[n]? with
  | some (.lst xs) => some xs
  | some (.rl xs) => some xs
  | _ => none
theorem listAt_lst {st : Sto} {n : Nat} {xs : List D} (h : st[n]? = some (.lst xs)) : listAt st n = some xs := by unfold listAt; rw [h]
theorem listAt_rl {st : Sto} {n : Nat} {xs : List D} (h : st[n]? = some (.rl xs)) : listAt st n = some xs := by unfold listAt; rw [h]
theorem RS.listAt {g : G} {q : List Addr} {H : Hp} {st : Sto} (rs : RS g q H st) {n : Nat} {ds : List D} (h : listAt st n = some ds) : ∃ a xs, q[n]? = some a ∧ SqL g.K H a xs ∧ RDs g q H xs ds := by
  unfold VL.listAt at h
  split at h
  · rename_i xs e
    cases h
    obtain ⟨a, h1, h2⟩ := rs.get e
    obtain ⟨ys, h3, h4⟩ := RO.seqL (.inl h2)
    exact ⟨a, ys, h1, h3, h4⟩
  · rename_i xs e
    cases h
    obtain ⟨a, h1, h2⟩ := rs.get e
    obtain ⟨ys, h3, h4⟩ := RO.seqL (.inr h2)
    exact ⟨a, ys, h1, h3, h4⟩
  · cases h
theorem RS.lstAt {g : G} {q : List Addr} {H : Hp} {st : Sto} (rs : RS g q H st) {n : Nat} {ds : List D} (h : st[n]? = some (.lst ds)) : ∃ a xs, q[n]? = some a ∧ H a = some (.lst xs) ∧ RDs g q H xs ds := by
  obtain ⟨a, h1, xs, h2, h3⟩ := rs.get h
  exact ⟨a, xs, h1, h2, h3⟩
def addD : D → D → Sto → R D
  | .int a, .int b, st => .ok (.int (a + b)) st
  | .str a, .str b, st => if a.length + b.length ≤ sizeLine then .ok (.str (a ++ b)) st else .bad
  | .tup a, .tup b, st => if a.length + b.length ≤ sizeLine then .ok (.tup (a ++ b)) st else .bad
  | .ref m, .ref n, st => match st[m]?, st[n]? with
    | some (.lst a), some (.lst b) => if a.length + b.length ≤ sizeLine then newO (.lst (a ++ b)) st else .bad
    | _, _ => .bad
  | _, _, _ => .bad
theorem op_addD : OpR X (binaryOp .Add) (LR (gOf B X) E addD) := ((op_add.or op_add_str).or (op_cat.or op_catA)).imp fun x y H Q w => by
  obtain ⟨q, st, a, b, rs, ra, rb, p⟩ := w
  cases a with
  | int i =>
    cases b with
    | int j => rw [ra.int_inv, rb.int_inv]; exact .inl (.inl ⟨i, j, rfl, rfl, p q _ H Ext.refl rs (.int _)⟩)
    | _ => exact False.elim p
  | str i =>
    cases b with
    | str j =>
      rw [ra.str_inv, rb.str_inv]
      by_cases hz : i.length + j.length ≤ sizeLine
      · have p : ((if i.length + j.length ≤ sizeLine then .ok (.str (i ++ j)) st else .bad) : R D).post _ _ := p
        rw [if_pos hz] at p
        exact .inl (.inr ⟨i, j, rfl, rfl, hz, p q _ H Ext.refl rs (.str _)⟩)
      · have p : ((if i.length + j.length ≤ sizeLine then .ok (.str (i ++ j)) st else .bad) : R D).post _ _ := p
        rw [if_neg hz] at p
        exact False.elim p
    | _ => exact False.elim p
  | tup i =>
    cases b with
    | tup j =>
      obtain ⟨a, xs, rfl, sa, rx⟩ := ra.tup_inv
      obtain ⟨b, ys, rfl, sb, ry⟩ := rb.tup_inv
      by_cases hz : i.length + j.length ≤ sizeLine
      · have p : ((if i.length + j.length ≤ sizeLine then .ok (.tup (i ++ j)) st else .bad) : R D).post _ _ := p
        rw [if_pos hz] at p
        have rxy := rx.append ry
        refine .inr (.inr ⟨a, b, xs, ys, rfl, rfl, sa, sb, by rw [rx.length, ry.length]; exact hz, fun e => ?_, fun _ e => ?_, fun _ _ t ht => ?_⟩)
        · subst e
          exact p q _ H Ext.refl rs (.tup sb rxy)
        · subst e
          rw [List.append_nil] at rxy
          exact p q _ H Ext.refl rs (.tup sa rxy)
        · obtain ⟨e2, rs2, r2⟩ := tup_new rs ht rxy
          exact p _ _ _ e2 rs2 r2
      · have p : ((if i.length + j.length ≤ sizeLine then .ok (.tup (i ++ j)) st else .bad) : R D).post _ _ := p
        rw [if_neg hz] at p
        exact False.elim p
    | _ => exact False.elim p
  | ref m =>
    cases b with
    | ref n =>
      have p : (match st[m]?, st[n]? with
        | some (.lst a), some (.lst b) => if a.length + b.length ≤ sizeLine then newO (.lst (a ++ b)) st else .bad
        | _, _ => .bad : R D).post _ _ := p
      split at p
      · rename_i i j e1 e2
        split at p
        · rename_i hz
          obtain ⟨a, xs, qa, ha, rx⟩ := rs.lstAt e1
          obtain ⟨b, ys, qb, hb, ry⟩ := rs.lstAt e2
          obtain ⟨a', rfl, qa'⟩ := ra.ref_inv
          obtain ⟨b', rfl, qb'⟩ := rb.ref_inv
          rw [qa] at qa'; cases qa'
          rw [qb] at qb'; cases qb'
          refine .inr (.inl ⟨a, b, xs, ys, rfl, rfl, ha, hb, by rw [rx.length, ry.length]; exact hz, fun t ht => ?_⟩)
          obtain ⟨e2, rs2, r2⟩ := lst_new rs ht (rx.append ry)
          exact p _ _ _ e2 rs2 r2
        · exact False.elim p
      · exact False.elim p
    | _ => exact False.elim p
  | _ => exact False.elim p
/-- two ints, under a condition -/
def intD (c : Int → Int → Bool) (f : Int → Int → D) : D → D → Sto → R D
  | .int a, .int b, st => if c a b = true then .ok (f a b) st else .bad
  | _, _, _ => .bad
theorem op_intD {op : Value → Value → Sem Value} {C : Int → Int → Prop} {v : Int → Int → V} {c : Int → Int → Bool} {f : Int → Int → D} (h : OpR X op (rI C v)) (hc : ∀ i j, c i j = true → C i j) (hv : ∀ q H i j, RD (gOf B X) q H (v i j) (f i j)) : OpR X op (LR (gOf B X) E (intD c f)) := h.imp fun x y H Q w => by
  obtain ⟨q, st, a, b, rs, ra, rb, p⟩ := w
  cases a with
  | int i =>
    cases b with
    | int j =>
      have p : ((if c i j = true then .ok (f i j) st else .bad) : R D).post _ _ := p
      split at p
      · rename_i hcc
        exact ⟨i, j, ra.int_inv, rb.int_inv, hc i j hcc, p q _ H Ext.refl rs (hv q H i j)⟩
      · exact False.elim p
    | _ => exact False.elim p
  | _ => exact False.elim p
def yes2 : Int → Int → Bool := fun _ _ => true
abbrev subD := intD yes2 fun a b => .int (a - b)
/-- within the model's line -/
def MulOk (a b : Int) : Prop := a.natAbs.log2 + b.natAbs.log2 < 1000000 ∨ a.natAbs < 2 ^ 64 ∨ b.natAbs < 2 ^ 64
instance {a b : Int} : Decidable (MulOk a b) := inferInstanceAs (Decidable (_ ∨ _ ∨ _))
abbrev mulD := intD (fun a b => decide (MulOk a b)) fun a b => .int (a * b)
abbrev modD := intD (fun _ b => decide (0 < b)) fun a b => .int (a % b)
abbrev divD := intD (fun _ b => decide (0 < b ∧ b.natAbs.log2 < 9000)) fun a b => .int (a / b)
abbrev powD := intD (fun a b => decide (0 ≤ b ∧ b ≤ 1000000 ∧ a.natAbs < 2 ^ 64)) fun a b => .int (a ^ b.toNat)
abbrev ltD := intD yes2 fun a b => .bl (decide (a < b))
abbrev leD := intD yes2 fun a b => .bl (decide (a ≤ b))
abbrev gtD := intD yes2 fun a b => .bl (decide (b < a))
abbrev geD := intD yes2 fun a b => .bl (decide (b ≤ a))
theorem op_subD : OpR X (binaryOp .Sub) (LR (gOf B X) E subD) := op_intD op_sub.rI0 (fun _ _ _ => trivial) fun _ _ _ _ => .int _
theorem op_mulD : OpR X (binaryOp .Mult) (LR (gOf B X) E mulD) := op_intD (C := MulOk) ((op_mul.or op_mulW).imp fun x y H Q ⟨i, j, e1, e2, c, q⟩ => by
  rcases c with c | c | c
  · exact .inr ⟨i, j, e1, e2, c, q⟩
  · exact .inl ⟨i, j, e1, e2, .inl (by omega), q⟩
  · exact .inl ⟨i, j, e1, e2, .inr (by omega), q⟩) (fun i j h => of_decide_eq_true (p := MulOk i j) h) fun _ _ _ _ => .int _
theorem op_modD : OpR X (binaryOp .Mod) (LR (gOf B X) E modD) := op_intD op_mod (fun i j h => of_decide_eq_true (p := 0 < j) h) fun _ _ _ _ => .int _
theorem op_divD : OpR X (binaryOp .FloorDiv) (LR (gOf B X) E divD) := op_intD op_fdivW (fun i j h => of_decide_eq_true (p := _ ∧ _) h) fun _ _ _ _ => .int _
theorem op_powD : OpR X (binaryOp .Pow) (LR (gOf B X) E powD) := op_intD op_pow (fun i j h => of_decide_eq_true (p := _ ∧ _) h) fun _ _ _ _ => .int _
theorem op_ltD : OpR X (compareOp .Lt) (LR (gOf B X) E ltD) := op_intD op_lt.rI0 (fun _ _ _ => trivial) fun _ _ _ _ => .bl _
theorem op_gtD : OpR X (compareOp .Gt) (LR (gOf B X) E gtD) := op_intD op_gt.rI0 (fun _ _ _ => trivial) fun _ _ _ _ => .bl _
def negD : D → Sto → R D
  | .int a, st => .ok (.int (-a)) st
  | _, _ => .bad
def un1 (f : D → Sto → R D) (fa : EF) : EF := fun env st => (fa env st).bind f
theorem le_neg {a : Expr} {fa : EF} {pos : Pos} (ha : PE X a (LE (gOf B X) E fa)) : PE X (.UnaryOp .USub a pos) (LE (gOf B X) E (un1 negD fa)) := (pe_un un_neg ha).imp fun sg H Q w => by
  obtain ⟨q, env, st, rs, re, p⟩ := w
  refine LE.chain rs re (R.post_bind.mp p) fun x s1 q1 v H1 p e1 rs1 re1 rx => ?_
  cases x with
  | int i => exact ⟨i, rx.int_inv, p q1 _ H1 e1 rs1 (.int _)⟩
  | _ => exact False.elim p
mutual
/-- as the library's data -/
def toPy : D → Option PyData
  | .non => some .none
  | .bl b => some (.bool b)
  | .int i => some (.int i)
  | .str x => some (.str x)
  | .tup xs => (toPys xs).map .tuple
  | .ref _ => none
  | .glb _ => none
  | .ty _ => none
  | .clo _ _ => none
  | .exc _ => none
def toPys : List D → Option (List PyData)
  | [] => some []
  | x :: xs => (toPy x).bind fun k => (toPys xs).map fun ks => k :: ks
end
mutual
theorem RD.dp {g : G} {q : List Addr} {H : Hp} : ∀ {v : V} {d : D} {p : PyData}, RD g q H v d → toPy d = some p → Dp g.K H v p
  | _, _, _, .non, e => by cases e; exact .non
  | _, _, _, .bl b, e => by cases e; exact .bl b
  | _, _, _, .int b, e => by cases e; exact .int b
  | _, _, _, .str b, e => by cases e; exact .str b
  | _, .tup ds, p, .tup h r, e => by
    unfold toPy at e
    obtain ⟨ps, h1, h2⟩ := Option.map_eq_some_iff.mp e
    subst h2
    exact .tup h (RDs.dp r h1)
  | _, .clo _ _, _, _, e => by unfold toPy at e; cases e
  | _, .exc _, _, _, e => by unfold toPy at e; cases e
theorem RDs.dp {g : G} {q : List Addr} {H : Hp} : ∀ {v : List V} {d : List D} {p : List PyData}, RDs g q H v d → toPys d = some p → DpAll g.K H v p
  | _, _, _, .nil, e => by cases e; exact .nil
  | _, x :: xs, p, .cons r t, e => by
    unfold toPys at e
    obtain ⟨k, h1, h2⟩ := Option.bind_eq_some_iff.mp e
    obtain ⟨ks, h3, h4⟩ := Option.map_eq_some_iff.mp h2
    subst h4
    exact .cons (RD.dp r h1) (RDs.dp t h3)
end
/-- two scalars of which == is told at once -/
def sEq : D → D → Option Bool
  | .non, .non => some true
  | .non, .int _ => some false | .int _, .non => some false | .non, .bl _ => some false | .bl _, .non => some false | .non, .str _ => some false | .str _, .non => some false
  | .int a, .int b => some (decide (a = b))
  | .bl a, .bl b => some (decide (a = b))
  | .str a, .str b => some (decide (a = b))
  | .int _, .str _ => some false | .str _, .int _ => some false | .bl _, .str _ => some false | .str _, .bl _ => some false
  | _, _ => none
/-- a == b of data without lists -/
def eqP (a b : D) : Option Bool := match sEq a b with
  | some c => some c
  | none => match toPy a, toPy b with
    | some p, some r => if (SeqAt.shaped p && SeqAt.shaped r) = true then some (PyData.eqv p r) else none
    | _, _ => none
def eqD (a b : D) (st : Sto) : R D := match eqP a b with
  | some c => .ok (.bl c) st
  | none => .bad
def neD (a b : D) (st : Sto) : R D := match eqP a b with
  | some c => .ok (.bl (!c)) st
  | none => .bad
theorem sEq_scal {g : G} {q : List Addr} {H : Hp} {x y : V} {a b : D} {c : Bool} (ra : RD g q H x a) (rb : RD g q H y b) (h : sEq a b = some c) : scal x y = true ∧ decide (x = y) = c := by
  cases a <;> cases b <;> first
    | (cases h; done)
    | (cases ra; cases rb; cases h; exact ⟨rfl, by simp⟩)
theorem eqP_of {g : G} {q : List Addr} {H : Hp} {x y : V} {a b : D} {c : Bool} (ra : RD g q H x a) (rb : RD g q H y b) (h : eqP a b = some c) :
    (scal x y = true ∧ decide (x = y) = c) ∨ ∃ d e, Dp g.K H x d ∧ Dp g.K H y e ∧ SeqAt.shaped d = true ∧ SeqAt.shaped e = true ∧ PyData.eqv d e = c := by
  unfold eqP at h
  split at h
  · rename_i c' e
    cases h
    exact .inl (sEq_scal ra rb e)
  · split at h
    · rename_i p r e1 e2
      split at h
      · rename_i hs
        cases h
        rw [Bool.and_eq_true] at hs
        exact .inr ⟨p, r, ra.dp e1, rb.dp e2, hs.1, hs.2, rfl⟩
      · cases h
    · cases h
theorem op_eqDD (hu : X.A.units + 64 < cLine) : OpR X (compareOp .Eq) (LR (gOf B X) E eqD) := (op_eq.or (op_eqD hu)).imp fun x y H Q w => by
  obtain ⟨q, st, a, b, rs, ra, rb, p⟩ := w
  unfold eqD at p
  split at p
  · rename_i c e
    have k := p q (.bl c) H Ext.refl rs (.bl c)
    rcases eqP_of ra rb e with ⟨h1, h2⟩ | ⟨d, e, h1, h2, h3, h4, h5⟩
    · exact .inl ⟨h1, by rw [h2]; exact k⟩
    · exact .inr ⟨d, e, h1, h2, h3, h4, by rw [h5]; exact k⟩
  · exact False.elim p
theorem op_neDD (hu : X.A.units + 64 < cLine) : OpR X (compareOp .NotEq) (LR (gOf B X) E neD) := (op_ne.or (op_neD hu)).imp fun x y H Q w => by
  obtain ⟨q, st, a, b, rs, ra, rb, p⟩ := w
  unfold neD at p
  split at p
  · rename_i c e
    have k := p q (.bl (!c)) H Ext.refl rs (.bl (!c))
    rcases eqP_of ra rb e with ⟨h1, h2⟩ | ⟨d, e, h1, h2, h3, h4, h5⟩
    · exact .inl ⟨h1, by rw [h2]; exact k⟩
    · exact .inr ⟨d, e, h1, h2, h3, h4, by rw [h5]; exact k⟩
  · exact False.elim p
/-- x is None -/
def isN (neg : Bool) : D → D → Sto → R D
  | a, .non, st => .ok (.bl (match a with | .non => !neg | _ => neg)) st
  | _, _, _ => .bad
theorem RD.isnon {g : G} {q : List Addr} {H : Hp} {x : V} {a : D} (r : RD g q H x a) : decide (x = .non) = (match a with | .non => true | _ => false) := by
  cases r <;> simp
theorem op_isND : OpR X (compareOp .Is) (LR (gOf B X) E (isN false)) := op_isN.imp fun x y H Q w => by
  obtain ⟨q, st, a, b, rs, ra, rb, p⟩ := w
  cases b with
  | non =>
    refine ⟨rb.non_inv, ?_⟩
    rw [ra.isnon]
    have k := p q _ H Ext.refl rs (.bl _)
    cases a <;> exact k
  | _ => cases a <;> exact False.elim p
def ixD : D → D → Sto → R D
  | .tup xs, .int i, st => match atI xs i with
    | some d => .ok d st
    | none => .bad
  | .ref n, .int i, st => match (listAt st n).bind fun xs => atI xs i with
    | some d => .ok d st
    | none => .bad
  | .str z, .int i, st => if z.length ≤ sizeLine then match atI z.cps.toList i with
    | some c => .ok (.str ⟨#[c]⟩) st
    | none => .bad
    else .bad
  | _, _, _ => .bad
theorem RDs.atI {g : G} {q : List Addr} {H : Hp} {xs : List V} {ds : List D} {i : Int} {d : D} (r : RDs g q H xs ds) (h : atI ds i = some d) : ∃ v, L2.atI xs i = some v ∧ RD g q H v d := by
  unfold L2.atI at h ⊢
  rw [r.length]
  obtain ⟨j, h1, h2⟩ := Option.bind_eq_some_iff.mp h
  rw [h1]
  exact r.get h2
theorem ix_D : IxR X (LR (gOf B X) E ixD) := ix_seq.imp fun x y H Q w => by
  obtain ⟨q, st, a, b, rs, ra, rb, p⟩ := w
  cases b with
  | int i =>
    cases a with
    | tup ds =>
      have p : (match atI ds i with | some d => .ok d st | none => .bad : R D).post _ _ := p
      split at p
      · rename_i d e
        obtain ⟨a, xs, rfl, hs, rx⟩ := ra.tup_inv
        obtain ⟨v, h1, h2⟩ := rx.atI e
        exact .inr (.inl ⟨a, xs, i, v, rfl, rb.int_inv, hs, h1, p q v H Ext.refl rs h2⟩)
      · exact False.elim p
    | ref n =>
      have p : (match (listAt st n).bind fun xs => atI xs i with | some d => .ok d st | none => .bad : R D).post _ _ := p
      split at p
      · rename_i d e
        obtain ⟨ds, e1, e2⟩ := Option.bind_eq_some_iff.mp e
        obtain ⟨a, xs, qa, hs, rx⟩ := rs.listAt e1
        obtain ⟨a', rfl, qa'⟩ := ra.ref_inv
        rw [qa] at qa'; cases qa'
        obtain ⟨v, h1, h2⟩ := rx.atI e2
        exact .inl ⟨a, xs, i, v, rfl, rb.int_inv, hs, h1, p q v H Ext.refl rs h2⟩
      · exact False.elim p
    | str z =>
      have p : (if z.length ≤ sizeLine then match atI z.cps.toList i with
        | some c => .ok (.str ⟨#[c]⟩) st
        | none => .bad
        else .bad : R D).post _ _ := p
      split at p
      · rename_i hz
        split at p
        · rename_i c e
          exact .inr (.inr ⟨z, i, c, ra.str_inv, rb.int_inv, hz, e, p q _ H Ext.refl rs (.str _)⟩)
        · exact False.elim p
      · exact False.elim p
    | _ => exact False.elim p
  | _ => cases a <;> exact False.elim p
/-- a part of a slice: none, or an int -/
abbrev OF := EnvD → Sto → R (Option Int)
def LO (g : G) (E : XK) (f : OF) : TO := fun sg H Q => ∃ q env st, RS g q H st ∧ RE g q H sg env ∧ (f env st).post (fun o st' => ∀ q' H', Ext q H q' H' → RS g q' H' st' → Q o H') (KX g q H E)
def nonO : OF := fun _ st => .ok none st
def someO (f : EF) : OF := fun env st => (f env st).bind fun d s => match d with
  | .int i => .ok (some i) s
  | _ => .bad
theorem lo_some {e : Expr} {f : EF} (h : PE X e (LE (gOf B X) E f)) : PO X (some e) (LO (gOf B X) E (someO f)) := (po_some h).imp fun sg H Q w => by
  obtain ⟨q, env, st, rs, re, p⟩ := w
  refine LE.chain rs re (R.post_bind.mp p) fun x s1 q1 v H1 p e1 rs1 re1 rx => ?_
  cases x with
  | int i => exact ⟨i, rx.int_inv, p q1 H1 e1 rs1⟩
  | _ => exact False.elim p
def cutD (xs : List D) (lo hi : Option Int) : List D := (xs.drop (HT.sIx xs.length 0 lo)).take (HT.sIx xs.length xs.length hi - HT.sIx xs.length 0 lo)
theorem RDs.cut {g : G} {q : List Addr} {H : Hp} {xs : List V} {ds : List D} (r : RDs g q H xs ds) (lo hi : Option Int) : RDs g q H (cutV xs lo hi) (cutD ds lo hi) := by
  unfold cutV cutD
  rw [r.length]
  exact (r.drop _).take _
def slD : D → Option Int → Option Int → Sto → R D
  | .tup xs, lo, hi, st => .ok (.tup (cutD xs lo hi)) st
  | .ref n, lo, hi, st => match listAt st n with
    | some xs => newO (.lst (cutD xs lo hi)) st
    | none => .bad
  | .str z, lo, hi, st => if z.length ≤ sizeLine then .ok (.str (cutS z lo hi)) st else .bad
  | _, _, _, _ => .bad
def slF (fa : EF) (fl fh : OF) : EF := fun env st => (fa env st).bind fun d s => (fl env s).bind fun lo s1 => (fh env s1).bind fun hi s2 => slD d lo hi s2
theorem slD_ok {g : G} {q : List Addr} {H : Hp} {Q : VK} {K' : Str → Sto → Prop} {x : V} {d : D} {lo hi : Option Int} {st : Sto} (rs : RS g q H st) (rx : RD g q H x d) (p : (slD d lo hi st).post (KV g q H Q) K') :
    rSlA g.K x lo hi H Q ∨ rSlL g.K x lo hi H Q ∨ rSlS x lo hi H Q := by
  cases d with
  | tup ds =>
    obtain ⟨a, xs, rfl, hs, r⟩ := rx.tup_inv
    refine .inl ⟨a, xs, rfl, hs, fun hw => ?_, fun _ t ht => ?_⟩
    · have e : cutV xs lo hi = xs := by
        unfold cutV
        rw [hw.1, hw.2, List.drop_zero, Nat.sub_zero, List.take_length]
      have rc := r.cut lo hi
      rw [e] at rc
      exact p q _ H Ext.refl rs (.tup hs rc)
    · obtain ⟨e2, rs2, r2⟩ := tup_new rs ht (r.cut lo hi)
      exact p _ _ _ e2 rs2 r2
  | ref n =>
    have p : (match listAt st n with | some xs => newO (.lst (cutD xs lo hi)) st | none => .bad : R D).post _ _ := p
    split at p
    · rename_i ds e
      obtain ⟨a, xs, qa, hs, r⟩ := rs.listAt e
      obtain ⟨a', rfl, qa'⟩ := rx.ref_inv
      rw [qa] at qa'; cases qa'
      refine .inr (.inl ⟨a, xs, rfl, hs, fun t ht => ?_⟩)
      obtain ⟨e2, rs2, r2⟩ := lst_new rs ht (r.cut lo hi)
      exact p _ _ _ e2 rs2 r2
    · exact False.elim p
  | str z =>
    have p : (if z.length ≤ sizeLine then .ok (.str (cutS z lo hi)) st else .bad : R D).post _ _ := p
    split at p
    · rename_i hz
      exact .inr (.inr ⟨z, rx.str_inv, hz, p q _ H Ext.refl rs (.str _)⟩)
    · exact False.elim p
  | _ => exact False.elim p
theorem le_slice {e : Expr} {lo hi : Option Expr} {fa : EF} {fl fh : OF} {pos p2 : Pos} (he : PE X e (LE (gOf B X) E fa)) (hl : PO X lo (LO (gOf B X) E fl)) (hh : PO X hi (LO (gOf B X) E fh)) : PE X (.Subscript e (.Slice lo hi none p2) pos) (LE (gOf B X) E (slF fa fl fh)) :=
  (pe_slice (sl_tupA.or (sl_list.or sl_str)) he hl hh).imp fun sg H Q w => by
    obtain ⟨q, env, st, rs, re, p⟩ := w
    refine LE.chain rs re (R.post_bind.mp p) fun d s1 q1 v H1 p e1 rs1 re1 rx => ?_
    refine ⟨q1, env, s1, rs1, re1, (R.post_bind.mp p).imp (fun o s2 p q2 H2 e2 rs2 => ?_) fun _ _ h => h.ext e1⟩
    refine ⟨q2, env, s2, rs2, re1.ext e2, (R.post_bind.mp p).imp (fun o' s3 p q3 H3 e3 rs3 => ?_) fun _ _ h => h.ext (e1.trans e2)⟩
    exact slD_ok rs3 (rx.ext (e2.trans e3)) (p.imp (fun _ _ h => h.ext (e1.trans (e2.trans e3))) fun _ _ h => h)
def lenD : List D → Sto → R D
  | [.tup xs], st => .ok (.int xs.length) st
  | [.str z], st => if z.length ≤ sizeLine then .ok (.int z.length) st else .bad
  | [.ref n], st => match listAt st n with
    | some xs => .ok (.int xs.length) st
    | none => .bad
  | _, _ => .bad
theorem RDs.one_inv {g : G} {q : List Addr} {H : Hp} {vs : List V} {d : D} (r : RDs g q H vs [d]) : ∃ v, vs = [v] ∧ RD g q H v d := by
  cases r with | cons r t => cases t; exact ⟨_, rfl, r⟩
theorem RDs.two_inv {g : G} {q : List Addr} {H : Hp} {vs : List V} {d e : D} (r : RDs g q H vs [d, e]) : ∃ v w, vs = [v, w] ∧ RD g q H v d ∧ RD g q H w e := by
  cases r with | cons r t => cases t with | cons r' t' => cases t'; exact ⟨_, _, rfl, r, r'⟩
theorem call_lenD : CallR X (.builtin "len") (LC (gOf B X) E lenD) := call_len.imp fun vs H Q w => by
  obtain ⟨q, st, ds, rs, rd, p⟩ := w
  unfold lenD at p
  split at p
  · obtain ⟨v, rfl, r⟩ := rd.one_inv
    obtain ⟨a, xs, rfl, hs, rx⟩ := r.tup_inv
    exact ⟨_, xs.length, rfl, .inr ⟨xs, hs, rfl⟩, by rw [rx.length]; exact p q _ H Ext.refl rs (.int _)⟩
  · split at p
    · rename_i hz
      obtain ⟨v, rfl, r⟩ := rd.one_inv
      rw [r.str_inv]
      exact ⟨_, _, rfl, ⟨hz, rfl⟩, p q _ H Ext.refl rs (.int _)⟩
    · exact False.elim p
  · split at p
    · rename_i xs e
      obtain ⟨v, rfl, r⟩ := rd.one_inv
      obtain ⟨a, ys, qa, hs, rx⟩ := rs.listAt e
      obtain ⟨a', rfl, qa'⟩ := r.ref_inv
      rw [qa] at qa'; cases qa'
      exact ⟨_, ys.length, rfl, .inl ⟨ys, hs, rfl⟩, by rw [rx.length]; exact p q _ H Ext.refl rs (.int _)⟩
    · exact False.elim p
  · exact False.elim p
def listD : List D → Sto → R D
  | [.tup xs], st => newO (.lst xs) st
  | [.ref n], st => match listAt st n with
    | some xs => newO (.lst xs) st
    | none => .bad
  | _, _ => .bad
theorem call_listD : CallR X (.type "list") (LC (gOf B X) E listD) := call_list_of.imp fun vs H Q w => by
  obtain ⟨q, st, ds, rs, rd, p⟩ := w
  unfold listD at p
  split at p
  · obtain ⟨v, rfl, r⟩ := rd.one_inv
    obtain ⟨a, xs, rfl, hs, rx⟩ := r.tup_inv
    refine ⟨a, xs, rfl, .inr hs, fun t ht => ?_⟩
    obtain ⟨e2, rs2, r2⟩ := lst_new rs ht rx
    exact p _ _ _ e2 rs2 r2
  · split at p
    · rename_i xs e
      obtain ⟨v, rfl, r⟩ := rd.one_inv
      obtain ⟨a, ys, qa, hs, rx⟩ := rs.listAt e
      obtain ⟨a', rfl, qa'⟩ := r.ref_inv
      rw [qa] at qa'; cases qa'
      refine ⟨a, ys, rfl, .inl hs, fun t ht => ?_⟩
      obtain ⟨e2, rs2, r2⟩ := lst_new rs ht rx
      exact p _ _ _ e2 rs2 r2
    · exact False.elim p
  · exact False.elim p
def bools : List D → Option (List Bool)
  | [] => some []
  | .bl b :: r => (bools r).map fun bs => b :: bs
  | _ :: _ => none
theorem RDs.bools {g : G} {q : List Addr} {H : Hp} : ∀ {vs : List V} {ds : List D} {bs : List Bool}, RDs g q H vs ds → bools ds = some bs → vs = bs.map V.bl
  | _, _, _, .nil, e => by cases e; rfl
  | _, _, bs, .cons (d := .bl b) r t, e => by
    unfold VL.bools at e
    obtain ⟨cs, h1, h2⟩ := Option.map_eq_some_iff.mp e
    subst h2
    rw [r.bl_inv, RDs.bools t h1]
    rfl
  | _, _, _, .cons (d := .non) r t, e => nomatch e
  | _, _, _, .cons (d := .int _) r t, e => nomatch e
  | _, _, _, .cons (d := .str _) r t, e => nomatch e
  | _, _, _, .cons (d := .tup _) r t, e => nomatch e
  | _, _, _, .cons (d := .ref _) r t, e => nomatch e
  | _, _, _, .cons (d := .glb _) r t, e => nomatch e
  | _, _, _, .cons (d := .ty _) r t, e => nomatch e
def allD : List D → Sto → R D
  | [.ref n], st => match (listAt st n).bind bools with
    | some bs => .ok (.bl (bs.all id)) st
    | none => .bad
  | _, _ => .bad
theorem call_allD (hc : X.calm = true) : CallR X (.builtin "all") (LC (gOf B X) E allD) := (cr_all hc).imp fun vs H Q w => by
  obtain ⟨q, st, ds, rs, rd, p⟩ := w
  unfold allD at p
  split at p
  · split at p
    · rename_i bs e
      obtain ⟨xs, e1, e2⟩ := Option.bind_eq_some_iff.mp e
      obtain ⟨v, rfl, r⟩ := rd.one_inv
      obtain ⟨a, ys, qa, hs, rx⟩ := rs.listAt e1
      obtain ⟨a', rfl, qa'⟩ := r.ref_inv
      rw [qa] at qa'; cases qa'
      rw [rx.bools e2] at hs
      exact ⟨a, bs, rfl, hs, p q _ H Ext.refl rs (.bl _)⟩
    · exact False.elim p
  · exact False.elim p
/-- a method of a built-in type: the receiver and the arguments -/
def LM (g : G) (E : XK) (f : D → List D → Sto → R D) : V → List V → Hp → VK → Prop := fun v vs H Q => ∃ q st d ds, RS g q H st ∧ RD g q H v d ∧ RDs g q H vs ds ∧ (f d ds st).post (KV g q H Q) (KX g q H E)
/-- the receiver's built-in type, as a method is looked up -/
def tyD (T : String) (d : D) (st : Sto) : Prop := match d with
  | .str _ => T = "str"
  | .ref n => (T = "list" ∧ (listAt st n).isSome = true) ∨ (T = "dict" ∧ ∃ kvs, st[n]? = some (.dic kvs))
  | _ => False
theorem tyD_is {g : G} {q : List Addr} {H : Hp} {st : Sto} {T : String} {pins : List (Addr × Obj)} {sg : L2.St} {s : Shared} {x : V} {d : D} {v : Value} (I : Inv X pins sg H s) (rs : RS (gOf B X) q H st) (rx : RD (gOf B X) q H x d) (r : RelV x v) (ty : tyD T d st) :
    s.TypeIs v T ∧ ∀ a, v = .ref a → ∃ ob, s.heap.get? a = some ob ∧ ob.dict = none := by
  cases d with
  | str z =>
    refine tyV_is (T := T) I r ?_
    rw [rx.str_inv]
    exact ty
  | ref n =>
    obtain ⟨a, rfl, qa⟩ := rx.ref_inv
    rcases ty with ⟨rfl, h⟩ | ⟨rfl, kvs, h⟩
    · obtain ⟨ds, h⟩ := Option.isSome_iff_exists.mp h
      obtain ⟨b, xs, qb, hs, _⟩ := rs.listAt h
      rw [qa] at qb; cases qb
      exact tyV_is (T := "list") I r (.inl ⟨rfl, xs, hs⟩)
    · obtain ⟨b, qb, hb⟩ := rs.get h
      rw [qa] at qb; cases qb
      rcases hb with ⟨gs, hk, _⟩ | ⟨_, xs, hk, _⟩
      · exact tyV_is (T := "dict") I r (.inr (.inr (.inl ⟨rfl, .inl ⟨gs, hk⟩⟩)))
      · cases r
        obtain ⟨⟨_, o, es, ep, e, ex, _⟩, _⟩ := I.hok a _ hk
        exact ⟨⟨o, e, ex.1⟩, fun b eb => by cases eb; exact ⟨o, e, ex.2.1⟩⟩
  | _ => exact False.elim ty
open Classical in
noncomputable def methF (T : String) (f : D → List D → Sto → R D) (fo : EF) (fa : AF) : EF := fun env st => (fo env st).bind fun d s => if tyD T d s then (fa env s).bind fun ds s' => f d ds s' else .bad
theorem le_bm {T id : String} {f : D → List D → Sto → R D} {o e : Expr} {es : List Expr} {name : Str} {apos cpos : Pos} {fo : EF} {fa : AF} (pa : PlainAttrs T) (slot : Slot T name id) (hty : typeOf (.builtin id) = pure (.type "method_descriptor")) (hm : MtR X id (LM (gOf B X) E f)) (ho : PE X o (LE (gOf B X) E fo)) (ha : PA X (e :: es) (LA (gOf B X) E fa))
    (hbase : attributeBase o name X.env (eval o X.env) = eval o X.env := by rfl)
    (hfew : ((backTo cpos (starEach (e :: es) X.env)).all (fun x => !x.1) && (backToKw cpos (keywordEach [] X.env)).all (fun x => x.1.isSome)
      && decide ((e :: es).length + ([] : List Keyword).length + (if ([] : List Keyword).isEmpty then 0 else 1) < 30)) = true := by rfl)
    (hline : (apos.endLine == cpos.line) = true := by rfl) (hs : starEach (e :: es) X.env = (false, eval e X.env) :: starEach es X.env := by rfl) (hplain : (backTo cpos (starEach es X.env)).any (·.1) = false := by rfl) :
    PE X (.Call (.Attribute o name apos) (e :: es) [] cpos) (LE (gOf B X) E (methF T f fo fa)) := by
  refine ⟨fun pins s sg H Q I w => ?_⟩
  obtain ⟨q, env, st, rs, re, p⟩ := w
  have w2 : LE (gOf B X) E fo sg H (fun x H1 => ∃ q1 s1 d, RS (gOf B X) q1 H1 s1 ∧ RD (gOf B X) q1 H1 x d ∧ tyD T d s1 ∧ LA (gOf B X) E fa sg H1 fun vs H2 => LM (gOf B X) E f x vs H2 Q) := by
    refine LE.chain rs re (R.post_bind.mp p) fun d s1 q1 v H1 p e1 rs1 re1 rx => ?_
    by_cases ht : tyD T d s1
    · rw [if_pos ht] at p
      refine ⟨q1, s1, d, rs1, rx, ht, ?_⟩
      refine LA.chain rs1 re1 ((R.post_bind.mp p).imp (fun _ _ h => h) fun _ _ h => h.ext e1) fun ds s2 q2 vs H2 p e2 rs2 re2 rd => ?_
      exact ⟨q2, s2, d, ds, rs2, rx.ext e2, rd, p.imp (fun _ _ h => h.ext (e1.trans e2)) fun _ _ h => h.ext (e1.trans e2)⟩
    · rw [if_neg ht] at p
      exact False.elim p
  refine wpAny_Call_method_late hbase hfew hline rfl (thn (ho.run pins s sg H _ I w2) fun v s1 ⟨x, H1, I1, r1, q1, st1, d, rs1, rx, ty, w3⟩ => ?_)
  obtain ⟨h1, h2⟩ := tyD_is (g := gOf B X) I1 rs1 rx r1 ty
  refine ⟨T, id, pa, slot, hty, h1, h2, ?_⟩
  have hA := ha.run cpos pins s1 sg H1 _ I1 w3
  rw [hs] at hA ⊢
  refine Calls.callWith_builtin (by show (false || (backTo cpos (starEach es X.env)).any (·.1)) = false; rw [hplain] <;> rfl) (Calls.evalArgs_plain ?_)
  exact thn hA fun us s2 ⟨vs, H2, I2, r2, q2⟩ => hm pins s2 sg H2 x vs v us Q I2 r1 r2 q2
theorem le_bm0 {T id : String} {f : D → List D → Sto → R D} {o : Expr} {name : Str} {apos cpos : Pos} {fo : EF} (pa : PlainAttrs T) (slot : Slot T name id) (hty : typeOf (.builtin id) = pure (.type "method_descriptor")) (hm : MtR X id (LM (gOf B X) E f)) (ho : PE X o (LE (gOf B X) E fo))
    (hbase : attributeBase o name X.env (eval o X.env) = eval o X.env := by rfl) (hline : (apos.endLine == cpos.line) = true := by rfl) : PE X (.Call (.Attribute o name apos) [] [] cpos) (LE (gOf B X) E (methF T f fo nilA)) := by
  refine ⟨fun pins s sg H Q I w => ?_⟩
  obtain ⟨q, env, st, rs, re, p⟩ := w
  have w2 : LE (gOf B X) E fo sg H (fun x H1 => ∃ q1 s1 d, RS (gOf B X) q1 H1 s1 ∧ RD (gOf B X) q1 H1 x d ∧ tyD T d s1 ∧ LM (gOf B X) E f x [] H1 Q) := by
    refine LE.chain rs re (R.post_bind.mp p) fun d s1 q1 v H1 p e1 rs1 re1 rx => ?_
    by_cases ht : tyD T d s1
    · rw [if_pos ht] at p
      exact ⟨q1, s1, d, rs1, rx, ht, q1, s1, d, [], rs1, rx, .nil, (show (f d [] s1).post _ _ from p).imp (fun _ _ h => h.ext e1) fun _ _ h => h.ext e1⟩
    · rw [if_neg ht] at p
      exact False.elim p
  refine wpAny_Call_method0_late hbase hline (thn (ho.run pins s sg H _ I w2) fun v s1 ⟨x, H1, I1, r1, q1, st1, d, rs1, rx, ty, w3⟩ => ?_)
  obtain ⟨h1, h2⟩ := tyD_is (g := gOf B X) I1 rs1 rx r1 ty
  exact ⟨T, id, pa, slot, hty, h1, h2, Calls.callWith_builtin rfl (PySem.evalArgs_none (hm pins s1 sg H1 x [] v [] Q I1 r1 .nil w3))⟩
def appD : D → List D → Sto → R D
  | .ref n, [d], st => match st[n]? with
    | some (.lst xs) => if xs.length < sizeLine then .ok .non (st.set n (.lst (xs ++ [d]))) else .bad
    | _ => .bad
  | _, _, _ => .bad
theorem lst_put {g : G} {q : List Addr} {H : Hp} {st : Sto} {n : Nat} {ds es : List D} {a : Addr} {xs ys : List V} (rs : RS g q H st) (h : st[n]? = some (.lst ds)) (qa : q[n]? = some a) (ha : H a = some (.lst xs)) (r : RDs g q H ys es) :
    RS g q (upd H a (.lst ys)) (st.set n (.lst es)) ∧ Ext q H q (upd H a (.lst ys)) := by
  have mu : Mut (H a) := by rw [ha]; trivial
  exact rs.put' qa (fun zs e => by rw [h] at e; cases e) mu (fun φ e => by rw [ha] at e; cases e) (fun ps e => by cases e) fun ext => ⟨ys, upd_same, r.ext ext⟩
theorem mt_appD : MtR X "list.append" (LM (gOf B X) E appD) := MtR.imp mt_append fun x vs H Q w => by
  obtain ⟨q, st, d, ds, rs, rx, rd, p⟩ := w
  unfold appD at p
  split at p
  · rename_i n e
    split at p
    · rename_i xs hx
      split at p
      · rename_i hz
        obtain ⟨y, rfl, ry⟩ := rd.one_inv
        obtain ⟨a, ys, qa, ha, r⟩ := rs.lstAt hx
        obtain ⟨a', rfl, qa'⟩ := rx.ref_inv
        rw [qa] at qa'; cases qa'
        obtain ⟨rs2, e2⟩ := lst_put rs hx qa ha (r.append (.cons ry .nil))
        exact ⟨a, ys, y, rfl, rfl, ha, by rw [r.length]; exact hz, p q _ _ e2 rs2 .non⟩
      · exact False.elim p
    · exact False.elim p
  · exact False.elim p
end
end VL
namespace L2
open PySem PySem.Spec PyProof.Rows
theorem PI.imp {X : Cx} {tg e : Expr} {t t' : TI} (h : PI X tg e t) (i : ∀ sg H R, t' sg H R → t sg H R) : PI X tg e t' := ⟨fun pins s sg H R I w => h.run pins s sg H R I (i _ _ _ w)⟩
theorem PTs.imp {X : Cx} {e : List Expr} {t t' : TT} (h : PTs X e t) (i : ∀ sg H Q, t' sg H Q → t sg H Q) : PTs X e t' := ⟨fun pins s sg H Q I w => h.run pins s sg H Q I (i _ _ _ w)⟩
section
variable {X : Cx} {tg : Expr} {pins : List (Addr × Obj)} {σ : L2.St} {H : Hp} {s : Shared} {R : It → Hp → Prop} {a : Addr} {xs : List V}
theorem iter_l (I : Inv X pins σ H s) (hq : SqL X.K H a xs) (q : R (Itl X.K a) H) : wpAny (model X.prog X.w) X.A (pyIter (.ref a)) (PIE X pins σ tg R) X.xe s := by
  obtain ⟨its, rv, p, hz⟩ := I.list hq
  refine wpAny_pyIter_list p.isList ?_
  refine ⟨s.heap.objs.size, [s.heap.objs.size], _, _, H, rfl, I.kept (t' := s.toks) fun b o e => Heap.get?_push_of_some _ e, turn_list a _, ⟨_, Heap.get?_push_size _ rfl, rfl, rfl⟩, fun b hb => ?_, q⟩
  have e : b = s.heap.objs.size := by simpa using hb
  subst e
  exact I.fpOk (Nat.le_refl _) (I.hok.fresh (Nat.le_refl _))
theorem iter_t (I : Inv X pins σ H s) (hq : SqT X.K H a xs) (q : R (Itt X.K a) H) : wpAny (model X.prog X.w) X.A (pyIter (.ref a)) (PIE X pins σ tg R) X.xe s := by
  obtain ⟨its, rv, p, hz⟩ := I.tuple hq
  refine wpAny_pyIter_tuple (show s.heap.IsTuple a its.toArray from p) ?_
  refine ⟨s.heap.objs.size, [s.heap.objs.size], _, _, H, rfl, I.kept (t' := s.toks) fun b o e => Heap.get?_push_of_some _ e, turn_tuple a _, ⟨_, Heap.get?_push_size _ rfl, rfl, rfl⟩, fun b hb => ?_, q⟩
  have e : b = s.heap.objs.size := by simpa using hb
  subst e
  exact I.fpOk (Nat.le_refl _) (I.hok.fresh (Nat.le_refl _))
theorem iter_s {x : Str} {t : Tok} (I : Inv X pins σ H s) (q : R (Its x) H) : wpAny (model X.prog X.w) X.A (pyIter (.str x t)) (PIE X pins σ tg R) X.xe s := by
  cases ha : x.cps.all (· < 128)
  · exact wpAny_pyIter_wide ha (pi_one (tk := s.toks) I _ (turn_str _ x t "str_iterator" (.inr rfl)) ⟨_, Heap.get?_push_size _ rfl, rfl, rfl⟩ q)
  · exact wpAny_pyIter_ascii ha (pi_one (tk := s.toks) I _ (turn_str _ x t "str_ascii_iterator" (.inl rfl)) ⟨_, Heap.get?_push_size _ rfl, rfl, rfl⟩ q)
end
end L2
namespace VL
open PySem PySem.Spec PyProof.Rows L2 RZ RT LamX NdefX
variable {B : Tb}
abbrev Chk := List (Nat × O)
def ChkOk (c : Chk) (st : Sto) : Prop := ∀ p ∈ c, st[p.1]? = some p.2
theorem ChkOk.nil {st : Sto} : ChkOk [] st := fun _ h => nomatch h
theorem ChkOk.one {st : Sto} {n : Nat} {o : O} (h : st[n]? = some o) : ChkOk [(n, o)] st := fun p hp => by
  rw [List.mem_singleton] at hp
  subst hp
  exact h
def chkAt (st : Sto) (n : Nat) : Chk := match st[n]? with
  | some o => [(n, o)]
  | none => []
theorem chkAt_list {st st' : Sto} {n : Nat} {xs : List D} (h : listAt st n = some xs) (c : ChkOk (chkAt st n) st') : listAt st' n = some xs := by
  unfold listAt at h
  split at h
  · rename_i ys e
    cases h
    unfold chkAt at c
    rw [e] at c
    exact listAt_lst (c _ (List.mem_singleton.mpr rfl))
  · rename_i ys e
    cases h
    unfold chkAt at c
    rw [e] at c
    exact listAt_rl (c _ (List.mem_singleton.mpr rfl))
  · cases h
abbrev ItF := EnvD → Sto → R (List D × Chk)
def Walks (g : G) (J : It) (q : List Addr) (H : Hp) (p : List D × Chk) : Prop := ∀ i q' H' st', Ext q H q' H' → RS g q' H' st' → ChkOk p.2 st' →
  (p.1.length ≤ i → J.stop i H') ∧ ∀ d, p.1[i]? = some d → J.go i H' ∧ ∀ x H2, J.yld i H' x H2 → Ext q' H' q' H2 ∧ RS g q' H2 st' ∧ RD g q' H2 x d
def KI (g : G) (q : List Addr) (H : Hp) (R : It → Hp → Prop) : List D × Chk → Sto → Prop := fun p st => ∀ q' H' J, Ext q H q' H' → RS g q' H' st → Walks g J q' H' p → R J H'
theorem KI.ext {g : G} {q q' : List Addr} {H H' : Hp} {R : It → Hp → Prop} (e : Ext q H q' H') {p : List D × Chk} {st : Sto} (k : KI g q H R p st) : KI g q' H' R p st := fun q2 H2 J e2 r m => k q2 H2 J (e.trans e2) r m
def LI (g : G) (E : XK) (f : ItF) : TI := fun sg H R => ∃ q env st, RS g q H st ∧ RE g q H sg env ∧ (f env st).post (KI g q H R) (KX g q H E)
theorem RDs.inj_get {g : G} {q : List Addr} {H : Hp} {xs : List V} {ds : List D} (r : RDs g q H xs ds) {i : Nat} {x : V} {d : D} (h1 : xs[i]? = some x) (h2 : ds[i]? = some d) : RD g q H x d := by
  obtain ⟨v, h3, h4⟩ := r.get h2
  rw [h1] at h3; cases h3
  exact h4
theorem walks_l {g : G} {q : List Addr} {H : Hp} {n : Nat} {a : Addr} {ds : List D} {c : Chk} (qa : q[n]? = some a) (hc : ∀ st', ChkOk c st' → listAt st' n = some ds) : Walks g (Itl g.K a) q H (ds, c) := by
  intro i q' H' st' e rs ok
  obtain ⟨b, xs, qb, hs, r⟩ := rs.listAt (hc st' ok)
  rw [e.at qa] at qb; cases qb
  refine ⟨fun hi => ⟨xs, hs, by rw [r.length]; exact hi⟩, fun d hd => ?_⟩
  obtain ⟨x, hx, rx⟩ := r.get hd
  refine ⟨⟨xs, x, hs, hx⟩, fun y H2 ⟨e2, hy⟩ => ?_⟩
  subst e2
  exact ⟨Ext.refl, rs, r.inj_get (hy xs hs) hd⟩
theorem walks_t {g : G} {q : List Addr} {H : Hp} {a : Addr} {xs : List V} {ds : List D} {c : Chk} (hs : SqT g.K H a xs) (r : RDs g q H xs ds) : Walks g (Itt g.K a) q H (ds, c) := by
  intro i q' H' st' e rs ok
  have hs' := sqT_ext e hs
  have r' := r.ext e
  refine ⟨fun hi => ⟨xs, hs', by rw [r.length]; exact hi⟩, fun d hd => ?_⟩
  obtain ⟨x, hx, rx⟩ := r'.get hd
  refine ⟨⟨xs, x, hs', hx⟩, fun y H2 ⟨e2, hy⟩ => ?_⟩
  subst e2
  exact ⟨Ext.refl, rs, r'.inj_get (hy xs hs') hd⟩
def signs (x : Str) : List D := x.cps.toList.map fun c => .str ⟨#[c]⟩
theorem walks_s {g : G} {q : List Addr} {H : Hp} {x : Str} {c : Chk} : Walks g (Its x) q H (signs x, c) := by
  intro i q' H' st' e rs ok
  refine ⟨fun hi => ?_, fun d hd => ?_⟩
  · show x.cps.size ≤ i
    have : (signs x).length = x.cps.size := by simp [signs]
    rw [← this]; exact hi
  · have hd : (signs x)[i]? = some d := hd
    unfold signs at hd
    rw [List.getElem?_map] at hd
    obtain ⟨k, hk, rfl⟩ := Option.map_eq_some_iff.mp hd
    have hk' : x.cps[i]? = some k := by simpa using hk
    refine ⟨(Array.getElem?_eq_some_iff.mp hk').1, fun y H2 ⟨e2, k', h1, h2⟩ => ?_⟩
    subst e2
    rw [hk'] at h1; cases h1
    subst h2
    exact ⟨Ext.refl, rs, .str _⟩
/-- over a list, a tuple, a text -/
def itD (d : D) (st : Sto) : R (List D × Chk) := match d with
  | .tup ds => .ok (ds, []) st
  | .str x => .ok (signs x, []) st
  | .ref n => match listAt st n with
    | some ds => .ok (ds, chkAt st n) st
    | none => .bad
  | _ => .bad
def itF (f : EF) : ItF := fun env st => (f env st).bind itD
section
variable {X : Cx} {E : XK} {tg : Expr}
theorem li_seq {e : Expr} {f : EF} (he : PE X e (LE (gOf B X) E f)) : PI X tg e (LI (gOf B X) E (itF f)) := by
  refine ⟨fun pins s sg H RR I w => ?_⟩
  obtain ⟨q, env, st, rs, re, p⟩ := w
  have w2 : LE (gOf B X) E f sg H (fun x H1 => ∃ q1 s1 d, RS (gOf B X) q1 H1 s1 ∧ RD (gOf B X) q1 H1 x d ∧ (itD d s1).post (KI (gOf B X) q1 H1 RR) (KX (gOf B X) q1 H1 E)) :=
    LE.chain rs re (R.post_bind.mp p) fun d s1 q1 v H1 p e1 rs1 re1 rx => ⟨q1, s1, d, rs1, rx, p.imp (fun _ _ h => h.ext e1) fun _ _ h => h.ext e1⟩
  refine thn (he.run pins s sg H _ I w2) fun v s1 ⟨x, H1, I1, r1, q1, st1, d, rs1, rx, p⟩ => ?_
  cases d with
  | tup ds =>
    obtain ⟨a, xs, rfl, hs, r⟩ := rx.tup_inv
    cases r1
    exact iter_t I1 hs (p q1 H1 _ Ext.refl rs1 (walks_t hs r))
  | str z =>
    rw [rx.str_inv] at r1
    obtain ⟨t, rfl⟩ := r1
    exact iter_s I1 (p q1 H1 _ Ext.refl rs1 walks_s)
  | ref n =>
    have p : (match listAt st1 n with | some ds => .ok (ds, chkAt st1 n) st1 | none => .bad : R (List D × Chk)).post _ _ := p
    split at p
    · rename_i ds e
      obtain ⟨a, xs, qa, hs, r⟩ := rs1.listAt e
      obtain ⟨a', rfl, qa'⟩ := rx.ref_inv
      rw [qa] at qa'; cases qa'
      cases r1
      exact iter_l I1 hs (p q1 H1 _ Ext.refl rs1 (walks_l qa fun st' ok => chkAt_list e ok))
    · exact False.elim p
  | _ => exact False.elim p
def intsD (lo c : Int) (n : Nat) : List D := (List.range n).map fun i => .int (lo + (i : Nat) * c)
theorem intsD_len {lo c : Int} {n : Nat} : (intsD lo c n).length = n := by simp [intsD]
theorem intsD_get {lo c : Int} {n i : Nat} {d : D} (h : (intsD lo c n)[i]? = some d) : i < n ∧ d = .int (lo + (i : Nat) * c) := by
  have h1 : i < n := by have l := (List.getElem?_eq_some_iff.mp h).1; rw [intsD_len] at l; exact l
  unfold intsD at h
  rw [List.getElem?_map, List.getElem?_range h1] at h
  exact ⟨h1, (Option.some.inj h).symm⟩
theorem walks_r {g : G} {q : List Addr} {H : Hp} {lo : Int} {n : Nat} {c : Chk} : Walks g (Itr lo n) q H (intsD lo 1 n, c) := by
  intro i q' H' st' e rs ok
  refine ⟨fun hi => ?_, fun d hd => ?_⟩
  · rw [intsD_len] at hi; exact hi
  · obtain ⟨h1, h2⟩ := intsD_get hd
    refine ⟨h1, fun y H2 ⟨e2, h3⟩ => ?_⟩
    subst e2
    subst h2 h3
    rw [Int.mul_one]
    exact ⟨Ext.refl, rs, .int _⟩
def rng1D : List D → Sto → R (List D × Chk)
  | [.int j], st => if -(2 ^ 62) ≤ j ∧ j < 2 ^ 62 then .ok (intsD 0 1 j.toNat, []) st else .bad
  | _, _ => .bad
def itA (f : List D → Sto → R (List D × Chk)) (fa : AF) : ItF := fun env st => (fa env st).bind f
theorem itA_le {f : List D → Sto → R (List D × Chk)} {fa : AF} {sg : L2.St} {H : Hp} {RR : It → Hp → Prop} (w : LI (gOf B X) E (itA f fa) sg H RR) {T : List V → Hp → Prop}
    (k : ∀ q st ds vs H, RS (gOf B X) q H st → RDs (gOf B X) q H vs ds → (f ds st).post (KI (gOf B X) q H RR) (KX (gOf B X) q H E) → T vs H) : LA (gOf B X) E fa sg H T := by
  obtain ⟨q, env, st, rs, re, p⟩ := w
  exact LA.chain rs re (R.post_bind.mp p) fun ds s1 q1 vs H1 p e1 rs1 re1 rx => k q1 s1 ds vs H1 rs1 rx (p.imp (fun _ _ h => h.ext e1) fun _ _ h => h.ext e1)
theorem li_rng1 {a : Expr} {fa : AF} {p pos : Pos} (hg : Gl X "range") (hm : X.mg "range" = none) (ha : PA X [a] (LA (gOf B X) E fa)) (hs : starEach [a] X.env = [(false, eval a X.env)] := by rfl) : PI X tg (.Call (.Name "range" p) [a] [] pos) (LI (gOf B X) E (itA rng1D fa)) :=
  (pi_range1 hg hm ha hs).imp fun sg H RR w => itA_le w fun q st ds vs H rs rd p => by
    unfold rng1D at p
    split at p
    · split at p
      · rename_i h
        obtain ⟨v, rfl, r⟩ := rd.one_inv
        rw [r.int_inv]
        exact ⟨_, rfl, h.1, h.2, p q H _ Ext.refl rs walks_r⟩
      · exact False.elim p
    · exact False.elim p
open Classical in
noncomputable def forL (c : Chk) (gf : GF) (body : SF) : List D → EnvD → Sto → R Fl
  | [], env, st => if ChkOk c st then .ok (.nx env) st else .bad
  | x :: r, env, st => if ChkOk c st then (gf x env st).bind fun e s => (body e s).bind fun fl s' => match fl with
      | .nx e' => forL c gf body r e' s'
      | .ct e' => forL c gf body r e' s'
      | .bk e' => .ok (.nx e') s'
      | .rt d => .ok (.rt d) s'
    else .bad
noncomputable def forS (it : ItF) (gf : GF) (body : SF) : SF := fun env st => (it env st).bind fun p s => forL p.2 gf body p.1 env s
theorem drop_cons {A : Type} {l : List A} {i : Nat} {x : A} (h : l[i]? = some x) : l.drop i = x :: l.drop (i + 1) := by
  obtain ⟨hl, e⟩ := List.getElem?_eq_some_iff.mp h
  rw [List.drop_eq_getElem_cons hl, e]
theorem ls_for {iter : Expr} {body : List Stmt} {it : ItF} {gf : GF} {fb : SF} {pos : Pos} (hp : PassesOwn (model X.prog X.w) X.A X.env X.xe) (hc : X.calm = true) (hi : PI X tg iter (LI (gOf B X) E it)) (hg : PG X tg (LG (gOf B X) E gf)) (hb : PSs X body (LS (gOf B X) E fb))
    (hs : ∀ x, foldedSetIterable iter X.env x = pure x := by intro _; rfl) : PS X (.For tg iter body [] pos) (LS (gOf B X) E (forS it gf fb)) := (ps_for hp hc hi hg hb hs).imp fun T sg H w => by
  obtain ⟨q, env, st, rs, re, p⟩ := w
  refine ⟨q, env, st, rs, re, (R.post_bind.mp p).imp (fun pr s1 p q1 H1 J e1 rs1 wk => ?_) fun _ _ h => h⟩
  obtain ⟨ds, c⟩ := pr
  refine ⟨fun i m sg2 H2 => ∃ q2 env2 st2, RS (gOf B X) q2 H2 st2 ∧ RE (gOf B X) q2 H2 sg2 env2 ∧ Ext q1 H1 q2 H2 ∧ i ≤ ds.length ∧ m = ds.length - i ∧ (forL c gf fb (ds.drop i) env2 st2).post (KS (gOf B X) q2 H2 T) (KX (gOf B X) q2 H2 E),
    ⟨_, q1, env, s1, rs1, re.ext e1, Ext.refl, Nat.zero_le _, rfl, (show (forL c gf fb ds env s1).post _ _ from p).imp (fun _ _ h => h.ext e1) fun _ _ h => h.ext e1⟩, ?_⟩
  rintro i m sg2 H2 ⟨q2, env2, st2, rs2, re2, e2, hil, rfl, p⟩
  by_cases hlt : i < ds.length
  · have hd : ds[i]? = some ds[i] := List.getElem?_eq_getElem hlt
    rw [drop_cons hd] at p
    unfold forL at p
    by_cases ok : ChkOk c st2
    · rw [if_pos ok] at p
      obtain ⟨go, yld⟩ := (wk i q2 H2 st2 e2 rs2 ok).2 _ hd
      refine .inr ⟨go, fun sg3 H3 => ∃ q3 env3 st3, RS (gOf B X) q3 H3 st3 ∧ RE (gOf B X) q3 H3 sg3 env3 ∧ Ext q1 H1 q3 H3 ∧ (forL c gf fb (ds.drop (i + 1)) env3 st3).post (KS (gOf B X) q3 H3 T) (KX (gOf B X) q3 H3 E), ?_, fun x H3 y => ?_⟩
      · rintro sg3 H3 ⟨q3, env3, st3, rs3, re3, e3, p3⟩
        exact ⟨ds.length - (i + 1), by omega, q3, env3, st3, rs3, re3, e3, by omega, rfl, p3⟩
      · obtain ⟨e3, rs3, rx⟩ := yld x H3 y
        refine ⟨q2, _, env2, st2, rs3, re2.ext e3, rx, (R.post_bind.mp p).imp (fun en s4 p q4 H4 sg4 e4 rs4 re4 => ?_) fun _ _ h => h.ext e3⟩
        refine ⟨q4, en, s4, rs4, re4, (R.post_bind.mp p).imp (fun fl s5 p q5 H5 e5 rs5 => ?_) fun _ _ h => h.ext (e3.trans e4)⟩
        have e25 : Ext q2 H2 q5 H5 := e3.trans (e4.trans e5)
        cases fl with
        | nx e => exact fun sg5 re5 => ⟨q5, e, s5, rs5, re5, e2.trans e25, (show (forL c gf fb (ds.drop (i + 1)) e s5).post _ _ from p).imp (fun _ _ h => h.ext e25) fun _ _ h => h.ext e25⟩
        | ct e => exact fun sg5 re5 => ⟨q5, e, s5, rs5, re5, e2.trans e25, (show (forL c gf fb (ds.drop (i + 1)) e s5).post _ _ from p).imp (fun _ _ h => h.ext e25) fun _ _ h => h.ext e25⟩
        | bk e => exact fun sg5 re5 => p q5 H5 e25 rs5 sg5 re5
        | rt d => exact fun v rv => p q5 H5 e25 rs5 v rv
    · rw [if_neg ok] at p
      exact False.elim p
  · have e : i = ds.length := by omega
    subst e
    rw [List.drop_length] at p
    unfold forL at p
    by_cases ok : ChkOk c st2
    · rw [if_pos ok] at p
      exact .inl ⟨(wk _ q2 H2 st2 e2 rs2 ok).1 (Nat.le_refl _), p q2 H2 Ext.refl rs2 sg2 re2⟩
    · rw [if_neg ok] at p
      exact False.elim p
def wipeE (env : EnvD) : List Nat → EnvD
  | [] => env
  | v :: vs => (wipeE env vs).set v none
theorem RE.wipe {g : G} {q : List Addr} {H : Hp} {sg : L2.St} {env : EnvD} (r : RE g q H sg env) : ∀ vs : List Nat, RE g q H (wipe sg vs) (wipeE env vs)
  | [] => r
  | v :: vs => Paired.set_ (fun x e => nomatch e) v (RE.wipe r vs)
/-- a target that stores names of vs alone -/
def LGw (g : G) (E : XK) (vs : List Nat) (f : GF) : TG := fun v sg H Q => ∃ q d env st, RS g q H st ∧ RE g q H sg env ∧ RD g q H v d ∧ (f d env st).post (fun e st' => ∀ q' H' sg', Ext q H q' H' → RS g q' H' st' → RE g q' H' sg' e → wipe sg' vs = wipe sg vs → Q sg' H') (KX g q H E)
def LGws (g : G) (E : XK) (vs : List Nat) (f : List D → EnvD → Sto → R EnvD) : TGs := fun xs sg H Q => ∃ q ds env st, RS g q H st ∧ RE g q H sg env ∧ RDs g q H xs ds ∧ (f ds env st).post (fun e st' => ∀ q' H' sg', Ext q H q' H' → RS g q' H' st' → RE g q' H' sg' e → wipe sg' vs = wipe sg vs → Q sg' H') (KX g q H E)
theorem wipe_set {sg : L2.St} {i : Nat} {v : Option V} : ∀ {vs : List Nat}, i ∈ vs → wipe (sg.set i v) vs = wipe sg vs
  | j :: vs, h => by
    unfold wipe
    by_cases hj : i ∈ vs
    · rw [wipe_set hj]
    · have e : i = j := by
        rcases List.mem_cons.mp h with e | e
        · exact e
        · exact absurd e hj
      subst e
      have comm : ∀ {ws : List Nat}, i ∉ ws → wipe (sg.set i v) ws = (wipe sg ws).set i v := by
        intro ws
        induction ws with
        | nil => intro _; rfl
        | cons w ws ih =>
          intro hn
          unfold wipe
          rw [ih (fun z => hn (List.mem_cons_of_mem _ z))]
          exact List.set_comm _ _ (fun z => hn (by rw [z]; exact List.mem_cons_self))
      rw [comm hj, List.set_set]
theorem lgw_name {e : Expr} {i : Nat} {vs : List Nat} (h : PG X e (gName i)) (hi : i ∈ vs) : PG X e (LGw (gOf B X) E vs (nameG i)) := h.imp fun v sg H Q w => by
  obtain ⟨q, d, env, st, rs, re, rd, p⟩ := w
  exact p q H _ Ext.refl rs (re.set rd) (wipe_set hi)
theorem lgws_nil {vs : List Nat} : PGs X [] (LGws (gOf B X) E vs nilG) := pgs_nil.imp fun xs sg H Q w => by
  obtain ⟨q, ds, env, st, rs, re, rd, p⟩ := w
  cases rd with
  | nil => exact ⟨rfl, p q H sg Ext.refl rs re rfl⟩
  | cons _ _ => exact False.elim p
theorem lgws_cons {e : Expr} {es : List Expr} {f : GF} {r : List D → EnvD → Sto → R EnvD} {vs : List Nat} (h1 : PG X e (LGw (gOf B X) E vs f)) (h2 : PGs X es (LGws (gOf B X) E vs r))
    (hs : (assignEach (e :: es) X.env).map (·.2) = assign e X.env :: (assignEach es X.env).map (·.2) := by rfl) : PGs X (e :: es) (LGws (gOf B X) E vs (consG f r)) := (pgs_cons h1 h2 hs).imp fun xs sg H Q w => by
  obtain ⟨q, ds, env, st, rs, re, rd, p⟩ := w
  cases rd with
  | nil => exact False.elim p
  | cons rd rds =>
    refine ⟨_, _, rfl, q, _, env, st, rs, re, rd, (R.post_bind.mp p).imp (fun e1 s1 p q1 H1 sg1 x1 rs1 re1 hw => ?_) fun _ _ h => h⟩
    exact ⟨q1, _, e1, s1, rs1, re1, rds.ext x1, (show (r _ e1 s1).post _ _ from p).imp (fun e2 s2 p q2 H2 sg2 x2 rs2 re2 hw2 => p q2 H2 sg2 (x1.trans x2) rs2 re2 (hw2.trans hw)) fun _ _ h => h.ext x1⟩
theorem lgw_tup {es : List Expr} {k : Nat} {f : List D → EnvD → Sto → R EnvD} {n : Nat} {vs : List Nat} {pos : Pos} (hc : X.calm = true) (h : PGs X es (LGws (gOf B X) E vs f))
    (hn : (assignEach es X.env).length = n := by rfl) (hst : (assignEach es X.env).findIdx? (·.1) = none := by rfl) : PG X (.Tuple es k pos) (LGw (gOf B X) E vs (tupG n f)) := (pg_tup hc h hn hst).imp fun v sg H Q w => by
  obtain ⟨q, d, env, st, rs, re, rd, p⟩ := w
  cases d with
  | tup ds =>
    obtain ⟨a, xs, rfl, hs, rx⟩ := rd.tup_inv
    by_cases hl : ds.length = n
    · have z : tupG n f (.tup ds) env st = f ds env st := if_pos hl
      rw [z] at p
      exact ⟨a, xs, rfl, hs, by rw [rx.length]; exact hl, q, ds, env, st, rs, re, rx, p⟩
    · have z : tupG n f (.tup ds) env st = .bad := if_neg hl
      rw [z] at p
      exact False.elim p
  | _ => exact False.elim p
open Classical in
noncomputable def lcL (c : Chk) (gf : GF) (tt : TF) (te : EF) (env : EnvD) (n : Nat) : List D → Sto → R Unit
  | [], st => if ChkOk c st then .ok () st else .bad
  | x :: r, st => if ChkOk c st then (gf x env st).noex.bind fun e s => (tt e s).noex.bind fun b s1 => if b = true then (te e s1).noex.bind fun d s2 => match s2[n]? with
        | some (.lst acc) => if acc.length < sizeLine then lcL c gf tt te env n r (s2.set n (.lst (acc ++ [d]))) else .bad
        | _ => .bad
      else lcL c gf tt te env n r s1
    else .bad
noncomputable def lcF (it : ItF) (vs : List Nat) (gf : GF) (tt : TF) (te : EF) : EF := fun env st => (it env st).bind fun p s => (lcL p.2 gf tt te (wipeE env vs) s.length p.1 (s ++ [.lst []])).bind fun _ s' => .ok (.ref s.length) s'
def yesT : TF := fun _ st => .ok true st
theorem lts_nil : PTs X [] (LT (gOf B X) E yesT) := pts_nil.imp fun sg H Q w => by
  obtain ⟨q, env, st, rs, re, p⟩ := w
  exact p q H Ext.refl rs
theorem lc_le {it : ItF} {vs : List Nat} {gf : GF} {tt : TF} {te : EF} {sg : L2.St} {H : Hp} {Q : VK} (w : LE (gOf B X) E (lcF it vs gf tt te) sg H Q) : tLc (LI (gOf B X) E it) (LGw (gOf B X) E0 vs gf) (LT (gOf B X) E0 tt) (LE (gOf B X) E0 te) vs sg H Q := by
  obtain ⟨q, env, st, rs, re, p⟩ := w
  refine ⟨q, env, st, rs, re, (R.post_bind.mp p).imp (fun pr s1 p q1 H1 J e1 rs1 wk D hD => ?_) fun _ _ h => h⟩
  obtain ⟨ds, c⟩ := pr
  have p := R.post_bind.mp p
  obtain ⟨e2, rs2, r2⟩ := lst_new (xs := []) (ds := []) rs1 hD .nil
  have qD : (q1 ++ [D])[s1.length]? = some D := by rw [← rs1.len]; simp
  refine ⟨fun i m H3 => ∃ q3 st3, RS (gOf B X) q3 H3 st3 ∧ Ext (q1 ++ [D]) (upd H1 D (.lst [])) q3 H3 ∧ i ≤ ds.length ∧ m = ds.length - i ∧ (lcL c gf tt te (wipeE env vs) s1.length (ds.drop i) st3).post (fun _ st' => KV (gOf B X) q3 H3 Q (.ref s1.length) st') (KX (gOf B X) q3 H3 E),
    ⟨_, q1 ++ [D], s1 ++ [O.lst []], rs2, Ext.refl, Nat.zero_le _, rfl, (show (lcL c gf tt te (wipeE env vs) s1.length ds (s1 ++ [.lst []])).post _ _ from p).imp (fun _ _ h => KV.ext (e1.trans e2) h) fun _ _ h => h.ext (e1.trans e2)⟩, ?_⟩
  rintro i m H3 ⟨q3, st3, rs3, e3, hil, rfl, p⟩
  have reW : RE (gOf B X) q3 H3 (wipe sg vs) (wipeE env vs) := (re.ext (e1.trans (e2.trans e3))).wipe vs
  by_cases hlt : i < ds.length
  · have hd : ds[i]? = some ds[i] := List.getElem?_eq_getElem hlt
    rw [drop_cons hd] at p
    unfold lcL at p
    by_cases ok : ChkOk c st3
    · rw [if_pos ok] at p
      obtain ⟨go, yld⟩ := (wk i q3 H3 st3 (e2.trans e3) rs3 ok).2 _ hd
      refine .inr ⟨go, fun H4 => ∃ q4 st4, RS (gOf B X) q4 H4 st4 ∧ Ext (q1 ++ [D]) (upd H1 D (.lst [])) q4 H4 ∧ (lcL c gf tt te (wipeE env vs) s1.length (ds.drop (i + 1)) st4).post (fun _ st' => KV (gOf B X) q4 H4 Q (.ref s1.length) st') (KX (gOf B X) q4 H4 E), ?_, fun x H4 y => ?_⟩
      · rintro H4 ⟨q4, st4, rs4, e4, p4⟩
        exact ⟨ds.length - (i + 1), by omega, q4, st4, rs4, e4, by omega, rfl, p4⟩
      · obtain ⟨e4, rs4, rx⟩ := yld x H4 y
        refine ⟨q3, _, _, st3, rs4, reW.ext e4, rx, R.post_noex ((R.post_bind.mp p).imp (fun en s5 p q5 H5 sg5 e5 rs5 re5 hw => ?_) fun _ _ h => h)⟩
        have hww : wipe (wipe sg vs) vs = wipe sg vs := by
          have all : ∀ (ws : List Nat) (s0 : L2.St), (∀ v ∈ ws, s0.set v none = s0) → wipe s0 ws = s0 := by
            intro ws
            induction ws with
            | nil => intro s0 _; rfl
            | cons v ws ih =>
              intro s0 h
              unfold wipe
              rw [ih s0 fun u hu => h u (List.mem_cons_of_mem _ hu)]
              exact h v List.mem_cons_self
          have fix : ∀ (ws : List Nat) (v : Nat), v ∈ ws → (wipe sg ws).set v none = wipe sg ws := by
            intro ws
            induction ws with
            | nil => intro v h; cases h
            | cons u ws ih =>
              intro v h
              unfold wipe
              by_cases e : v = u
              · subst e; rw [List.set_set]
              · rw [List.set_comm _ _ (fun z => e z.symm), ih v (by
                  rcases List.mem_cons.mp h with z | z
                  · exact absurd z e
                  · exact z)]
          exact all vs _ (fix vs)
        refine ⟨hw.trans hww, q5, en, s5, rs5, re5, R.post_noex ((R.post_bind.mp p).imp (fun b s6 p q6 H6 e6 rs6 => ?_) fun _ _ h => h)⟩
        have re6 := re5.ext e6
        have e36 : Ext q3 H3 q6 H6 := e4.trans (e5.trans e6)
        cases b with
        | false =>
          exact iteF ⟨q6, s6, rs6, e3.trans e36, (show (lcL c gf tt te (wipeE env vs) s1.length (ds.drop (i + 1)) s6).post _ _ from p).imp (fun _ _ h => KV.ext e36 h) fun _ _ h => h.ext e36⟩
        | true =>
          refine iteT ⟨q6, en, s6, rs6, re6, R.post_noex ((R.post_bind.mp (show ((te en s6).noex.bind _).post _ _ from p)).imp (fun d s7 p q7 y7 H7 e7 rs7 ry => ?_) fun _ _ h => h)⟩
          have e37 : Ext q3 H3 q7 H7 := e36.trans e7
          have qD7 : q7[s1.length]? = some D := e37.at (e3.at qD)
          split at p
          · rename_i acc hacc
            split at p
            · rename_i hz
              obtain ⟨a, xs, qa, ha, r⟩ := rs7.lstAt hacc
              rw [qD7] at qa; cases qa
              obtain ⟨rs8, e8⟩ := lst_put rs7 hacc qD7 ha (r.append (.cons ry .nil))
              exact ⟨xs, ha, by rw [r.length]; exact hz, q7, _, rs8, e3.trans (e37.trans e8), p.imp (fun _ _ h => KV.ext (e37.trans e8) h) fun _ _ h => h.ext (e37.trans e8)⟩
            · exact False.elim p
          · exact False.elim p
    · rw [if_neg ok] at p
      exact False.elim p
  · have e : i = ds.length := by omega
    subst e
    rw [List.drop_length] at p
    unfold lcL at p
    by_cases ok : ChkOk c st3
    · rw [if_pos ok] at p
      exact .inl ⟨(wk _ q3 H3 st3 (e2.trans e3) rs3 ok).1 (Nat.le_refl _), p q3 _ H3 Ext.refl rs3 (.ref (e3.at qD))⟩
    · rw [if_neg ok] at p
      exact False.elim p
theorem le_lc {elt iter : Expr} {ifs : List Expr} {scope : Scope} {own : List (Str × Nat)} {pos : Pos} {it : ItF} {gf : GF} {tt : TF} {te : EF} (hc : X.calm = true) (hN : X.N.Nodup) (hi : PI X tg iter (LI (gOf B X) E it)) (ok : BlkOk X.N X.env.scope scope own)
    (hg : ∀ (s : Shared) (H : Hp) (C : Addr) (cl : List (Str × Addr)) (fp : List Addr), PG (X.blk s H scope (compEnvC scope cl C X.env) fp) tg (LGw (gOf B X) E0 (own.map (·.2)) gf)) (ht : ∀ (s : Shared) (H : Hp) (C : Addr) (cl : List (Str × Addr)) (fp : List Addr), PTs (X.blk s H scope (compEnvC scope cl C X.env) fp) ifs (LT (gOf B X) E0 tt))
    (he : ∀ (s : Shared) (H : Hp) (C : Addr) (cl : List (Str × Addr)) (fp : List Addr), PE (X.blk s H scope (compEnvC scope cl C X.env) fp) elt (LE (gOf B X) E0 te)) (hs : ∀ x, foldedSetIterable iter X.env x = pure x := by intro _; rfl) :
    PE X (.ListComp elt [⟨tg, iter, ifs, 0⟩] scope pos) (LE (gOf B X) E (lcF it (own.map (·.2)) gf tt te)) := (pe_lc hc hN hi ok hg ht he hs).imp fun _ _ _ w => lc_le w
theorem ls_setLc {i : Nat} {y : Str} {py : Pos} {elt iter : Expr} {ifs : List Expr} {scope : Scope} {own : List (Str × Nat)} {pos spos : Pos} {it : ItF} {gf : GF} {tt : TF} {te : EF} (hc : X.calm = true) (hN : X.N.Nodup) (hsw : swapsWith (.ListComp elt [⟨tg, iter, ifs, 0⟩] scope pos) (some (.Name y py)) spos.line X.env = pure true) (hi : PI X tg iter (LI (gOf B X) E it)) (ok : BlkOk X.N X.env.scope scope own)
    (hg : ∀ (s : Shared) (H : Hp) (C : Addr) (cl : List (Str × Addr)) (fp : List Addr), PG (X.blk s H scope (compEnvC scope cl C X.env) fp) tg (LGw (gOf B X) E0 (own.map (·.2)) gf)) (ht : ∀ (s : Shared) (H : Hp) (C : Addr) (cl : List (Str × Addr)) (fp : List Addr), PTs (X.blk s H scope (compEnvC scope cl C X.env) fp) ifs (LT (gOf B X) E0 tt))
    (he : ∀ (s : Shared) (H : Hp) (C : Addr) (cl : List (Str × Addr)) (fp : List Addr), PE (X.blk s H scope (compEnvC scope cl C X.env) fp) elt (LE (gOf B X) E0 te)) (hy : X.N[i]? = some y := by rfl) (hyl : X.env.scope.names.lookup y = some .local := by rfl) (hs : ∀ x, foldedSetIterable iter X.env x = pure x := by intro _; rfl) :
    PS X (.Assign [.Name y py] (.ListComp elt [⟨tg, iter, ifs, 0⟩] scope pos) spos) (LS (gOf B X) E (setS i (lcF it (own.map (·.2)) gf tt te))) :=
  (ps_setLc hc hN hy hyl hsw hi ok hg ht he hs).imp fun T sg H w => by
    obtain ⟨q, env, st, rs, re, p⟩ := w
    have h : LE (gOf B X) E (lcF it (own.map (·.2)) gf tt te) sg H (fun x H1 => gName i x sg H1 T.nx) :=
      LE.chain rs re (R.post_bind.mp p) fun x s1 q1 v H1 p e1 rs1 re1 rx => p q1 H1 e1 rs1 _ (re1.set rx)
    exact lc_le h
end
def Sp0 (g : G) (n : Nat) (f : Fn) : Sp := fun vs H Q _ => vs.length = n ∧ LC g E0 f vs H Q
section
variable {P : Program} {w : World} {K : PySem.W.Frag} {mg : Str → Option Value} {base : Heap}
theorem fn0 {x qual : Str} {st : Stmt} {f : Addr} {fd : FuncData} {N ps : List Str} {k n m : Nat} {fb : SF} (F : Fun K x qual st f fd) (S : FnScope N ps (defScope st)) (hn : N.length = n) (hm : ps.length = m)
    (body : ∀ (cdv : Value) (A : Around) (outer : List Env) (s : Shared) (H : Hp) (E : XK), Room k (A.deeper (envOfC qual (defScope st) s.heap.objs.size f cdv)) →
      PSs (cxOf CX0 P w K mg base N qual (defScope st) f cdv A outer s H E).nox (defBody st) (LS ⟨P, w, K, mg, B⟩ E0 fb)) : FnOk P w K mg base CX0 (k + 1) f fd ps (Sp0 ⟨P, w, K, mg, B⟩ m (fnF n fb)) :=
  F.ok S (fun vs H Q E h => h.1.trans hm.symm) fun cdv A outer s H vs Q E hr h => ⟨_, body cdv A outer s H E hr, fn_le hn h.2⟩
end
section
variable {X : Cx}
theorem le_call0 {k n : Nat} {f : Addr} {fd : FuncData} {ps : List Str} {fn : Fn} {x : Str} {p pos : Pos} {e : Expr} {es : List Expr} {fa : AF} (F : FnOk X.prog X.w X.K X.mg X.base CX0 k f fd ps (Sp0 (gOf B X) n fn)) (hr : Room k X.A) (hm : X.mg x = some (.ref f)) (hk : PySem.W.keepIn X.K (.ref f) = true) (hb : Binds X.K fd ps [])
    (ha : PA X (e :: es) (LA (gOf B X) E0 fa)) (hla : ∀ env st ds s, fa env st = .ok ds s → ds.length = n) (hg : Gl X x := by rfl) (hdb : (x == ("__debug__" : Str)) = false := by decide) (he : starEach (e :: es) X.env = (false, eval e X.env) :: starEach es X.env := by rfl) (hpl : (backTo pos (starEach es X.env)).any (·.1) = false := by rfl) :
    PE X (.Call (.Name x p) (e :: es) [] pos) (LE (gOf B X) E0 (callF fn fa)) :=
  (pe_call F hr hg hm hk hb .nil pass0 ha hdb he hpl).imp fun sg H Q w => by
    obtain ⟨q, env, st, rs, re, p⟩ := w
    have p := R.post_bind.mp p
    have p' : (fa env st).post (fun ds s => ds.length = n ∧ (fn ds s).post (KV (gOf B X) q H Q) (KX (gOf B X) q H E0)) (KX (gOf B X) q H E0) := by
      cases hfa : fa env st with
      | ok ds s => rw [hfa] at p; exact ⟨hla _ _ _ _ hfa, p⟩
      | ex c s => rw [hfa] at p; exact p
      | bad => rw [hfa] at p; exact p
    refine LA.chain rs re p' fun xs s1 q1 vs H1 p e1 rs1 re1 rx => ?_
    rw [List.append_nil]
    exact ⟨by rw [rx.length]; exact p.1, q1, s1, xs, rs1, rx, p.2.imp (fun _ _ h => h.ext e1) fun _ _ h => h.ext e1⟩
end
def spLaw (K : PySem.W.Frag) : Sp := fun vs H Q _ => ∃ (a : Addr) (ns : List Int), vs = [.ref a] ∧ SqL K H a (ns.map V.int) ∧ ns.length ≤ 63 ∧ Only H ∧ ∀ H', Q (.bl true) H'
theorem law_end {g : G} {f : Fn} (hB : g.B.T = []) (h : ∀ ns : List Int, ns.length ≤ 63 → ∃ st, f [.ref 0] [.rl (ns.map D.int)] = .ok (.bl true) st) : ∀ vs H Q E, spLaw g.K vs H Q E → Sp0 g 1 f vs H Q E := by
  intro vs H Q E ⟨a, ns, hv, hS, hl, hO, k⟩
  subst hv
  obtain ⟨st, h⟩ := h ns hl
  have ro : RoL g.K H a (ns.map V.int) := by
    rcases hS with (hS | ⟨ob, hS⟩) | hS
    · rcases hO a with z | ⟨o, xs, z⟩
      · rw [hS] at z; cases z
      · rw [hS] at z; cases z
    · exact .inl ⟨ob, hS⟩
    · exact .inr hS
  refine ⟨rfl, [a], [.rl (ns.map D.int)], [.ref 0], ⟨rfl, fun m n b h1 h2 => ?_, fun n b o h1 h2 => ?_, ?_⟩, .cons (.ref rfl) .nil, ?_⟩
  · have l1 := (List.getElem?_eq_some_iff.mp h1).1
    have l2 := (List.getElem?_eq_some_iff.mp h2).1
    simp at l1 l2
    exact .inl (by omega)
  · have l1 := (List.getElem?_eq_some_iff.mp h1).1
    simp at l1
    subst l1
    simp at h1 h2
    subst h1 h2
    exact ⟨_, ro, RDs.ints⟩
  · intro p hp
    rw [hB] at hp
    cases hp
  · rw [h]
    intro q' v H' _ _ r
    rw [r.bl_inv]
    exact k H'
end VL
namespace VL
open PySem PySem.Spec PyProof.Rows L2 LamX NdefX
variable {B : Tb}
/-- a datum's built-in type -/
def tyOfD (d : D) (st : Sto) : Option String := match d with
  | .non => some "NoneType"
  | .bl _ => some "bool"
  | .int _ => some "int"
  | .str _ => some "str"
  | .tup _ => some "tuple"
  | .ref n => match st[n]? with
    | some (.lst _) => some "list"
    | some (.rl _) => some "list"
    | some (.dic _) => some "dict"
    | _ => none
  | _ => none
def isiD : List D → Sto → R D
  | [d, .ty T], st => match (tyOfD d st).bind fun a => kitB a T with
    | some b => .ok (.bl b) st
    | none => .bad
  | _, _ => .bad
section
variable {X : Cx} {E : XK}
theorem le_ty {x : Str} {T : String} {pos : Pos} (hg : Gl X x) (hm : X.mg x = none) (hv : bootBuiltins x = some (.type T)) (hn : x ≠ "__name__" := by decide) (hd : (x == ("__debug__" : Str)) = false := by decide) : PE X (.Name x pos) (LE (gOf B X) E (cF (.ty T))) :=
  le_c (pe_bltn (v := .ty T) hg hm hv rfl hn hd) fun _ _ => .ty T
theorem kit_D {pins : List (Addr × Obj)} {sg : L2.St} {q : List Addr} {H : Hp} {s : Shared} {st : Sto} {x : V} {d : D} {u : Value} {a : String} (I : L2.Inv X pins sg H s) (rs : RS (gOf B X) q H st) (rx : RD (gOf B X) q H x d) (r : RelV x u) (h : tyOfD d st = some a) :
    ∃ P : Heap → Prop, PySem.W.KitX X.K u (.type a) P ∧ P s.heap ∧ u ≠ .builtin "__main__.__loader__#opaque" := by
  cases d with
  | non => rw [rx.non_inv] at r; cases h; exact kit_of I r (.base .non)
  | bl b => rw [rx.bl_inv] at r; cases h; exact kit_of I r (.base (.bl b))
  | int i => rw [rx.int_inv] at r; cases h; exact kit_of I r (.base (.int i))
  | str z => rw [rx.str_inv] at r; cases h; exact kit_of I r (.base (.str z))
  | tup ds =>
    obtain ⟨p, xs, rfl, hs, _⟩ := rx.tup_inv
    cases h
    rcases hs with (hs | ⟨ob, hs⟩) | ⟨o, its, n, hk, hc, _⟩
    · exact kit_of I r (.base (.tup hs))
    · exact kit_of I r (.fTuple hs)
    · exact kit_of I r (.kTuple hk hc)
  | ref n =>
    obtain ⟨p, rfl, qp⟩ := rx.ref_inv
    unfold tyOfD at h
    simp only at h
    split at h
    · rename_i xs e
      cases h
      obtain ⟨b, ys, qb, hb, _⟩ := rs.lstAt e
      rw [qp] at qb; cases qb
      exact kit_of I r (.base (.lst hb))
    · rename_i xs e
      cases h
      obtain ⟨b, qb, ys, hb, _⟩ := rs.get e
      rw [qp] at qb; cases qb
      rcases hb with ⟨ob, hb⟩ | ⟨o, its, n, hk, hc, _⟩
      · exact kit_of I r (.base (.frz hb))
      · exact kit_of I r (.kList hk hc)
    · rename_i kvs e
      cases h
      obtain ⟨b, qb, hb⟩ := rs.get e
      rw [qp] at qb; cases qb
      rcases hb with ⟨gs, hk, _⟩ | ⟨_, xs, hk, _⟩
      · exact kit_of I r (.base (.dK hk))
      · cases r
        obtain ⟨⟨_, o, es, ep, e, ex, _⟩, _⟩ := I.hok p _ hk
        exact ⟨_, PySem.W.kitx_dict, ⟨o, e, ex.1⟩, fun z => nomatch z⟩
    · cases h
  | _ => cases h
theorem call_isiD : CallR X (.builtin "isinstance") (LC (gOf B X) E isiD) := by
  intro pins s sg H vs us Q I r w
  obtain ⟨q, st, ds, rs, rd, p⟩ := w
  unfold isiD at p
  split at p
  · rename_i d T
    split at p
    · rename_i b e
      obtain ⟨a, h1, h2⟩ := Option.bind_eq_some_iff.mp e
      obtain ⟨x, c, rfl, rx, rc⟩ := rd.two_inv
      rw [rc.ty_inv] at r
      obtain ⟨u1, u2, rfl, r1, r2⟩ := vals2 r
      cases (show u2 = Value.type T from r2)
      obtain ⟨P, Z, hp, hx⟩ := kit_D I rs rx r1 h1
      exact PySem.W.kia_one Z I.kIn hp (kit_ty h2) hx fun tk => ⟨.bl b, H, I.tok tk, rfl, p q _ H Ext.refl rs (.bl b)⟩
    · exact False.elim p
  · exact False.elim p
end
end VL
namespace PySem
open Sem (wp)
end PySem
namespace L2
open PySem PySem.Spec PyProof.Rows
end L2
namespace VL
open PySem PySem.Spec PyProof.Rows L2 RZ RT LamX NdefX
variable {B : Tb}
section
variable {X : Cx} {E : XK} {tg : Expr}
def flatD : D → Bool
  | .non => true
  | .bl _ => true
  | .int _ => true
  | .str _ => true
  | _ => false
def eqF : D → D → Bool
  | .non, .non => true
  | .bl a, .bl b => a == b
  | .bl a, .int b => (if a then 1 else 0) == b
  | .int a, .bl b => a == (if b then 1 else 0)
  | .int a, .int b => a == b
  | .str a, .str b => a == b
  | _, _ => false
theorem flat_of {g : G} {q : List Addr} {H : Hp} {v : V} {d : D} (r : RD g q H v d) (h : flatD d = true) : flatV v = true := by cases r <;> first | rfl | cases h
theorem eqF_of {g : G} {q : List Addr} {H : Hp} {v w : V} {d e : D} (r : RD g q H v d) (r' : RD g q H w e) (h : flatD d = true) (h' : flatD e = true) : eqV v w = eqF d e := by
  cases r <;> first | (cases h; done) | (cases r' <;> first | rfl | (cases h'; done))
theorem all_flat {g : G} {q : List Addr} {H : Hp} : ∀ {vs : List V} {ds : List D}, RDs g q H vs ds → ds.all flatD = true → vs.all flatV = true
  | _, _, .nil, _ => rfl
  | _, _, .cons r t, h => by
    rw [List.all_cons, Bool.and_eq_true] at h
    rw [List.all_cons, flat_of r h.1, all_flat t h.2]
    rfl
/-- x in a list or tuple of flat items -/
def inL (neg : Bool) (x : D) (ds : List D) (st : Sto) : R D := if flatD x = true ∧ ds.all flatD = true then .ok (.bl (if neg then !(ds.any fun y => eqF y x) else ds.any fun y => eqF y x)) st else .bad
def inSq (neg : Bool) : D → D → Sto → R D
  | x, .tup ds, st => inL neg x ds st
  | x, .ref n, st => match listAt st n with
    | some ds => inL neg x ds st
    | none => .bad
  | _, _, _ => .bad
end
end VL
namespace L2
open PySem PySem.Spec PyProof.Rows
end L2
namespace VL
open PySem PySem.Spec PyProof.Rows L2 LamX NdefX
end VL
namespace VL
open PySem PySem.Spec PyProof.Rows L2 LamX NdefX
variable {B : Tb}
section
variable {X : Cx} {E : XK}
def int1D : List D → Sto → R D
  | [.int i], st => .ok (.int i) st
  | [.bl b], st => .ok (.int (if b = true then 1 else 0)) st
  | _, _ => .bad
theorem call_int1D : CallR X (.type "int") (LC (gOf B X) E int1D) := call_int1.imp fun vs H Q w => by
  obtain ⟨q, st, ds, rs, rd, p⟩ := w
  unfold int1D at p
  split at p
  · cases rd with
    | cons r t =>
      cases t
      exact .inl ⟨_, by rw [r.int_inv], p q _ H Ext.refl rs (.int _)⟩
  · cases rd with
    | cons r t =>
      cases t
      exact .inr ⟨_, by rw [r.bl_inv], p q _ H Ext.refl rs (.int _)⟩
  · exact False.elim p
def setIx : D → D → D → Sto → R Unit
  | .ref n, .int i, d, st => match st[n]? with
    | some (.lst xs) => (match ixN xs.length i with
      | some j => .ok () (st.set n (.lst (xs.set j d)))
      | none => .bad)
    | _ => .bad
  | _, _, _, _ => .bad
def subG (fo fi : EF) (g : D → D → D → Sto → R Unit) : GF := fun d env st => (fo env st).bind fun o s => (fi env s).bind fun i s2 => (g o i d s2).bind fun _ s3 => .ok env s3
theorem setIx_of {x y v : V} {H : Hp} {Q : Hp → Prop} {g : G} {q : List Addr} {st : Sto} {a b d : D} {K' : Str → Sto → Prop} (rs : RS g q H st) (ra : RD g q H x a) (rb : RD g q H y b) (rd : RD g q H v d) (p : (setIx a b d st).post (fun _ st' => ∀ H', Ext q H q H' → RS g q H' st' → Q H') K') : rSetL x y v H Q := by
  cases a with
  | ref n =>
    cases b with
    | int i =>
      unfold setIx at p
      simp only at p
      split at p
      · rename_i xs hx
        split at p
        · rename_i j hj
          obtain ⟨a', rfl, qa⟩ := ra.ref_inv
          obtain ⟨a, qa', ro⟩ := rs.get hx
          rw [qa] at qa'; cases qa'
          obtain ⟨ys, hy, ry⟩ := ro
          obtain ⟨rs2, e2⟩ := lst_put (ys := ys.set j v) (es := xs.set j d) rs hx qa hy (RDs.set rd j ry)
          exact ⟨a', ys, i, j, rfl, rb.int_inv, hy, by rw [ry.length]; exact hj, p _ e2 rs2⟩
        · exact False.elim p
      · exact False.elim p
    | _ => exact False.elim p
  | _ => cases b <;> exact False.elim p
theorem lg_sub {o i : Expr} {fo fi : EF} {pos : Pos} (ho : PE X o (LE (gOf B X) E fo)) (hi : PE X i (LE (gOf B X) E fi))
    (ha : ∀ v, assign (.Subscript o i pos) X.env v = (do
      let ov ← holding [v] (eval o X.env)
      let iv ← holding [v, ov] (eval i X.env)
      standAt pos
      holding [v, ov, iv] (setItem ov iv v)
      release [v, ov, iv] []) := by intro _; rfl) : PG X (.Subscript o i pos) (LG (gOf B X) E (subG fo fi setIx)) := (pg_sub ho hi set_list ha).imp fun v sg H Q w => by
  obtain ⟨q, d, env, st, rs, re, rd, p⟩ := w
  refine LE.chain rs re (R.post_bind.mp p) fun x s1 q1 vx H1 p e1 rs1 re1 rx => ?_
  refine LE.chain rs1 re1 ((R.post_bind.mp p).imp (fun _ _ h => h) fun _ _ h => h.ext e1) fun y s2 q2 vy H2 p e2 rs2 re2 ry => ?_
  refine setIx_of rs2 (rx.ext e2) ry (rd.ext (e1.trans e2)) (K' := KX (gOf B X) q H E) ((R.post_bind.mp p).imp (fun u s3 p H3 e3 rs3 => ?_) fun _ _ h => h)
  exact p q2 H3 sg ((e1.trans e2).trans e3) rs3 (re2.ext e3)
def repD : D → D → Sto → R D
  | .ref n, .int k, st => match st[n]? with
    | some (.lst xs) => if -(2 ^ 63) ≤ k ∧ k < 2 ^ 63 ∧ xs.length * k.toNat ≤ sizeLine then newO (.lst (List.replicate k.toNat xs).flatten) st else .bad
    | _ => .bad
  | _, _, _ => .bad
theorem RDs.rep {g : G} {q : List Addr} {H : Hp} {vs : List V} {ds : List D} (r : RDs g q H vs ds) : ∀ k : Nat, RDs g q H (List.replicate k vs).flatten (List.replicate k ds).flatten
  | 0 => .nil
  | k + 1 => by
    rw [List.replicate_succ, List.replicate_succ, List.flatten_cons, List.flatten_cons]
    exact r.append (RDs.rep r k)
theorem op_repD : OpR X (binaryOp .Mult) (LR (gOf B X) E repD) := op_rep.imp fun x y H Q w => by
  obtain ⟨q, st, a, b, rs, ra, rb, p⟩ := w
  unfold repD at p
  split at p
  · split at p
    · rename_i xs hx
      split at p
      · rename_i hk
        obtain ⟨l, rfl, qa⟩ := ra.ref_inv
        obtain ⟨l', ys, qa', hl, ry⟩ := rs.lstAt hx
        rw [qa] at qa'; cases qa'
        refine ⟨l, _, ys, rfl, rb.int_inv, hl, hk.1, hk.2.1, by rw [ry.length]; exact hk.2.2, fun u hu => ?_⟩
        obtain ⟨e2, rs2, r2⟩ := lst_new rs hu (ry.rep _)
        exact p _ _ _ e2 rs2 r2
      · exact False.elim p
    · exact False.elim p
  · exact False.elim p
def badS : SF := fun _ _ => .bad
theorem ls_bad {s : Stmt} {E : XK} : PS X s (LS (gOf B X) E badS) := ⟨fun pins s σ H Q I w => by
  obtain ⟨q, env, st, rs, re, pp⟩ := w
  exact False.elim pp⟩
end
end VL
namespace VL
open PySem PySem.Spec PyProof.Rows L2 LamX NdefX
variable {B : Tb}
section
variable {X : Cx} {E : XK}
theorem le_gc {x : Str} {pos : Pos} {v : V} {d : D} (hg : Gl X x) (h : ∃ u, X.mg x = some u ∧ RelV v u) (r : ∀ q H, RD (gOf B X) q H v d) (hd : (x == ("__debug__" : Str)) = false := by decide) : PE X (.Name x pos) (LE (gOf B X) E (cF d)) := by
  obtain ⟨u, hm, ru⟩ := h
  exact le_c (pe_glob hg hm ru hd) r
def sgn : Str → Option Nat := fun x => match x.cps.toList with
  | [c] => some c
  | _ => none
def inTx (neg : Bool) : D → D → Sto → R D
  | .str x, .str z, st => match sgn x with
    | some c => .ok (.bl (if neg then !decide (c ∈ z.cps.toList) else decide (c ∈ z.cps.toList))) st
    | none => .bad
  | _, _, _ => .bad
theorem sgn_eq {x : Str} {c : Nat} (h : sgn x = some c) : x = ⟨#[c]⟩ := by
  unfold sgn at h
  split at h
  · rename_i d e
    cases h
    cases x with
    | mk a => cases a with | mk l => cases e; rfl
  · cases h
theorem op_inTxD : OpR X (compareOp .In) (LR (gOf B X) E (inTx false)) := op_in_sign.imp fun x y H Q w => by
  obtain ⟨q, st, a, b, rs, ra, rb, p⟩ := w
  unfold inTx at p
  split at p
  · split at p
    · rename_i h
      exact ⟨_, _, by rw [ra.str_inv, sgn_eq h], rb.str_inv, p q _ H Ext.refl rs (.bl _)⟩
    · exact False.elim p
  · exact False.elim p
def isKD : D → Bool
  | .int _ => true
  | .str _ => true
  | _ => false
def keyQ : D → D → Bool
  | .int a, .int b => decide (a = b)
  | .str a, .str b => decide (a = b)
  | _, _ => false
theorem keyQ_dK (a b : Key) : keyQ (dK a) (dK b) = decide (a = b) := by
  cases a <;> cases b <;> simp [dK, keyQ]
theorem isKD_of {g : G} {q : List Addr} {H : Hp} {v : V} {d : D} (r : RD g q H v d) (h : isKD d = true) : ∃ k, d = dK k ∧ v = kV k := by
  cases r with
  | int i => exact ⟨.inl i, rfl, rfl⟩
  | str x => exact ⟨.inr x, rfl, rfl⟩
  | _ => cases h
def dget (kvs : List (D × D)) (k : D) : Option D := (kvs.find? fun p => keyQ p.1 k).map (·.2)
def dput (kvs : List (D × D)) (k v : D) : List (D × D) := if (kvs.any fun p => keyQ p.1 k) = true then kvs.map (fun p => if keyQ p.1 k = true then (p.1, v) else p) else kvs ++ [(k, v)]
def keysOk (kvs : List (D × D)) : Bool := kvs.all fun p => isKD p.1
abbrev PK (g : G) (q : List Addr) (H : Hp) : D × D → Key × V → Prop := fun p x => p.1 = dK x.1 ∧ RD g q H x.2 p.2
theorem dget_val {g : G} {q : List Addr} {H : Hp} (k : Key) {kvs : List (D × D)} {gs : List (Key × V)} (h : Paired (PK g q H) kvs gs) :
    (∀ d, dget kvs (dK k) = some d → ∃ v, valV gs k = some v ∧ RD g q H v d) ∧ (dget kvs (dK k) = none → valV gs k = none) := by
  induction h with
  | nil => exact ⟨fun d e => (nomatch (show (none : Option D) = some d from e)), fun _ => rfl⟩
  | @cons p x ps xs hp _ ih =>
    obtain ⟨h1, h2⟩ := hp
    have hq : keyQ p.1 (dK k) = decide (x.1 = k) := by rw [h1, keyQ_dK]
    unfold dget at ih ⊢
    rw [List.find?_cons, hq]
    by_cases e : x.1 = k
    · rw [decide_eq_true e]
      exact ⟨fun d ed => by cases ed; exact ⟨x.2, valV_pos e, h2⟩, fun ed => by cases ed⟩
    · rw [decide_eq_false e, valV_neg e]
      exact ih
theorem paired_map {A B C D' : Type} {F : A → B → Prop} {F' : C → D' → Prop} {f : A → C} {g : B → D'} (h : ∀ a b, F a b → F' (f a) (g b)) : ∀ {l : List A} {m : List B}, Paired F l m → Paired F' (l.map f) (m.map g)
  | _, _, .nil => .nil
  | _, _, .cons a t => .cons (h _ _ a) (paired_map h t)
theorem any_key {g : G} {q : List Addr} {H : Hp} (k : Key) {kvs : List (D × D)} {gs : List (Key × V)} (h : Paired (PK g q H) kvs gs) : (kvs.any fun p => keyQ p.1 (dK k)) = gs.any fun x => decide (x.1 = k) := by
  induction h with
  | nil => rfl
  | @cons p x ps xs hp _ ih => rw [List.any_cons, List.any_cons, ih, hp.1, keyQ_dK]
theorem dput_val {g : G} {q : List Addr} {H : Hp} {k : Key} {v : V} {d : D} (r : RD g q H v d) {kvs : List (D × D)} {gs : List (Key × V)} (h : Paired (PK g q H) kvs gs) : Paired (PK g q H) (dput kvs (dK k) d) (putK gs k v) := by
  unfold dput putK
  rw [any_key k h]
  by_cases e : (gs.any fun x => decide (x.1 = k)) = true
  · rw [if_pos e, if_pos e]
    refine paired_map (fun p x hp => ?_) h
    obtain ⟨h1, h2⟩ := hp
    have hq : keyQ p.1 (dK k) = decide (x.1 = k) := by rw [h1, keyQ_dK]
    rw [hq]
    by_cases e2 : x.1 = k
    · rw [decide_eq_true e2, if_pos rfl, if_pos e2]; exact ⟨h1, r⟩
    · rw [decide_eq_false e2, if_neg Bool.false_ne_true, if_neg e2]; exact ⟨h1, h2⟩
  · rw [if_neg e, if_neg e]
    exact Paired.app h (.cons ⟨rfl, r⟩ .nil)
theorem RS.dicK {g : G} {q : List Addr} {H : Hp} {st : Sto} (rs : RS g q H st) {n : Nat} {kvs : List (D × D)} (h : st[n]? = some (.dic kvs)) (hk : keysOk kvs = true) : ∃ a gs, q[n]? = some a ∧ H a = some (.dK gs) ∧ Paired (PK g q H) kvs gs := by
  obtain ⟨a, qa, ro⟩ := rs.get h
  rcases ro with ⟨gs, h1, h2⟩ | ⟨⟨hn, _⟩, xs, _, hp⟩
  · exact ⟨a, gs, qa, h1, h2⟩
  · cases hp with
    | nil => exact absurd rfl hn
    | @cons p x ps xs hp t =>
      unfold keysOk at hk
      rw [List.all_cons, Bool.and_eq_true] at hk
      obtain ⟨k, _, e⟩ := isKD_of hp.2.2.1 hk.1
      cases k <;> cases e
/-- d[k] -/
def dixD : D → D → Sto → R D
  | .ref n, k, st => match st[n]? with
    | some (.dic kvs) => if (keysOk kvs && isKD k) = true then (match dget kvs k with
      | some d => .ok d st
      | none => .bad) else .bad
    | _ => .bad
  | _, _, _ => .bad
variable {a o i e value : Expr} {fa fb fc : EF} {pos pos' : Pos}
theorem le_dix (hu : X.A.units + 1 < cLine) (ha : PE X o (LE (gOf B X) E fa)) (hb : PE X i (LE (gOf B X) E fb)) (hs : NoSl i) : PE X (.Subscript o i pos) (LE (gOf B X) E (opF dixD fa fb)) := (pe_dget hu ha hb hs).imp fun sg H Q w => by
  obtain ⟨q, env, st, rs, re, p⟩ := w
  refine LE.chain rs re (R.post_bind.mp p) fun x s1 q1 v H1 p e1 rs1 re1 rx => ?_
  refine LE.chain rs1 re1 ((R.post_bind.mp p).imp (fun _ _ h => h) fun _ _ h => h.ext e1) fun y s2 q2 u H2 p e2 rs2 re2 ry => ?_
  unfold dixD at p
  split at p
  · split at p
    · rename_i kvs hk
      split at p
      · rename_i hok
        rw [Bool.and_eq_true] at hok
        obtain ⟨a', rfl, qa⟩ := (rx.ext e2).ref_inv
        obtain ⟨b, gs, qb, hb, hp⟩ := rs2.dicK hk hok.1
        rw [qa] at qb; cases qb
        obtain ⟨k, rfl, rfl⟩ := isKD_of ry hok.2
        split at p
        · rename_i d hd
          obtain ⟨w, hw, rw'⟩ := (dget_val k hp).1 d hd
          exact ⟨a', w, rfl, .inl ⟨gs, k, .inl hb, rfl, hw.symm⟩, p q2 w H2 (e1.trans e2) rs2 rw'⟩
        · exact False.elim p
      · exact False.elim p
    · exact False.elim p
  · exact False.elim p
/-- k in d -/
def dinD (neg : Bool) : D → D → Sto → R D
  | k, .ref n, st => match st[n]? with
    | some (.dic kvs) => if (keysOk kvs && isKD k) = true then .ok (.bl (if neg then !(dget kvs k).isSome else (dget kvs k).isSome)) st else .bad
    | _ => .bad
  | _, _, _ => .bad
theorem din_le {neg : Bool} {sg : L2.St} {H : Hp} {Q : VK} (w : LE (gOf B X) E (opF (dinD neg) fa fb) sg H Q) : LE (gOf B X) E fa sg H fun y H1 => LE (gOf B X) E fb sg H1 fun x H2 => ∃ a o, x = .ref a ∧ DGet H2 a y o ∧ Q (.bl (if neg then !o.isSome else o.isSome)) H2 := by
  obtain ⟨q, env, st, rs, re, p⟩ := w
  refine LE.chain rs re (R.post_bind.mp p) fun x s1 q1 v H1 p e1 rs1 re1 rx => ?_
  refine LE.chain rs1 re1 ((R.post_bind.mp p).imp (fun _ _ h => h) fun _ _ h => h.ext e1) fun y s2 q2 u H2 p e2 rs2 re2 ry => ?_
  cases y with
  | ref n =>
    unfold dinD at p
    simp only at p
    split at p
    · rename_i kvs hk
      split at p
      · rename_i hok
        rw [Bool.and_eq_true] at hok
        obtain ⟨a', rfl, qa⟩ := ry.ref_inv
        obtain ⟨b, gs, qb, hb, hp⟩ := rs2.dicK hk hok.1
        rw [qa] at qb; cases qb
        obtain ⟨k, rfl, rfl⟩ := isKD_of rx hok.2
        have es : (dget kvs (dK k)).isSome = (valV gs k).isSome := by
          cases hd : dget kvs (dK k) with
          | some d => obtain ⟨w, hw, _⟩ := (dget_val k hp).1 d hd; rw [hw]; rfl
          | none => rw [(dget_val k hp).2 hd]; rfl
        rw [es] at p
        exact ⟨a', valV gs k, rfl, .inl ⟨gs, k, .inl hb, rfl, rfl⟩, p q2 _ H2 (e1.trans e2) rs2 (.bl _)⟩
      · exact False.elim p
    · exact False.elim p
  | _ => cases x <;> exact False.elim p
theorem lt_din (hu : X.A.units + 1 < cLine) (ha : PE X i (LE (gOf B X) E fa)) (hb : PE X o (LE (gOf B X) E fb)) (hm : behindInMarks .In o = false := by rfl) : PT X (.Compare i [.In] [o] pos) (LT (gOf B X) E (bF (opF (dinD false) fa fb))) :=
  (pt_cmp (pc_din hu ha hb) hm).imp fun _ _ _ w => din_le (neg := false) (bool_le w)
theorem lt_dnotin (hu : X.A.units + 1 < cLine) (ha : PE X i (LE (gOf B X) E fa)) (hb : PE X o (LE (gOf B X) E fb)) (hm : behindInMarks .NotIn o = false := by rfl) : PT X (.Compare i [.NotIn] [o] pos) (LT (gOf B X) E (bF (opF (dinD true) fa fb))) :=
  (pt_cmp (pc_dnotin hu ha hb) hm).imp fun _ _ _ w => din_le (neg := true) (bool_le w)
/-- d[k] = v -/
def dputS (fv fo fk : EF) : SF := fun env st => (fv env st).bind fun v s1 => (fo env s1).bind fun o s2 => (fk env s2).bind fun k s3 => match o with
  | .ref n => (match s3[n]? with
    | some (.dic kvs) => if (keysOk kvs && isKD k && decide (kvs.length < sizeLine)) = true then .ok (.nx env) (s3.set n (.dic (dput kvs k v))) else .bad
    | _ => .bad)
  | _ => .bad
theorem ls_dput (hu : X.A.units + 1 < cLine) (ha : PE X o (LE (gOf B X) E fa)) (hb : PE X i (LE (gOf B X) E fb)) (hc : PE X value (LE (gOf B X) E fc)) (hs : swapsWith value (some (.Subscript o i pos')) pos.line X.env = pure false := by rfl) :
    PS X (.Assign [.Subscript o i pos'] value pos) (LS (gOf B X) E (dputS fc fa fb)) := (ps_dput hu ha hb hc hs).imp fun T sg H w => by
  obtain ⟨q, env, st, rs, re, p⟩ := w
  refine LE.chain rs re (R.post_bind.mp p) fun vd s1 q1 v H1 p e1 rs1 re1 rv => ?_
  refine LE.chain rs1 re1 ((R.post_bind.mp p).imp (fun _ _ h => h) fun _ _ h => h.ext e1) fun od s2 q2 ov H2 p e2 rs2 re2 ro => ?_
  refine LE.chain rs2 re2 ((R.post_bind.mp p).imp (fun _ _ h => h) fun _ _ h => h.ext (e1.trans e2)) fun kd s3 q3 kv H3 p e3 rs3 re3 rk => ?_
  cases od with
  | ref n =>
    simp only at p
    split at p
    · rename_i kvs hk
      split at p
      · rename_i hok
        rw [Bool.and_eq_true, Bool.and_eq_true] at hok
        obtain ⟨a', rfl, qa⟩ := (ro.ext e3).ref_inv
        obtain ⟨b, gs, qb, hb, hp⟩ := rs3.dicK hk hok.1.1
        rw [qa] at qb; cases qb
        obtain ⟨k, rfl, rfl⟩ := isKD_of rk hok.1.2
        have hl : gs.length < sizeLine := by rw [← hp.length]; exact of_decide_eq_true hok.2
        have mu : Mut (H3 a') := by rw [hb]; trivial
        obtain ⟨rs4, e4⟩ := rs3.put' (u := .dK (putK gs k v)) (o := .dic (dput kvs (dK k) vd)) qa (fun zs e => by rw [hk] at e; cases e) mu (fun φ e => by rw [hb] at e; cases e) (fun ps e => by cases e) fun ext =>
          .inl ⟨_, upd_same, Paired.mapP (dput_val (rv.ext (e2.trans e3)) hp) fun p x z => ⟨z.1, z.2.ext ext⟩⟩
        exact ⟨a', _, rfl, .inl ⟨gs, k, hb, rfl, hl, rfl⟩, p q3 _ (e1.trans (e2.trans (e3.trans e4))) rs4 sg (re3.ext e4)⟩
      · exact False.elim p
    · exact False.elim p
  | _ => exact False.elim p
/-- dict(d) -/
def dictD : List D → Sto → R D
  | [.ref n], st => match st[n]? with
    | some (.dic kvs) => if keysOk kvs = true then newO (.dic kvs) st else .bad
    | _ => .bad
  | _, _ => .bad
theorem call_dictDD : CallR X (.type "dict") (LC (gOf B X) E dictD) := call_dictD.imp fun vs H Q w => by
  obtain ⟨q, st, ds, rs, rd, p⟩ := w
  unfold dictD at p
  split at p
  · split at p
    · rename_i kvs hk
      split at p
      · rename_i hok
        obtain ⟨v, rfl, r⟩ := rd.one_inv
        obtain ⟨a', rfl, qa⟩ := r.ref_inv
        obtain ⟨b, gs, qb, hb, hp⟩ := rs.dicK hk hok
        rw [qa] at qb; cases qb
        refine ⟨a', gs, rfl, .inl hb, fun u hu => ?_⟩
        have s := same_upd (o := HO.dK gs) hu
        have ex : Ext q H (q ++ [u]) (upd H u (.dK gs)) := Same.ext s hu
        have rs2 := rs.new (o := .dic kvs) hu (.inl ⟨gs, upd_same, Paired.mapP hp fun p x z => ⟨z.1, z.2.ext ex⟩⟩)
        refine p _ _ _ ex rs2 (.ref ?_)
        rw [← rs.len]; simp
      · exact False.elim p
    · exact False.elim p
  · exact False.elim p
end
end VL
namespace VL
open PySem PySem.Spec PySem.W PyProof.Rows L2 LamX NdefX
end VL
namespace PySem.SeqAt
open PySem.Spec
open AutoSeq1 (wpAny_loadPart')
open MeetsSeq MeetsSeq2 MeetsSeq3
end PySem.SeqAt
namespace VL
open PySem PySem.Spec PyProof.Rows L2 LamX NdefX
variable {B : Tb}
section
variable {X : Cx} {E : XK}
theorem uu {n c : Nat} (h : n + 64 < c) : n + 1 < c := by omega
end
end VL
namespace VL
open PySem PySem.Spec PyProof.Rows L2
variable {B : Tb}
section
variable {X : Cx} {E : XK}
/-- a call of a def that raises nothing, where others may -/
def callN (f : Fn) (fa : AF) : EF := fun env st => (fa env st).bind fun ds s => (f ds s).noex
theorem le_callN {k n : Nat} {f : Addr} {fd : FuncData} {ps : List Str} {fn : Fn} {x : Str} {p pos : Pos} {e : Expr} {es : List Expr} {fa : AF} (F : FnOk X.prog X.w X.K X.mg X.base CX0 k f fd ps (Sp0 (gOf B X) n fn)) (hr : Room k X.A) (hm : X.mg x = some (.ref f)) (hk : PySem.W.keepIn X.K (.ref f) = true) (hb : Binds X.K fd ps [])
    (ha : PA X (e :: es) (LA (gOf B X) E fa)) (hla : ∀ env st ds s, fa env st = .ok ds s → ds.length = n) (hg : Gl X x := by rfl) (hdb : (x == ("__debug__" : Str)) = false := by decide) (he : starEach (e :: es) X.env = (false, eval e X.env) :: starEach es X.env := by rfl) (hpl : (backTo pos (starEach es X.env)).any (·.1) = false := by rfl) :
    PE X (.Call (.Name x p) (e :: es) [] pos) (LE (gOf B X) E (callN fn fa)) :=
  (pe_call F hr hg hm hk hb .nil pass0 ha hdb he hpl).imp fun sg H Q w => by
    obtain ⟨q, env, st, rs, re, p⟩ := w
    have p := R.post_bind.mp p
    have p' : (fa env st).post (fun ds s => ds.length = n ∧ (fn ds s).post (KV (gOf B X) q H Q) (KX (gOf B X) q H E0)) (KX (gOf B X) q H E) := by
      cases hfa : fa env st with
      | ok ds s => rw [hfa] at p; exact ⟨hla _ _ _ _ hfa, R.post_noex p⟩
      | ex c s => rw [hfa] at p; exact p
      | bad => rw [hfa] at p; exact p
    refine LA.chain rs re p' fun xs s1 q1 vs H1 p e1 rs1 re1 rx => ?_
    rw [List.append_nil]
    exact ⟨by rw [rx.length]; exact p.1, q1, s1, xs, rs1, rx, p.2.imp (fun _ _ h => h.ext e1) fun _ _ h => h.ext e1⟩
def exS (c : Str) : SF := fun _ st => .ex c st
/-- what K says of a class of exceptions of the program -/
structure ExcR (K : PySem.W.Frag) (C : Addr) (bmB : List Value) (newId : String) : Prop where
  q : PySem.W.excIn K C bmB newId = true
  kp : PySem.W.keepIn K (.ref C) = true
  sb : PySem.W.subIn K (.ref C) (.type "BaseException") = some true
  ty : PySem.W.typeIn K (.ref C) = some (.type "type")
theorem pss_when {s : List Stmt} {α : Type} {p : α → Prop} {t : α → TS} (h : ∀ a, p a → PSs X s (t a)) : PSs X s (fun T sg H => ∃ a, p a ∧ t a T sg H) := ⟨fun pins s σ H D I ⟨a, k, w⟩ => (h a k).run pins s σ H D I w⟩
theorem kit_ref {K : PySem.W.Frag} {C D : Addr} {b : Bool} (hd : PySem.W.hasDictIn K C = true) (ht : PySem.W.typeIn K (.ref C) = some (.type "type")) (hs : PySem.W.subIn K (.ref C) (.ref C) = some true) (h : PySem.W.subIn K (.ref D) (.ref C) = some b) : PySem.W.kitOne K (.ref D) (.ref C) = some b := by
  unfold PySem.W.kitOne
  split
  · rename_i e
    have e2 : D = C := by
      have := beq_iff_eq.mp e
      injection this
    subst e2
    rw [hs] at h
    exact h
  · obtain ⟨cd, hc, _⟩ := PySem.W.any_some hd
    have e2 : ((PySem.W.clsIn K C).isSome && PySem.W.typeIn K (.ref C) == some (.type "type")) = true := by rw [hc, ht] <;> rfl
    show (if ((PySem.W.clsIn K C).isSome && PySem.W.typeIn K (.ref C) == some (.type "type")) = true then PySem.W.subIn K (.ref D) (.ref C) else none) = some b
    rw [if_pos e2]
    exact h
theorem kit_VE {K : PySem.W.Frag} {D : Addr} {b : Bool} (h : PySem.W.subIn K (.ref D) (.type "ValueError") = some b) : PySem.W.kitOne K (.ref D) (.type "ValueError") = some b := by
  unfold PySem.W.kitOne
  split
  · rename_i e
    have := beq_iff_eq.mp e
    cases this
  · show (if PySem.W.kitMeta "ValueError" = true then PySem.W.subIn K (.ref D) (.type "ValueError") else none) = some b
    rw [if_pos (by decide)]
    exact h
def truO : List D → Option (List Bool)
  | [] => some []
  | .bl b :: r => (truO r).map fun bs => b :: bs
  | _ => none
theorem truO_map : ∀ bs : List Bool, truO (bs.map D.bl) = some bs
  | [] => rfl
  | b :: bs => by rw [List.map_cons, truO, truO_map bs]; rfl
theorem RDs.truO_ {g : G} {q : List Addr} {H : Hp} : ∀ {vs : List V} {ds : List D} {bs : List Bool}, RDs g q H vs ds → truO ds = some bs → vs = bs.map V.bl
  | _, _, _, .nil, h => by cases h; rfl
  | v :: vs, d :: ds, bs, .cons r t, h => by
    cases d with
    | bl b =>
      obtain ⟨js, h1, rfl⟩ := Option.map_eq_some_iff.mp (show (truO ds).map (fun bs => b :: bs) = some bs from h)
      rw [r.bl_inv, RDs.truO_ t h1]
      rfl
    | _ => cases h
end
end VL
namespace VL
open PySem PySem.Spec PyProof.Rows L2 LamX NdefX
variable {B : Tb}
/-- a tuple that may be a key -/
def kOk : D → Bool
  | .tup xs => match nkeys xs with
    | some ks => decide ((NestedKey.tup ks).depth ≤ 8)
    | none => false
  | _ => false
theorem kOk_key {d : D} (h : kOk d = true) : ∃ xs k, d = .tup xs ∧ nkey d = some k ∧ k.depth ≤ 8 := by
  cases d with
  | tup xs =>
    unfold kOk at h
    cases e : nkeys xs with
    | none => simp only [e] at h; cases h
    | some ks =>
      simp only [e] at h
      refine ⟨xs, .tup ks, rfl, ?_, of_decide_eq_true h⟩
      unfold nkey
      rw [e]; rfl
  | _ => cases h
open Classical in
noncomputable def kEq (a b : D) : Bool := decide (nkey a = nkey b)
theorem kEq_self {a : D} : kEq a a = true := decide_eq_true rfl
noncomputable def kget (kvs : List (D × D)) (k : D) : Option D := (kvs.find? fun p => kEq p.1 k).map (·.2)
noncomputable def kput (kvs : List (D × D)) (k v : D) : List (D × D) := if (kvs.any fun p => kEq p.1 k) = true then kvs.map (fun p => if kEq p.1 k = true then (p.1, v) else p) else kvs ++ [(k, v)]
def kkeys (kvs : List (D × D)) : Bool := kvs.all fun p => kOk p.1
section
variable {X : Cx} {E : XK}
mutual
theorem RD.nested {pins : List (Addr × Obj)} {sg : L2.St} {H : Hp} {s : Shared} {q : List Addr} (I : L2.Inv X pins sg H s) : ∀ {v : V} {d : D} {k : NestedKey} {u : Value}, RD (gOf B X) q H v d → nkey d = some k → RelV v u → NestedIs s.heap k u
  | _, _, _, _, .non, e, r => by cases e; cases r; exact .none
  | _, _, _, _, .bl b, e, r => by cases e; cases r; exact .bool rfl
  | _, _, _, _, .int i, e, r => by cases e; obtain ⟨t, rfl⟩ := r; exact .int _ _
  | _, _, _, _, .str x, e, r => by cases e; obtain ⟨t, rfl⟩ := r; exact .text _ _
  | _, .tup ds, k, u, .tup h rr, e, r => by
    unfold nkey at e
    obtain ⟨ks, h1, rfl⟩ := Option.map_eq_some_iff.mp e
    cases r
    obtain ⟨its, rv, ⟨o, e1, e2, n, e3⟩, _⟩ := I.tuple h
    exact .tup e1 e2 e3 (by simpa using RDs.nested I rr h1 rv)
  | _, _, _, _, .clo _ _ _, e, _ => by unfold nkey at e; cases e
  | _, _, _, _, .exc _, e, _ => by unfold nkey at e; cases e
theorem RDs.nested {pins : List (Addr × Obj)} {sg : L2.St} {H : Hp} {s : Shared} {q : List Addr} (I : L2.Inv X pins sg H s) : ∀ {vs : List V} {ds : List D} {ks : List NestedKey} {us : List Value}, RDs (gOf B X) q H vs ds → nkeys ds = some ks → Vals vs us → NestedAll s.heap ks us
  | _, _, _, _, .nil, e, r => by cases e; cases r; exact .nil
  | _, x :: xs, ks, us, .cons a t, e, r => by
    unfold nkeys at e
    obtain ⟨k, h1, h2⟩ := Option.bind_eq_some_iff.mp e
    obtain ⟨kr, h3, rfl⟩ := Option.map_eq_some_iff.mp h2
    cases r with
    | cons r rt => exact .cons (RD.nested I a h1 r) (RDs.nested I t h3 rt)
end
abbrev RowP (g : G) (q : List Addr) (H : Hp) : D × D → NestedKey × Addr × Value → Prop := fun p x => nkey p.1 = some x.1 ∧ x.1.depth ≤ 8 ∧ RD g q H (.ref x.2.1) p.1 ∧ ∃ v, RelV v x.2.2 ∧ RD g q H v p.2
theorem kget_val {g : G} {q : List Addr} {H : Hp} {key : D} {k : NestedKey} (hk : nkey key = some k) {kvs : List (D × D)} {xs : List (NestedKey × Addr × Value)} (h : Paired (RowP g q H) kvs xs) :
    (∀ d, kget kvs key = some d → ∃ p, atKey xs k = some p ∧ ∃ v, RelV v p.2 ∧ RD g q H v d) ∧ (kget kvs key = none → atKey xs k = none) := by
  induction h with
  | nil => exact ⟨fun d e => (nomatch (show (none : Option D) = some d from e)), fun _ => rfl⟩
  | @cons p x ps xs hp _ ih =>
    obtain ⟨h1, h2, h3, h4⟩ := hp
    have hq : kEq p.1 key = decide (x.1 = k) := by
      unfold kEq
      rw [h1, hk]
      by_cases e : x.1 = k
      · rw [decide_eq_true e, decide_eq_true (by rw [e])]
      · rw [decide_eq_false e, decide_eq_false (fun z => e (Option.some.inj z))]
    unfold kget atKey at ih ⊢
    rw [List.find?_cons, List.find?_cons, hq]
    by_cases e : x.1 = k
    · rw [decide_eq_true e]
      exact ⟨fun d ed => by cases ed; exact ⟨x.2, rfl, h4⟩, fun ed => by cases ed⟩
    · rw [decide_eq_false e]
      exact ih
theorem kput_val {g : G} {q : List Addr} {H : Hp} {key : D} {k : NestedKey} {a : Addr} {v : V} {u : Value} {d : D} (hk : nkey key = some k) (hd : k.depth ≤ 8) (ra : RD g q H (.ref a) key) (rv : RelV v u) (r : RD g q H v d) {kvs : List (D × D)} {xs : List (NestedKey × Addr × Value)} (h : Paired (RowP g q H) kvs xs) : Paired (RowP g q H) (kput kvs key d) (storedH xs k a u) := by
  have any : (kvs.any fun p => kEq p.1 key) = (atKey xs k).isSome := by
    have hz := kget_val hk h
    have : (kvs.any fun p => kEq p.1 key) = (kget kvs key).isSome := by
      unfold kget
      rw [Option.isSome_map, Bool.eq_iff_iff, List.find?_isSome, List.any_eq_true]
    rw [this]
    cases e : kget kvs key with
    | some d => obtain ⟨p, hp, _⟩ := hz.1 d e; rw [hp]; rfl
    | none => rw [hz.2 e]; rfl
  unfold kput storedH
  rw [any]
  split
  · refine paired_map (fun p x hp => ?_) h
    obtain ⟨h1, h2, h3, h4⟩ := hp
    have hq : kEq p.1 key = decide (x.1 = k) := by
      unfold kEq
      rw [h1, hk]
      by_cases e : x.1 = k
      · rw [decide_eq_true e, decide_eq_true (by rw [e])]
      · rw [decide_eq_false e, decide_eq_false (fun z => e (Option.some.inj z))]
    unfold putAt
    rw [hq]
    by_cases e : x.1 = k
    · rw [decide_eq_true e, if_pos rfl, if_pos e]; exact ⟨h1, h2, h3, v, rv, r⟩
    · rw [decide_eq_false e, if_neg Bool.false_ne_true, if_neg e]; exact ⟨h1, h2, h3, h4⟩
  · exact Paired.app h (.cons ⟨hk, hd, ra, v, rv, r⟩ .nil)
/-- the dict as it lies -/
theorem RS.keyed {pins : List (Addr × Obj)} {sg : L2.St} {H : Hp} {s : Shared} {q : List Addr} {st : Sto} (I : L2.Inv X pins sg H s) (rs : RS (gOf B X) q H st) {n : Nat} {kvs : List (D × D)} (h : st[n]? = some (.dic kvs)) (hk : kkeys kvs = true) :
    ∃ a xs, q[n]? = some a ∧ (a == sysModules) = false ∧ s.heap.DictOfH (nestedKind X.prog X.w) a xs ∧ Mut (H a) ∧ kvs.length ≤ sizeLine ∧ Paired (RowP (gOf B X) q H) kvs xs := by
  obtain ⟨a, qa, ro⟩ := rs.get h
  have is : ∀ {kvs : List (D × D)} {xs : List (NestedKey × Addr × Value)}, Paired (RowP (gOf B X) q H) kvs xs → ∀ x ∈ xs, (nestedKind X.prog X.w).is s.heap x.1 x.2.1 := fun hp => by
    induction hp with
    | nil => intro x hx; cases hx
    | cons hp _ ih =>
      intro x hx
      rcases List.mem_cons.mp hx with rfl | hx
      · exact ⟨hp.2.2.1.nested I hp.1 rfl, hp.2.1⟩
      · exact ih x hx
  rcases ro with ⟨gs, h1, h2⟩ | ⟨⟨hn, hz⟩, xs, h1, hp⟩
  · cases h2 with
    | nil =>
      obtain ⟨z, hd, vs, rel, o, es, ep, e1, e2, e3, e4, e5, e6⟩ := dk_of I.hok h1
      cases rel
      refine ⟨a, [], qa, hd, ⟨o, es, ep, e1, e2, e3, ?_, fun _ hx => (nomatch hx), List.nodup_nil⟩, by rw [h1]; trivial, Nat.zero_le _, .nil⟩
      generalize es.toList = l at e5
      cases e5
      rfl
    | @cons p x ps xs hp t =>
      unfold kkeys at hk
      rw [List.all_cons, Bool.and_eq_true] at hk
      have h1 := hk.1
      rw [hp.1] at h1
      cases hx : x.1 with
      | inl i => rw [hx] at h1; cases h1
      | inr z => rw [hx] at h1; cases h1
  · obtain ⟨⟨hd, o, es, ep, e1, e2, e3, e4, e5⟩, _, _⟩ := I.hok a _ h1
    exact ⟨a, xs, qa, hd, ⟨o, es, ep, e1, e2, e3, e4, is hp, e5⟩, by rw [h1]; trivial, hz, hp⟩
/-- d[k] -/
noncomputable def kixD : D → D → Sto → R D
  | .ref n, k, st => match st[n]? with
    | some (.dic kvs) => if (kkeys kvs && kOk k) = true then (match kget kvs k with
      | some d => .ok d st
      | none => .bad) else .bad
    | _ => .bad
  | _, _, _ => .bad
variable {a o i e value : Expr} {fa fb fc : EF} {pos pos' : Pos}
theorem RD.tupA {g : G} {q : List Addr} {H : Hp} {v : V} {ds : List D} (r : RD g q H v (.tup ds)) : ∃ b, v = .ref b := by
  obtain ⟨b, xs, h, _⟩ := r.tup_inv
  exact ⟨b, h⟩
theorem le_kix (hu : X.A.units + 64 < cLine) (ha : PE X o (LE (gOf B X) E fa)) (hb : PE X i (LE (gOf B X) E fb)) (hs : NoSl i) : PE X (.Subscript o i pos) (LE (gOf B X) E (opF kixD fa fb)) := by
  refine ⟨fun pins s sg H Q I w => ?_⟩
  obtain ⟨q, env, st, rs, re, p⟩ := w
  have w2 : LE (gOf B X) E fa sg H (fun x H1 => LE (gOf B X) E fb sg H1 fun y H2 => ∃ q2 s2 xd yd, RS (gOf B X) q2 H2 s2 ∧ RD (gOf B X) q2 H2 x xd ∧ RD (gOf B X) q2 H2 y yd ∧ (kixD xd yd s2).post (KV (gOf B X) q2 H2 Q) (KX (gOf B X) q2 H2 E)) := by
    refine LE.chain rs re (R.post_bind.mp p) fun xd s1 q1 v H1 p e1 rs1 re1 rx => ?_
    refine LE.chain rs1 re1 ((R.post_bind.mp p).imp (fun _ _ h => h) fun _ _ h => h.ext e1) fun yd s2 q2 u H2 p e2 rs2 re2 ry => ?_
    exact ⟨q2, s2, xd, yd, rs2, rx.ext e2, ry, p.imp (fun _ _ h => h.ext (e1.trans e2)) fun _ _ h => h.ext (e1.trans e2)⟩
  refine subD_of PySem.F.slot_dict_getitem.lookup hs (thn (ha.run pins s sg H _ I w2) fun u s1 ⟨x, H1, I1, rx, w3⟩ => thn (hb.run pins s1 sg H1 _ I1 w3) fun iv s2 ⟨y, H2, I2, ry, q2, st2, xd, yd, rs2, rxd, ryd, p⟩ => ?_)
  unfold kixD at p
  split at p
  · rename_i n
    split at p
    · rename_i kvs hk
      split at p
      · rename_i hok
        rw [Bool.and_eq_true] at hok
        obtain ⟨a', rfl, qa⟩ := rxd.ref_inv
        cases rx
        obtain ⟨b, xs, qb, hd, dd, _, _, hp⟩ := rs2.keyed I2 hk hok.1
        rw [qa] at qb; cases qb
        obtain ⟨ts, k, rfl, hnk, hdp⟩ := kOk_key hok.2
        split at p
        · rename_i d hdd
          obtain ⟨pr, hpr, v, rv, rvd⟩ := (kget_val hnk hp).1 d hdd
          obtain ⟨c, rfl⟩ := ryd.tupA
          cases ry
          refine ⟨dd.typeIs, wpAny_getItem_heap (knd := nestedKind X.prog X.w) (show X.A.in1.units + 8 < cLine from ?_) (show (nestedKind X.prog X.w).is s2.heap k c from ⟨ryd.nested I2 hnk rfl, hdp⟩) dd hpr ⟨v, H2, I2.tok _, rv, p q2 v H2 Ext.refl rs2 rvd⟩⟩
          show X.A.units + 1 + 8 < cLine
          omega
        · exact False.elim p
      · exact False.elim p
    · exact False.elim p
  · exact False.elim p
/-- k in d -/
noncomputable def kinD (neg : Bool) : D → D → Sto → R D
  | k, .ref n, st => match st[n]? with
    | some (.dic kvs) => if (kkeys kvs && kOk k) = true then .ok (.bl (if neg then !(kget kvs k).isSome else (kget kvs k).isSome)) st else .bad
    | _ => .bad
  | _, _, _ => .bad
theorem op_kinD {neg : Bool} {op : CmpOp} (hop : op = (if neg then .NotIn else .In)) (hu : X.A.units + 64 < cLine) : OpR X (compareOp op) (LR (gOf B X) E (kinD neg)) := by
  intro pins s sg H x y v u Q I rx ry w
  obtain ⟨q, st, xd, yd, rs, rxd, ryd, p⟩ := w
  unfold kinD at p
  split at p
  · rename_i n
    split at p
    · rename_i kvs hk
      split at p
      · rename_i hok
        rw [Bool.and_eq_true] at hok
        obtain ⟨a', rfl, qa⟩ := ryd.ref_inv
        cases ry
        obtain ⟨b, xs, qb, hd, dd, _, _, hp⟩ := rs.keyed I hk hok.1
        rw [qa] at qb; cases qb
        obtain ⟨ts, k, rfl, hnk, hdp⟩ := kOk_key hok.2
        obtain ⟨c, rfl⟩ := rxd.tupA
        cases rx
        have es : (kget kvs (.tup ts)).isSome = (atKey xs k).isSome := by
          cases hd : kget kvs (.tup ts) with
          | some d => obtain ⟨w, hw, _⟩ := (kget_val hnk hp).1 d hd; rw [hw]; rfl
          | none => rw [(kget_val hnk hp).2 hd]; rfl
        rw [es] at p
        have room : X.A.in1.units + 8 < cLine := by
          show X.A.units + 1 + 8 < cLine
          omega
        have key : (nestedKind X.prog X.w).is s.heap k c := ⟨rxd.nested I hnk rfl, hdp⟩
        cases neg with
        | false =>
          subst hop
          exact wpAny_in_heap room key hd dd ⟨.bl (atKey xs k).isSome, H, I.tok _, rfl, p q _ H Ext.refl rs (.bl _)⟩
        | true =>
          subst hop
          show wpAny _ _ (do return Value.bool (!(← contains (Value.ref a') (Value.ref c)))) _ _ s
          exact wpAny_bind (wpAny_contains_heap room key hd dd (wpAny_pure ⟨.bl (!(atKey xs k).isSome), H, I.tok _, rfl, p q _ H Ext.refl rs (.bl _)⟩))
      · exact False.elim p
    · exact False.elim p
  · exact False.elim p
theorem op_knotin (hu : X.A.units + 64 < cLine) : OpR X (compareOp .NotIn) (LR (gOf B X) E (kinD true)) := op_kinD rfl hu
/-- an object of the store written, where no code objects are made -/
theorem RS.putT {g : G} {q : List Addr} {H : Hp} {st : Sto} {a : Addr} {o : O} (hT : g.B.T = []) (r : RS g q H st) {n : Nat} {u : HO} (ha : q[n]? = some a) (h0 : ∀ xs, st[n]? ≠ some (O.rl xs)) (mu : Mut (H a)) (hu : ∀ ps, u ≠ .tbl ps) (ho : Ext q H q (upd H a u) → RO g q (upd H a u) a o) : RS g q (upd H a u) (st.set n o) ∧ Ext q H q (upd H a u) := by
  have hin : a ∈ q := List.mem_of_getElem? ha
  have ext : Ext q H q (upd H a u) := ⟨⟨[], by simp⟩, fun b xs h => by
    have hb : b ≠ a := fun e => by
      subst e
      rcases h with h | ⟨ob, h⟩
      · rw [h] at mu; exact mu
      · rw [h] at mu; exact mu
    rcases h with h | ⟨ob, h⟩
    · exact .inl (by rw [upd_ne hb]; exact h)
    · exact .inr ⟨ob, by rw [upd_ne hb]; exact h⟩, fun b o h n _ => by
      have hb : b ≠ a := fun e => n (by rw [e]; exact hin)
      rw [upd_ne hb]; exact h, fun b ⟨o, h, t⟩ => by
      by_cases hb : b = a
      · subst hb; exact ⟨u, upd_same, hu⟩
      · exact ⟨o, by rw [upd_ne hb]; exact h, t⟩, fun b o v h => by
      have hb : b ≠ a := fun e => by
        subst e
        rw [h] at mu; exact mu
      rw [upd_ne hb]; exact h⟩
  have tabs : Tabs g.B.T (upd H a u) := fun p hp => by rw [hT] at hp; cases hp
  have hl : n < st.length := by rw [← r.len]; exact (List.getElem?_eq_some_iff.mp ha).1
  have other : ∀ m : Nat, q[m]? = some a → m ≠ n → ∃ xs, st[m]? = some (O.rl xs) := fun m hm hne => by
    rcases r.nd m n a hm ha with z | z | ⟨xs, z⟩
    · exact absurd z hne
    · exact z
    · exact absurd z (h0 xs)
  refine ⟨⟨by simp [r.len], fun m k b h1 h2 => ?_, fun m b x h1 h2 => ?_, tabs⟩, ext⟩
  · by_cases e : m = k
    · exact .inl e
    · have keep : ∀ {j : Nat} {xs : List D}, st[j]? = some (O.rl xs) → (st.set n o)[j]? = some (O.rl xs) := fun {j xs} z => by
        have : n ≠ j := fun e => h0 xs (by rw [e]; exact z)
        rw [List.getElem?_set_ne this]; exact z
      rcases r.nd m k b h1 h2 with z | ⟨xs, z⟩ | ⟨xs, z⟩
      · exact .inl z
      · exact .inr (.inl ⟨xs, keep z⟩)
      · exact .inr (.inr ⟨xs, keep z⟩)
  · by_cases e : m = n
    · subst e
      rw [ha] at h1; cases h1
      rw [List.getElem?_set_self hl] at h2
      cases h2
      exact ho ext
    · rw [List.getElem?_set_ne (Ne.symm e)] at h2
      have z := r.at_ m b x h1 h2
      by_cases hb : b = a
      · subst hb
        obtain ⟨xs, hx⟩ := other m h1 e
        rw [h2] at hx; cases hx
        obtain ⟨ys, hy, ry⟩ := z
        rcases hy with ⟨ob, hy⟩ | hy
        · rw [hy] at mu; exact False.elim mu
        · exact ⟨ys, .inr hy, ry.ext ext⟩
      · exact z.stay ext (upd_ne hb)
theorem kput_ne {kvs : List (D × D)} {k v : D} : kput kvs k v ≠ [] := by
  unfold kput
  split
  · rename_i h
    intro e
    rw [List.map_eq_nil_iff] at e
    rw [e] at h
    cases h
  · exact fun e => by simp at e
theorem kput_len {kvs : List (D × D)} {k v : D} : (kput kvs k v).length ≤ kvs.length + 1 := by
  unfold kput
  split
  · rw [List.length_map]; omega
  · rw [List.length_append]; exact Nat.le_refl _
/-- d[k] = v -/
noncomputable def kputS (fv fo fk : EF) : SF := fun env st => (fv env st).bind fun v s1 => (fo env s1).bind fun o s2 => (fk env s2).bind fun k s3 => match o with
  | .ref n => (match s3[n]? with
    | some (.dic kvs) => if (kkeys kvs && kOk k && decide (kvs.length < sizeLine)) = true then .ok (.nx env) (s3.set n (.dic (kput kvs k v))) else .bad
    | _ => .bad)
  | _ => .bad
theorem ls_kput (hB : B.T = []) (hu : X.A.units + 64 < cLine) (ha : PE X o (LE (gOf B X) E fa)) (hb : PE X i (LE (gOf B X) E fb)) (hc : PE X value (LE (gOf B X) E fc)) (hs : swapsWith value (some (.Subscript o i pos')) pos.line X.env = pure false := by rfl) :
    PS X (.Assign [.Subscript o i pos'] value pos) (LS (gOf B X) E (kputS fc fa fb)) := by
  refine ⟨fun pins s sg H T I w => ?_⟩
  obtain ⟨q, env, st, rs, re, p⟩ := w
  have w2 : LE (gOf B X) E fc sg H (fun v H1 => LE (gOf B X) E fa sg H1 fun x H2 => LE (gOf B X) E fb sg H2 fun y H3 => ∃ q3 s3 vd xd yd, RS (gOf B X) q3 H3 s3 ∧ RE (gOf B X) q3 H3 sg env ∧ RD (gOf B X) q3 H3 v vd ∧ RD (gOf B X) q3 H3 x xd ∧ RD (gOf B X) q3 H3 y yd ∧
      (match xd with
        | .ref n => (match s3[n]? with
          | some (.dic kvs) => if (kkeys kvs && kOk yd && decide (kvs.length < sizeLine)) = true then .ok (.nx env) (s3.set n (.dic (kput kvs yd vd))) else .bad
          | _ => .bad)
        | _ => .bad : R Fl).post (KS (gOf B X) q3 H3 T) (KX (gOf B X) q3 H3 E)) := by
    refine LE.chain rs re (R.post_bind.mp p) fun vd s1 q1 v H1 p e1 rs1 re1 rv => ?_
    refine LE.chain rs1 re1 ((R.post_bind.mp p).imp (fun _ _ h => h) fun _ _ h => h.ext e1) fun od s2 q2 ov H2 p e2 rs2 re2 ro => ?_
    refine LE.chain rs2 re2 ((R.post_bind.mp p).imp (fun _ _ h => h) fun _ _ h => h.ext (e1.trans e2)) fun kd s3 q3 kv H3 p e3 rs3 re3 rk => ?_
    exact ⟨q3, s3, vd, od, kd, rs3, re3, rv.ext (e2.trans e3), ro.ext e3, rk, p.imp (fun _ _ h => h.ext (e1.trans (e2.trans e3))) fun _ _ h => h.ext (e1.trans (e2.trans e3))⟩
  refine wpAny_Assign_Subscript (thn (hc.run pins s sg H _ I w2) fun r s1 ⟨v, H1, I1, rv, w3⟩ => thn (ha.run pins s1 sg H1 _ I1 w3) fun u s2 ⟨x, H2, I2, rx, w4⟩ => thn (hb.run pins s2 sg H2 _ I2 w4) fun iv s3 ⟨y, H3, I3, ry, q3, st3, vd, xd, yd, rs3, re3, rvd, rxd, ryd, p⟩ => ?_) hs
  split at p
  · rename_i n
    split at p
    · rename_i kvs hk
      split at p
      · rename_i hok
        rw [Bool.and_eq_true, Bool.and_eq_true] at hok
        obtain ⟨a', rfl, qa⟩ := rxd.ref_inv
        cases rx
        obtain ⟨b, xs, qb, hd, dd, mu, _, hp⟩ := rs3.keyed I3 hk hok.1.1
        rw [qa] at qb; cases qb
        obtain ⟨ts, k, rfl, hnk, hdp⟩ := kOk_key hok.1.2
        obtain ⟨c, rfl⟩ := ryd.tupA
        cases ry
        have hl : kvs.length < sizeLine := of_decide_eq_true hok.2
        have hl2 : xs.length < sizeLine := by rw [← hp.length]; exact hl
        have room : X.A.in1.units + 8 < cLine := by
          show X.A.units + 1 + 8 < cLine
          omega
        refine wpAny_setItem_heap (knd := nestedKind X.prog X.w) (hsz := by omega) room (show (nestedKind X.prog X.w).is s3.heap k c from ⟨ryd.nested I3 hnk rfl, hdp⟩) dd fun h' dd' hsb => ?_
        obtain ⟨rs4, e4⟩ := rs3.putT (u := .ext (rawK (gOf B X) a' (storedH xs k c r))) (o := .dic (kput kvs (.tup ts) vd)) hB qa (fun zs e => by rw [hk] at e; cases e) mu (fun ps e => by cases e) fun ext =>
          .inr ⟨⟨kput_ne, by have := kput_len (kvs := kvs) (k := .tup ts) (v := vd); omega⟩, _, upd_same, kput_val hnk hdp (ryd.ext ext) rv (rvd.ext ext) (Paired.mapP hp fun p x ⟨z1, z2, z3, v, z4, z5⟩ => ⟨z1, z2, z3.ext ext, v, z4, z5.ext ext⟩)⟩
        obtain ⟨o', es, ep, g1, g2, g3, g4, _, g5⟩ := dd'
        have I4 : L2.Inv X pins sg (upd H3 a' (.ext (rawK (gOf B X) a' (storedH xs k c r)))) { s3 with heap := h', toks := s3.toks + (nestedKind X.prog X.w).draws k } := by
          refine d_write I3 mu hsb ⟨o', g1⟩ ⟨⟨hd, o', es, ep, g1, g2, g3, g4, g5⟩, ⟨o', g1⟩, fun h1 h2 ⟨z0, z, z1, z2, z3, z4, z5, z6, z7⟩ kp => ⟨z0, z, z1, z2, kp _ z3, z4, z5, z6, z7⟩⟩
        exact ⟨sg, _, I4, p q3 _ e4 rs4 sg (re3.ext e4)⟩
      · exact False.elim p
    · exact False.elim p
  · exact False.elim p
end
end VL
namespace VL
open PySem PySem.Spec PyProof.Rows L2 LamX NdefX
variable {B : Tb}
/-- the attributes of the n-th object, an instance of c -/
def insAt (c : Str) (st : Sto) (n : Nat) : Option (List (Str × D)) := match st[n]? with
  | some (.ins c' fs) => if c' = c then some fs else none
  | _ => none
theorem insAt_ins {c : Str} {st : Sto} {n : Nat} {fs : List (Str × D)} (h : st[n]? = some (.ins c fs)) : insAt c st n = some fs := by
  unfold insAt
  rw [h]
  exact if_pos rfl
theorem insAt_eq {c : Str} {st : Sto} {n : Nat} {fs : List (Str × D)} (h : insAt c st n = some fs) : st[n]? = some (.ins c fs) := by
  unfold insAt at h
  cases e : st[n]? with
  | none => rw [e] at h; cases h
  | some o =>
    rw [e] at h
    cases o with
    | ins c' fs' =>
      have h : (if c' = c then some fs' else none) = some fs := h
      by_cases hc : c' = c
      · rw [if_pos hc] at h; cases h; rw [hc]
      · rw [if_neg hc] at h; cases h
    | _ => cases h
abbrev PF (g : G) (q : List Addr) (H : Hp) : Str × D → Str × V → Prop := fun p x => p.1 = x.1 ∧ RD g q H x.2 p.2
theorem RS.ins {g : G} {q : List Addr} {H : Hp} {st : Sto} (rs : RS g q H st) {n : Nat} {c : Str} {fs : List (Str × D)} {C : Addr} (h : insAt c st n = some fs) (hm : g.mg c = some (.ref C)) : ∃ a dx gs, q[n]? = some a ∧ H a = some (.ins C dx gs) ∧ Paired (PF g q H) fs gs := by
  obtain ⟨a, qa, C', dx, gs, h1, h2, h3⟩ := rs.get (insAt_eq h)
  rw [hm] at h1
  cases h1
  exact ⟨a, dx, gs, qa, h2, h3⟩
theorem lookup_pair {g : G} {q : List Addr} {H : Hp} {f : Str} : ∀ {fs : List (Str × D)} {gs : List (Str × V)}, Paired (PF g q H) fs gs → (∀ d, fs.lookup f = some d → ∃ v, gs.lookup f = some v ∧ RD g q H v d) ∧ (fs.lookup f = none → gs.lookup f = none)
  | _, _, .nil => ⟨fun d e => (nomatch e), fun _ => rfl⟩
  | (k, d) :: fs, (k', v) :: gs, .cons hp t => by
    obtain ⟨h1, h2⟩ := hp
    have h1 : k = k' := h1
    subst h1
    have ih := lookup_pair (f := f) t
    by_cases e : f = k
    · have hb : (f == k) = true := beq_iff_eq.mpr e
      simp only [List.lookup, hb]
      exact ⟨fun d e => by cases e; exact ⟨v, rfl, h2⟩, fun e => by cases e⟩
    · have hb : (f == k) = false := beq_eq_false_iff_ne.mpr e
      simp only [List.lookup, hb]
      exact ih
/-- o.f -/
def fldK (c f : Str) : D → Sto → R D
  | .ref n, st => match (insAt c st n).bind (fun fs => fs.lookup f) with
    | some d => .ok d st
    | none => .bad
  | _, _ => .bad
def putFD (f : Str) (v : D) : List (Str × D) → List (Str × D)
  | [] => [(f, v)]
  | (g, x) :: r => if g = f then (g, v) :: r else (g, x) :: putFD f v r
theorem putFD_pair {g : G} {q : List Addr} {H : Hp} {f : Str} {v : V} {d : D} (r : RD g q H v d) : ∀ {fs : List (Str × D)} {gs : List (Str × V)}, Paired (PF g q H) fs gs → Paired (PF g q H) (putFD f d fs) (putF f v gs)
  | _, _, .nil => .cons ⟨rfl, r⟩ .nil
  | (k, d') :: fs, (k', v') :: gs, .cons hp t => by
    obtain ⟨h1, h2⟩ := hp
    have h1 : k = k' := h1
    subst h1
    unfold putFD putF
    by_cases e : k = f
    · rw [if_pos e, if_pos e]; exact .cons ⟨rfl, r⟩ t
    · rw [if_neg e, if_neg e]; exact .cons ⟨rfl, h2⟩ (putFD_pair r t)
/-- o.f = v -/
def fsetS (c f : Str) (fo fv : EF) : SF := fun env st => (fv env st).bind fun v s1 => (fo env s1).bind fun o s2 => match o with
  | .ref n => (match insAt c s2 n with
    | some fs => if fs.length < 1000 then .ok (.nx env) (s2.set n (.ins c (putFD f v fs))) else .bad
    | none => .bad)
  | _ => .bad
/-- o.m(..) -/
def methO (c m : Str) (fn : Fn) (fo : EF) (fa : AF) : EF := fun env st => (fo env st).bind fun d s => match d with
  | .ref n => (match insAt c s n with
    | some fs => if (fs.lookup m).isNone = true then (fa env s).bind fun ds s' => fn (.ref n :: ds) s' else .bad
    | none => .bad)
  | _ => .bad
/-- c(..) -/
def makeF (c : Str) (fn : Fn) (fa : AF) : EF := fun env st => (fa env st).bind fun ds s => (fn (.ref s.length :: ds) (s ++ [.ins c []])).bind fun v s' => match v with
  | .non => .ok (.ref s.length) s'
  | _ => .bad
section
variable {X : Cx} {E : XK} {e o value : Expr} {fa fo fv : EF} {c f m : Str} {C : Addr} {pos pos' apos p : Pos}
theorem le_fld (cl : Cls X.K C) (na : NoAttr X.K C f) (hm : X.mg c = some (.ref C)) (ha : PE X e (LE (gOf B X) E fa)) (hb : attributeBase e f X.env (eval e X.env) = eval e X.env := by rfl) : PE X (.Attribute e f pos) (LE (gOf B X) E (un1 (fldK c f) fa)) := (pe_fld ha hb).imp fun sg H Q w => by
  obtain ⟨q, env, st, rs, re, p⟩ := w
  refine LE.chain rs re (R.post_bind.mp p) fun x s1 q1 v H1 p e1 rs1 re1 rx => ?_
  unfold fldK at p
  split at p
  · rename_i n
    split at p
    · rename_i d hd
      obtain ⟨fs, h1, h2⟩ := Option.bind_eq_some_iff.mp hd
      obtain ⟨a, rfl, qa⟩ := rx.ref_inv
      obtain ⟨a', dx, gs, qa', ea, hp⟩ := rs1.ins h1 hm
      rw [qa] at qa'; cases qa'
      obtain ⟨u, hu, ru⟩ := (lookup_pair hp).1 d h2
      exact ⟨a, C, dx, gs, u, rfl, ea, cl, na, hu, p q1 u H1 e1 rs1 ru⟩
    · exact False.elim p
  · exact False.elim p
theorem ls_fset (cl : Cls X.K C) (na : NoAttr X.K C f) (hm : X.mg c = some (.ref C)) (ha : PE X o (LE (gOf B X) E fo)) (hv : PE X value (LE (gOf B X) E fv)) (hs : swapsWith value (some (.Attribute o f pos')) pos.line X.env = pure false := by rfl) :
    PS X (.Assign [.Attribute o f pos'] value pos) (LS (gOf B X) E (fsetS c f fo fv)) := (ps_fld ha hv hs).imp fun T sg H w => by
  obtain ⟨q, env, st, rs, re, p⟩ := w
  refine LE.chain rs re (R.post_bind.mp p) fun vd s1 q1 v H1 p e1 rs1 re1 rv => ?_
  refine LE.chain rs1 re1 ((R.post_bind.mp p).imp (fun _ _ h => h) fun _ _ h => h.ext e1) fun x s2 q2 u H2 p e2 rs2 re2 rx => ?_
  split at p
  · rename_i n
    split at p
    · rename_i fs h1
      split at p
      · rename_i hl
        obtain ⟨a, rfl, qa⟩ := rx.ref_inv
        obtain ⟨a', dx, gs, qa', ea, hp⟩ := rs2.ins h1 hm
        rw [qa] at qa'; cases qa'
        have mu : Mut (H2 a) := by rw [ea]; trivial
        obtain ⟨rs3, e3⟩ := rs2.put' (u := .ins C dx (putF f v gs)) (o := .ins c (putFD f vd fs)) qa (fun zs z => by rw [insAt_eq h1] at z; cases z) mu (fun φ z => by rw [ea] at z; cases z) (fun ps z => by cases z) fun ext =>
          ⟨C, dx, _, hm, upd_same, Paired.mapP (putFD_pair (rv.ext e2) hp) fun p x z => ⟨z.1, z.2.ext ext⟩⟩
        exact ⟨a, C, dx, gs, rfl, ea, cl, na, by rw [← hp.length]; exact hl, p q2 _ (e1.trans (e2.trans e3)) rs3 sg (re2.ext e3)⟩
      · exact False.elim p
    · exact False.elim p
  · exact False.elim p
section
variable {k n : Nat} {g : Addr} {fd : FuncData} {ps : List Str} {fn : Fn} {a : Expr} {es : List Expr} {fas : AF}
theorem le_meth {pl : Sem Bool} (F : FnOk X.prog X.w X.K X.mg X.base CX0 k g fd ps (Sp0 (gOf B X) (n + 1) fn)) (hr : Room k X.A) (cl : Cls X.K C) (hme : Meth X.K C m g) (hm : X.mg c = some (.ref C)) (hb : Binds X.K fd ps [])
    (ho : PE X o (LE (gOf B X) E0 fo)) (ha : PA X (a :: es) (LA (gOf B X) E0 fas)) (hla : ∀ env st ds s, fas env st = .ok ds s → ds.length = n)
    (hst : starEach (a :: es) X.env = (false, eval a X.env) :: starEach es X.env := by rfl) (hpl : (backTo pos (starEach es X.env)).any (·.1) = false := by rfl)
    (ht : eval (.Call (.Attribute o m apos) (a :: es) [] pos) X.env = (do
      let ov ← eval o X.env
      standAt apos.atName
      let (f, first) ← holding [ov] (getMethod ov m pl)
      callWith pos f first (backTo pos (starEach (a :: es) X.env)) (backToKw pos (keywordEach [] X.env))) := by rfl) :
    PE X (.Call (.Attribute o m apos) (a :: es) [] pos) (LE (gOf B X) E0 (methO c m fn fo fas)) :=
  (pe_meth ho cl hme F hr hb .nil pass0 ha hst hpl ht).imp fun sg H Q w => by
    obtain ⟨q, env, st, rs, re, p⟩ := w
    refine LE.chain rs re (R.post_bind.mp p) fun x s1 q1 v H1 p e1 rs1 re1 rx => ?_
    split at p
    · rename_i nn
      split at p
      · rename_i fs h1
        split at p
        · rename_i hl
          obtain ⟨b, rfl, qb⟩ := rx.ref_inv
          obtain ⟨b', dx, gs, qb', eb, hp⟩ := rs1.ins h1 hm
          rw [qb] at qb'; cases qb'
          refine ⟨b, dx, gs, rfl, eb, (lookup_pair hp).2 (Option.isNone_iff_eq_none.mp hl), ?_⟩
          have p := R.post_bind.mp p
          have p' : (fas env s1).post (fun ds s => ds.length = n ∧ (fn (.ref nn :: ds) s).post (KV (gOf B X) q H Q) (KX (gOf B X) q H E0)) (KX (gOf B X) q1 H1 E0) := by
            cases hfa : fas env s1 with
            | ok ds s => rw [hfa] at p; exact ⟨hla _ _ _ _ hfa, p⟩
            | ex c s => rw [hfa] at p; exact KX.ext e1 p
            | bad => rw [hfa] at p; exact p
          refine LA.chain rs1 re1 p' fun xs s2 q2 vs H2 p e2 rs2 re2 rx2 => ?_
          rw [List.append_nil]
          exact ⟨by rw [List.length_cons, rx2.length, p.1], q2, s2, .ref nn :: xs, rs2, .cons (.ref (e2.at qb)) rx2, p.2.imp (fun _ _ h => h.ext (e1.trans e2)) fun _ _ h => h.ext (e1.trans e2)⟩
        · exact False.elim p
      · exact False.elim p
    · exact False.elim p
theorem le_meth0 {pl : Sem Bool} (F : FnOk X.prog X.w X.K X.mg X.base CX0 k g fd ps (Sp0 (gOf B X) 1 fn)) (hr : Room k X.A) (cl : Cls X.K C) (hme : Meth X.K C m g) (hm : X.mg c = some (.ref C)) (hb : Binds X.K fd ps [])
    (ho : PE X o (LE (gOf B X) E0 fo))
    (ht : eval (.Call (.Attribute o m apos) [] [] pos) X.env = (do
      let ov ← eval o X.env
      standAt apos.atName
      let (f, first) ← holding [ov] (getMethod ov m pl)
      callWith pos f first (backTo pos (starEach [] X.env)) (backToKw pos (keywordEach [] X.env))) := by rfl) :
    PE X (.Call (.Attribute o m apos) [] [] pos) (LE (gOf B X) E0 (methO c m fn fo nilA)) :=
  (pe_meth0 ho cl hme F hr hb .nil pass0 ht).imp fun sg H Q w => by
    obtain ⟨q, env, st, rs, re, p⟩ := w
    refine LE.chain rs re (R.post_bind.mp p) fun x s1 q1 v H1 p e1 rs1 re1 rx => ?_
    split at p
    · rename_i nn
      split at p
      · rename_i fs h1
        split at p
        · rename_i hl
          obtain ⟨b, rfl, qb⟩ := rx.ref_inv
          obtain ⟨b', dx, gs, qb', eb, hp⟩ := rs1.ins h1 hm
          rw [qb] at qb'; cases qb'
          refine ⟨b, dx, gs, rfl, eb, (lookup_pair hp).2 (Option.isNone_iff_eq_none.mp hl), ?_⟩
          exact ⟨rfl, q1, s1, [.ref nn], rs1, .cons (.ref qb) .nil, (show (fn [.ref nn] s1).post _ _ from p).imp (fun _ _ h => h.ext e1) fun _ _ h => h.ext e1⟩
        · exact False.elim p
      · exact False.elim p
    · exact False.elim p
/-- the new instance -/
theorem ins_new {g : G} {q : List Addr} {H : Hp} {st : Sto} {x dx : Addr} (rs : RS g q H st) (hm : g.mg c = some (.ref C)) (hx : H x = none) (hdx : H dx = none) (hne : dx ≠ x) :
    Ext q H (q ++ [x]) (upd (upd H dx (.own x)) x (.ins C dx [])) ∧ RS g (q ++ [x]) (upd (upd H dx (.own x)) x (.ins C dx [])) (st ++ [.ins c []]) ∧ (q ++ [x])[st.length]? = some x := by
  have s1 : Same H (upd H dx (.own x)) := same_upd hdx
  have rs1 := rs.same s1
  have hx1 : upd H dx (.own x) x = none := by rw [upd_ne (Ne.symm hne)]; exact hx
  refine ⟨(Same.ext0 s1).trans (Same.ext (same_upd hx1) hx1), rs1.new (o := .ins c []) hx1 ⟨C, dx, [], hm, upd_same, .nil⟩, ?_⟩
  rw [← rs.len]
  simp
theorem le_make0 {x : Str} (M : Mk X.K C g) (F : FnOk X.prog X.w X.K X.mg X.base CX0 k g fd ps (Sp0 (gOf B X) 1 fn)) (hr : Room (k + 1) X.A) (hm : X.mg x = some (.ref C)) (hb : Binds X.K fd ps []) (hg : Gl X x := by rfl)
    (hdb : (x == ("__debug__" : Str)) = false := by decide) : PE X (.Call (.Name x p) [] [] pos) (LE (gOf B X) E0 (makeF x fn nilA)) :=
  (pe_make0 M F hr hg hm hb .nil pass0 hdb).imp fun sg H Q w => by
    obtain ⟨q, env, st, rs, re, pp⟩ := w
    intro z dz hz hdz hne
    obtain ⟨e1, rs1, qz⟩ := ins_new rs hm hz hdz hne
    refine ⟨rfl, q ++ [z], st ++ [.ins x []], [.ref st.length], rs1, .cons (.ref qz) .nil, ?_⟩
    have pp : ((fn [.ref st.length] (st ++ [.ins x []])).bind fun v s' => match v with | .non => R.ok (D.ref st.length) s' | _ => .bad).post _ _ := pp
    refine (R.post_bind.mp pp).imp (fun d s' h q2 v H2 e2 rs2 rv => ?_) fun _ _ h => h.ext e1
    cases d with
    | non => exact ⟨rv.non_inv, h q2 _ H2 (e1.trans e2) rs2 (.ref (e2.at qz))⟩
    | _ => exact False.elim h
end
end
end VL
namespace VL
open PySem PySem.Spec PyProof.Rows L2 LamX NdefX
end VL
namespace VL
open PySem PySem.Spec PyProof.Rows L2 LamX NdefX
variable {B : Tb}
/-- as Ext, but what is locked may be unlocked -/
structure ExtW (q : List Addr) (H : Hp) (q' : List Addr) (H' : Hp) : Prop where
  pre : ∃ m, q' = q ++ m ∧ ∀ a ∈ m, ¬ Live H a
  tup : ∀ a xs, Rd H a (.tup xs) → Rd H' a (.tup xs)
  rest : ∀ a o, H a = some o → a ∉ q → (∀ ps, o ≠ .tbl ps) → H' a = some o
  live : ∀ a, Live H a → Live H' a
theorem Ext.w {q q' : List Addr} {H H' : Hp} (e : Ext q H q' H') : ExtW q H q' H' := ⟨e.pre, e.tup, e.rest, e.live⟩
theorem ExtW.notin {q q' : List Addr} {H H' : Hp} (e : ExtW q H q' H') {a : Addr} (l : Live H a) (n : a ∉ q) : a ∉ q' := by
  obtain ⟨m, rfl, hm⟩ := e.pre
  intro z
  rcases List.mem_append.mp z with z | z
  · exact n z
  · exact hm a z l
theorem ExtW.less {q q' : List Addr} {H H' : Hp} (e : ExtW q H q' H') (cl : List (Str × Addr)) : ExtW q (less H cl) q' (VL.less H' cl) := by
  obtain ⟨m, rfl, hm⟩ := e.pre
  exact ⟨⟨m, rfl, fun a ha z => hm a ha (less_live.mp z).2⟩, fun a xs h => less_rd.mpr ⟨(less_rd.mp h).1, e.tup a xs (less_rd.mp h).2⟩, fun a o h n t => less_some.mpr ⟨(less_some.mp h).1, e.rest a o (less_some.mp h).2 n t⟩, fun a h => less_live.mpr ⟨(less_live.mp h).1, e.live a (less_live.mp h).2⟩⟩
theorem CloAt.extW {q q' : List Addr} {H H' : Hp} {f : Addr} {S : NFS} {cl : List (Str × Addr)} {c : Addr} {ws : List V} (e : ExtW q H q' H') (x : CloAt q H f S cl c ws) : CloAt q' H' f S cl c ws where
  fn := e.rest _ _ x.fn x.fq cloO_ne
  fq := e.notin ⟨_, x.fn, cloO_ne⟩ x.fq
  code := e.rest _ _ x.code x.cq codeO_ne
  cq := e.notin ⟨_, x.code, codeO_ne⟩ x.cq
  all := fun p h => by
    obtain ⟨n, w, z⟩ := x.all p h
    exact ⟨e.notin ⟨_, z, cellO_ne⟩ n, w, e.rest _ _ z n cellO_ne⟩
  inj := x.inj
  len := x.len
  has := fun i y h => by
    obtain ⟨a, w, h1, h2, h3⟩ := x.has i y h
    exact ⟨a, w, h1, h2, e.rest _ _ h3 (x.all (y, a) (PySem.mem_of_lookup h1)).1 cellO_ne⟩
theorem ExtW.at {q q' : List Addr} {H H' : Hp} (e : ExtW q H q' H') {n : Nat} {a : Addr} (h : q[n]? = some a) : q'[n]? = some a := by
  obtain ⟨m, rfl, _⟩ := e.pre
  rw [List.getElem?_append_left (List.getElem?_eq_some_iff.mp h).1]
  exact h
theorem sqT_extW {K : PySem.W.Frag} {q q' : List Addr} {H H' : Hp} {a : Addr} {xs : List V} (e : ExtW q H q' H') (h : SqT K H a xs) : SqT K H' a xs := by
  rcases h with h | h
  · exact .inl (e.tup _ _ h)
  · exact .inr h
section
variable {g : G} {q q' : List Addr}
mutual
theorem RD.extW {H H' : Hp} (e : ExtW q H q' H') : ∀ {v : V} {d : D}, RD g q H v d → RD g q' H' v d
  | _, _, .non => .non
  | _, _, .bl b => .bl b
  | _, _, .int i => .int i
  | _, _, .str x => .str x
  | _, _, .tup h r => .tup (sqT_extW e h) (RDs.extW e r)
  | _, _, .ref h => .ref (e.at h)
  | _, _, .glb h => .glb h
  | _, _, .ty n => .ty n
  | _, _, .clo h x r => .clo h (x.extW e) (RDs.extW (e.less _) r)
  | _, _, .exc h => .exc h
theorem RDs.extW {H H' : Hp} (e : ExtW q H q' H') : ∀ {vs : List V} {ds : List D}, RDs g q H vs ds → RDs g q' H' vs ds
  | _, _, .nil => .nil
  | _, _, .cons r t => .cons (RD.extW e r) (RDs.extW e t)
end
theorem RE.extW {H H' : Hp} {sg : L2.St} {env : EnvD} (e : ExtW q H q' H') (r : RE g q H sg env) : RE g q' H' sg env := Paired.mapP r fun v d z x hx => let ⟨y, h1, h2⟩ := z x hx; ⟨y, h1, h2.extW e⟩
theorem RO.stayW {H H' : Hp} {a : Addr} {o : O} (e : ExtW q H q' H') (h0 : H' a = H a) (r : RO g q H a o) : RO g q' H' a o := by
  cases o with
  | lst ds => obtain ⟨xs, h, r⟩ := r; exact ⟨xs, h0.trans h, r.extW e⟩
  | rl ds =>
    obtain ⟨xs, h, r⟩ := r
    refine ⟨xs, ?_, r.extW e⟩
    rcases h with ⟨ob, h⟩ | h
    · exact .inl ⟨ob, h0.trans h⟩
    · exact .inr h
  | dic kvs =>
    rcases r with ⟨gs, h, r⟩ | ⟨hz, xs, h, r⟩
    · exact .inl ⟨gs, h0.trans h, Paired.mapP r fun p x z => ⟨z.1, z.2.extW e⟩⟩
    · exact .inr ⟨hz, xs, h0.trans h, Paired.mapP r fun p x ⟨z1, z2, z3, v, z4, z5⟩ => ⟨z1, z2, z3.extW e, v, z4, z5.extW e⟩⟩
  | fd kvs =>
    obtain ⟨od, gs, h, r⟩ := r
    exact ⟨od, gs, h0.trans h, Paired.mapP r fun p x z => ⟨z.1, z.2.extW e⟩⟩
  | ins c fs =>
    obtain ⟨C, dx, gs, hc, h, r⟩ := r
    exact ⟨C, dx, gs, hc, h0.trans h, Paired.mapP r fun p x z => ⟨z.1, z.2.extW e⟩⟩
/-- the lock taken off -/
theorem RS.unlock {H : Hp} {s : Sto} {a : Addr} {n : Nat} {od : Obj} {gs : List (Key × V)} {kvs : List (D × D)} (hT : g.B.T = []) (r : RS g q H s) (ha : q[n]? = some a) (hs : s[n]? = some (.fd kvs)) (hd : H a = some (.frz od (.dK gs))) :
    RS g q (upd H a (.dK gs)) (s.set n (.dic kvs)) ∧ ExtW q H q (upd H a (.dK gs)) := by
  have hin : a ∈ q := List.mem_of_getElem? ha
  have ext : ExtW q H q (upd H a (.dK gs)) := ⟨⟨[], by simp⟩, fun b xs h => by
    have hb : b ≠ a := fun e => by
      subst e
      rcases h with h | ⟨ob, h⟩
      · rw [h] at hd; cases hd
      · rw [h] at hd; cases hd
    rcases h with h | ⟨ob, h⟩
    · exact .inl (by rw [upd_ne hb]; exact h)
    · exact .inr ⟨ob, by rw [upd_ne hb]; exact h⟩, fun b o h n _ => by
      have hb : b ≠ a := fun e => n (by rw [e]; exact hin)
      rw [upd_ne hb]; exact h, fun b ⟨o, h, t⟩ => by
      by_cases hb : b = a
      · subst hb; exact ⟨_, upd_same, fun ps z => by cases z⟩
      · exact ⟨o, by rw [upd_ne hb]; exact h, t⟩⟩
  have tabs : Tabs g.B.T (upd H a (.dK gs)) := fun p hp => by rw [hT] at hp; cases hp
  have hl : n < s.length := by rw [← r.len]; exact (List.getElem?_eq_some_iff.mp ha).1
  have h0 : ∀ xs, s[n]? ≠ some (O.rl xs) := fun xs e => by rw [hs] at e; cases e
  have other : ∀ m : Nat, q[m]? = some a → m ≠ n → ∃ xs, s[m]? = some (O.rl xs) := fun m hm hne => by
    rcases r.nd m n a hm ha with z | z | ⟨xs, z⟩
    · exact absurd z hne
    · exact z
    · exact absurd z (h0 xs)
  refine ⟨⟨by simp [r.len], fun m k b h1 h2 => ?_, fun m b x h1 h2 => ?_, tabs⟩, ext⟩
  · by_cases e : m = k
    · exact .inl e
    · have keep : ∀ {j : Nat} {xs : List D}, s[j]? = some (O.rl xs) → (s.set n (O.dic kvs))[j]? = some (O.rl xs) := fun {j xs} z => by
        have : n ≠ j := fun e => h0 xs (by rw [e]; exact z)
        rw [List.getElem?_set_ne this]; exact z
      rcases r.nd m k b h1 h2 with z | ⟨xs, z⟩ | ⟨xs, z⟩
      · exact .inl z
      · exact .inr (.inl ⟨xs, keep z⟩)
      · exact .inr (.inr ⟨xs, keep z⟩)
  · by_cases e : m = n
    · subst e
      rw [ha] at h1; cases h1
      rw [List.getElem?_set_self hl] at h2
      cases h2
      obtain ⟨od', gs', h1, h2⟩ := r.at_ m a _ ha hs
      rw [hd] at h1; cases h1
      exact .inl ⟨gs, upd_same, Paired.mapP h2 fun p x z => ⟨z.1, z.2.extW ext⟩⟩
    · rw [List.getElem?_set_ne (Ne.symm e)] at h2
      have z := r.at_ m b x h1 h2
      by_cases hb : b = a
      · subst hb
        obtain ⟨xs, hx⟩ := other m h1 e
        rw [h2] at hx; cases hx
        obtain ⟨ys, hy, ry⟩ := z
        rcases hy with ⟨ob, hy⟩ | hy
        · rw [hy] at hd; cases hd
        · exact ⟨ys, .inr hy, ry.extW ext⟩
      · exact z.stayW ext (upd_ne hb)
/-- from before the lock to behind it -/
theorem lock_ext {q1 q' : List Addr} {H H1 H' : Hp} {a : Addr} {gs : List (Key × V)} {od : Obj} (h0 : H a = some (.dK gs)) (hin : a ∈ q) (e1 : Ext q H q1 H1) (e2 : Ext q1 H1 q' H') (e3 : ∀ b, b ≠ a → H1 b = H b) : Ext q H q' (upd H' a (.dK gs)) := by
  have e := e1.trans e2
  refine ⟨e.pre, fun b xs h => ?_, fun b o h n t => ?_, fun b h => ?_, fun b o u h => ?_⟩
  · have hb : b ≠ a := fun z => by
      subst z
      rcases h with h | ⟨ob, h⟩
      · rw [h] at h0; cases h0
      · rw [h] at h0; cases h0
    rcases e.tup b xs h with h | ⟨ob, h⟩
    · exact .inl (by rw [upd_ne hb]; exact h)
    · exact .inr ⟨ob, by rw [upd_ne hb]; exact h⟩
  · have hb : b ≠ a := fun z => n (by rw [z]; exact hin)
    rw [upd_ne hb]; exact e.rest b o h n t
  · by_cases hb : b = a
    · subst hb; exact ⟨_, upd_same, fun ps z => by cases z⟩
    · obtain ⟨o, h, t⟩ := e.live b h
      exact ⟨o, by rw [upd_ne hb]; exact h, t⟩
  · have hb : b ≠ a := fun z => by subst z; rw [h] at h0; cases h0
    rw [upd_ne hb]; exact e.frz b o u h
end
def lkN (fo : EF) (env : EnvD) (st : Sto) : Option Nat := match fo env st with
  | .ok (.ref n) _ => some n
  | _ => none
def unlK {A : Type} (n : Nat) (d : A) (s : Sto) : R A := match s[n]? with
  | some (.fd kvs) => .ok d (s.set n (.dic kvs))
  | _ => .bad
def lkE (n : Nat) (f : EF) (env : EnvD) (st : Sto) : R D := match st[n]? with
  | some (.dic kvs) => if keysOk kvs = true then (f env (st.set n (.fd kvs))).bind (unlK n) else .bad
  | _ => .bad
/-- the dict that fo tells is locked while f is evaluated -/
def lockE (fo : EF) (f : EF) : EF := fun env st => match lkN fo env st with
  | some n => lkE n f env st
  | none => .bad
def lkS (n : Nat) (f : SF) (env : EnvD) (st : Sto) : R Fl := match st[n]? with
  | some (.dic kvs) => if keysOk kvs = true then (f env (st.set n (.fd kvs))).bind (unlK n) else .bad
  | _ => .bad
def lockS (fo : EF) (f : SF) : SF := fun env st => match lkN fo env st with
  | some n => lkS n f env st
  | none => .bad
section
variable {X : Cx} {E : XK} {tg e : Expr} {f : EF} {fo : EF}
/-- what the lock asks and gives -/
theorem lock_go {q : List Addr} {H : Hp} {st : Sto} {n : Nat} {kvs : List (D × D)} (hT : (gOf B X).B.T = []) (rs : RS (gOf B X) q H st) (h : st[n]? = some (.dic kvs)) (hk : keysOk kvs = true) :
    ∃ a gs, a ∈ q ∧ q[n]? = some a ∧ H a = some (.dK gs) ∧ ∀ od, RS (gOf B X) q (upd H a (.frz od (.dK gs))) (st.set n (.fd kvs)) ∧ Ext q H q (upd H a (.frz od (.dK gs))) := by
  obtain ⟨a, gs, qa, ha, hp⟩ := rs.dicK h hk
  refine ⟨a, gs, List.mem_of_getElem? qa, qa, ha, fun od => ?_⟩
  exact rs.putT hT (u := .frz od (.dK gs)) (o := .fd kvs) qa (fun zs e => by rw [h] at e; cases e) (by rw [ha]; trivial) (fun ps e => by cases e) fun ext =>
    ⟨od, gs, upd_same, Paired.mapP hp fun p x z => ⟨z.1, z.2.ext ext⟩⟩
theorem le_lock (hT : B.T = []) (h : PE X e (LE (gOf B X) E f)) : PE X e (LE (gOf B X) E (lockE fo f)) := (pe_lock h).imp fun sg H Q w => by
  obtain ⟨q, env, st, rs, re, p⟩ := w
  unfold lockE at p
  split at p
  · rename_i n hn
    unfold lkE at p
    split at p
    · rename_i kvs hk
      split at p
      · rename_i hok
        obtain ⟨a, gs, hin, qa, ha, go⟩ := lock_go hT rs hk hok
        refine ⟨a, .dK gs, ha, trivial, fun od => ?_⟩
        obtain ⟨rs1, e1⟩ := go od
        refine ⟨q, env, st.set n (.fd kvs), rs1, re.ext e1, (R.post_bind.mp p).imp (fun d s p q' v H' e2 rs2 rv => ?_) fun _ _ h => h.ext e1⟩
        have hd : H' a = some (.frz od (.dK gs)) := e2.frz a od (.dK gs) upd_same
        unfold unlK at p
        split at p
        · rename_i kvs' hs
          have p : KV (gOf B X) q H Q d (s.set n (.dic kvs')) := p
          obtain ⟨rs3, x3⟩ := rs2.unlock hT (e2.at qa) hs hd
          exact ⟨hd, p q' v _ (lock_ext (od := od) ha hin e1 e2 fun b hb => upd_ne hb) rs3 (rv.extW x3)⟩
        · exact False.elim p
      · exact False.elim p
    · exact False.elim p
  · exact False.elim p
theorem ls_lock {s : Stmt} {f : SF} (hT : B.T = []) (h : PS X s (LS (gOf B X) E f)) : PS X s (LS (gOf B X) E (lockS fo f)) := (ps_lock h).imp fun T sg H w => by
  obtain ⟨q, env, st, rs, re, p⟩ := w
  unfold lockS at p
  split at p
  · rename_i n hn
    unfold lkS at p
    split at p
    · rename_i kvs hk
      split at p
      · rename_i hok
        obtain ⟨a, gs, hin, qa, ha, go⟩ := lock_go hT rs hk hok
        refine ⟨a, .dK gs, ha, trivial, fun od => ?_⟩
        obtain ⟨rs1, e1⟩ := go od
        refine ⟨q, env, st.set n (.fd kvs), rs1, re.ext e1, (R.post_bind.mp p).imp (fun fl s p q' H' e2 rs2 => ?_) fun _ _ h => h.ext e1⟩
        have hd : H' a = some (.frz od (.dK gs)) := e2.frz a od (.dK gs) upd_same
        unfold unlK at p
        split at p
        · rename_i kvs' hs
          have p : KS (gOf B X) q H T fl (s.set n (.dic kvs')) := p
          obtain ⟨rs3, x3⟩ := rs2.unlock hT (e2.at qa) hs hd
          have k := p q' _ (lock_ext (od := od) ha hin e1 e2 fun b hb => upd_ne hb) rs3
          cases fl with
          | nx e => exact fun sg1 re1 => ⟨hd, k sg1 (re1.extW x3)⟩
          | rt d => exact fun v rv => ⟨hd, k v (rv.extW x3)⟩
          | bk e => exact fun sg1 re1 => ⟨hd, k sg1 (re1.extW x3)⟩
          | ct e => exact fun sg1 re1 => ⟨hd, k sg1 (re1.extW x3)⟩
        · exact False.elim p
      · exact False.elim p
    · exact False.elim p
  · exact False.elim p
def prK (p : D × D) : D := .tup [p.1, p.2]
def itmD (d : D) (st : Sto) : R (List D × Chk) := match d with
  | .ref n => match st[n]? with
    | some (.fd kvs) => .ok (kvs.map prK, []) st
    | _ => .bad
  | _ => .bad
def itmF (f : EF) : ItF := fun env st => (f env st).bind itmD
theorem walks_i {g : G} {q : List Addr} {H : Hp} {a : Addr} {od : Obj} {gs : List (Key × V)} {kvs : List (D × D)} (hd : H a = some (.frz od (.dK gs))) (hp : Paired (fun (p : D × D) (x : Key × V) => p.1 = dK x.1 ∧ RD g q H x.2 p.2) kvs gs) : Walks g (Iti a od gs) q H (kvs.map prK, []) := by
  intro i q' H' st' e rs ok
  have hd' := e.frz a od _ hd
  refine ⟨fun hi => ⟨hd', by rw [List.length_map] at hi; rw [← hp.length]; exact hi⟩, fun d hd2 => ?_⟩
  have hd2 : (kvs.map prK)[i]? = some d := hd2
  rw [List.getElem?_map] at hd2
  obtain ⟨p, hp1, rfl⟩ := Option.map_eq_some_iff.mp hd2
  have hil : i < gs.length := by rw [← hp.length]; exact (List.getElem?_eq_some_iff.mp hp1).1
  have hx : p.1 = dK gs[i].1 ∧ RD g q H gs[i].2 p.2 := by
    obtain ⟨p', hp', h⟩ := Paired.at? hp (List.getElem?_eq_getElem hil)
    rw [hp1] at hp'; cases hp'
    exact h
  refine ⟨⟨hd', hil⟩, fun x H2 ⟨T, k, v, hk, hxx, hT, e2⟩ => ?_⟩
  subst e2 hxx
  rw [List.getElem?_eq_getElem hil] at hk
  cases hg : gs[i] with
  | mk k' v' =>
    rw [hg] at hk hx
    cases hk
    have s := same_upd (o := .tup [kV k, v]) hT
    refine ⟨Same.ext0 s, rs.same s, .tup (.inl (.inl upd_same)) (.cons ?_ (.cons ((hx.2.ext e).ext (Same.ext0 s)) .nil))⟩
    rw [hx.1]
    cases k with
    | inl i => exact .int i
    | inr z => exact .str z
theorem li_items {elts : List Expr} {kk : Nat} {tpos apos cpos : Pos} (h : PE X e (LE (gOf B X) E f)) (hbase : attributeBase e "items" X.env (eval e X.env) = eval e X.env := by rfl) (hline : (apos.endLine == cpos.line) = true := by rfl) :
    PI X (.Tuple elts kk tpos) (.Call (.Attribute e "items" apos) [] [] cpos) (LI (gOf B X) E (itmF f)) := (pi_items h hbase hline).imp fun sg H RR w => by
  obtain ⟨q, env, st, rs, re, p⟩ := w
  refine LE.chain rs re (R.post_bind.mp p) fun d s1 q1 v H1 p e1 rs1 re1 rx => ?_
  cases d with
  | ref n =>
    have p : (match s1[n]? with | some (.fd kvs) => .ok (kvs.map prK, []) s1 | _ => .bad : R (List D × Chk)).post _ _ := p
    split at p
    · rename_i kvs hs
      obtain ⟨a, rfl, qa⟩ := rx.ref_inv
      obtain ⟨a', qa', od, gs, h1, h2⟩ := rs1.get hs
      rw [qa] at qa'; cases qa'
      exact ⟨a, od, gs, rfl, h1, p q1 H1 _ e1 rs1 (walks_i h1 h2)⟩
    · exact False.elim p
  | _ => exact False.elim p
end
end VL
namespace VL
open PySem PySem.Spec PyProof.Rows L2 LamX NdefX
end VL
namespace VL
open PySem PySem.Spec PyProof.Rows L2 LamX NdefX CwR
end VL
namespace VL
open PySem PySem.Spec PyProof.Rows L2 LamX NdefX CwR
end VL
namespace VL
open PySem PySem.Spec PyProof.Rows L2
variable {B : Tb}
section
variable {X : Cx} {E : XK} {e o value : Expr} {fa fo fv : EF} {c f m : Str} {C : Addr} {pos pos' apos p : Pos}
/-- o.m(..), nothing being raised -/
def methN (c m : Str) (fn : Fn) (fo : EF) (fa : AF) : EF := fun env st => (fo env st).bind fun d s => match d with
  | .ref n => (match insAt c s n with
    | some fs => if (fs.lookup m).isNone = true then (fa env s).bind fun ds s' => (fn (.ref n :: ds) s').noex else .bad
    | none => .bad)
  | _ => .bad
section
variable {k n : Nat} {g : Addr} {fd : FuncData} {ps : List Str} {fn : Fn} {a : Expr} {es : List Expr} {fas : AF}
theorem le_methN {pl : Sem Bool} (F : FnOk X.prog X.w X.K X.mg X.base CX0 k g fd ps (Sp0 (gOf B X) (n + 1) fn)) (hr : Room k X.A) (cl : Cls X.K C) (hme : Meth X.K C m g) (hm : X.mg c = some (.ref C)) (hb : Binds X.K fd ps [])
    (ho : PE X o (LE (gOf B X) E fo)) (ha : PA X (a :: es) (LA (gOf B X) E fas)) (hla : ∀ env st ds s, fas env st = .ok ds s → ds.length = n)
    (hst : starEach (a :: es) X.env = (false, eval a X.env) :: starEach es X.env := by rfl) (hpl : (backTo pos (starEach es X.env)).any (·.1) = false := by rfl)
    (ht : eval (.Call (.Attribute o m apos) (a :: es) [] pos) X.env = (do
      let ov ← eval o X.env
      standAt apos.atName
      let (f, first) ← holding [ov] (getMethod ov m pl)
      callWith pos f first (backTo pos (starEach (a :: es) X.env)) (backToKw pos (keywordEach [] X.env))) := by rfl) :
    PE X (.Call (.Attribute o m apos) (a :: es) [] pos) (LE (gOf B X) E (methN c m fn fo fas)) :=
  (pe_meth ho cl hme F hr hb .nil pass0 ha hst hpl ht).imp fun sg H Q w => by
    obtain ⟨q, env, st, rs, re, p⟩ := w
    refine LE.chain rs re (R.post_bind.mp p) fun x s1 q1 v H1 p e1 rs1 re1 rx => ?_
    split at p
    · rename_i nn
      split at p
      · rename_i fs h1
        split at p
        · rename_i hl
          obtain ⟨b, rfl, qb⟩ := rx.ref_inv
          obtain ⟨b', dx, gs, qb', eb, hp⟩ := rs1.ins h1 hm
          rw [qb] at qb'; cases qb'
          refine ⟨b, dx, gs, rfl, eb, (lookup_pair hp).2 (Option.isNone_iff_eq_none.mp hl), ?_⟩
          have p := R.post_bind.mp p
          have p' : (fas env s1).post (fun ds s => ds.length = n ∧ (fn (.ref nn :: ds) s).post (KV (gOf B X) q H Q) (KX (gOf B X) q H E0)) (KX (gOf B X) q1 H1 E) := by
            cases hfa : fas env s1 with
            | ok ds s => rw [hfa] at p; exact ⟨hla _ _ _ _ hfa, R.post_noex p⟩
            | ex c s => rw [hfa] at p; exact KX.ext e1 p
            | bad => rw [hfa] at p; exact p
          refine LA.chain rs1 re1 p' fun xs s2 q2 vs H2 p e2 rs2 re2 rx2 => ?_
          rw [List.append_nil]
          exact ⟨by rw [List.length_cons, rx2.length, p.1], q2, s2, .ref nn :: xs, rs2, .cons (.ref (e2.at qb)) rx2, p.2.imp (fun _ _ h => h.ext (e1.trans e2)) fun _ _ h => h.ext (e1.trans e2)⟩
        · exact False.elim p
      · exact False.elim p
    · exact False.elim p
end
theorem dp_tru {K : PySem.W.Frag} {H : Hp} : ∀ bs : List Bool, DpAll K H (bs.map V.bl) (bs.map PyData.bool)
  | [] => .nil
  | b :: r => .cons (.bl b) (dp_tru r)
end
end VL
namespace VL
open PySem PySem.Spec PyProof.Rows L2
variable {B : Tb}
/-- the exception at hand stands in the base -/
def XcOk (B : Tb) (base : Heap) (mg : Str → Option Value) : Prop := ∀ a c, B.xc = some (a, c) → ∃ (oe : Obj) (D : Addr), base.get? a = some oe ∧ mg c = some (.ref D) ∧ Zc (.ref D) none oe ∧ ∃ vs, oe.data = .fields vs
theorem RD.exc_inv {g : G} {q : List Addr} {H : Hp} {v : V} {c : Str} (h : RD g q H v (.exc c)) : ∃ a, v = .ref a ∧ g.B.xc = some (a, c) := by
  cases h with
  | exc h => exact ⟨_, rfl, h⟩
theorem RD.glb_inv' {g : G} {q : List Addr} {H : Hp} {v : V} {x : Str} (h : RD g q H v (.glb x)) : ∃ a, v = .ref a ∧ g.mg x = some (.ref a) := by
  cases h with
  | glb h => exact ⟨_, rfl, h⟩
/-- what the tables tell is so -/
structure XTab (K : PySem.W.Frag) (mg : Str → Option Value) (tab : Str → Str → Option Bool) (tabT : Str → String → Option Bool) : Prop where
  g : ∀ c C b, tab c C = some b → ∃ D C', mg c = some (.ref D) ∧ mg C = some (.ref C') ∧ ExcC K D ∧ PySem.W.kitOne K (.ref D) (.ref C') = some b
  t : ∀ c T b, tabT c T = some b → ∃ D, mg c = some (.ref D) ∧ ExcC K D ∧ PySem.W.kitOne K (.ref D) (.type T) = some b
def isxD (tab : Str → Str → Option Bool) (tabT : Str → String → Option Bool) : List D → Sto → R D
  | [.exc c, .glb C], st => match tab c C with
    | some b => .ok (.bl b) st
    | none => .bad
  | [.exc c, .ty T], st => match tabT c T with
    | some b => .ok (.bl b) st
    | none => .bad
  | _, _ => .bad
section
variable {X : Cx} {E : XK}
theorem call_isxD {tab : Str → Str → Option Bool} {tabT : Str → String → Option Bool} (hx : XcOk B X.base X.mg) (ht : XTab X.K X.mg tab tabT) : CallR X (.builtin "isinstance") (LC (gOf B X) E (isxD tab tabT)) := by
  intro pins s sg H vs us Q I r w
  obtain ⟨q, st, ds, rs, rd, p⟩ := w
  have go : ∀ (a : Addr) (c : Str) (cv : Value) (b : Bool) (D : Addr), B.xc = some (a, c) → X.mg c = some (.ref D) → ExcC X.K D → PySem.W.kitOne X.K (.ref D) cv = some b → Q (.bl b) H →
      wpAny (model X.prog X.w) X.A (call (.builtin "isinstance") [.ref a, cv]) (EP X pins sg Q) X.xe s := fun a c cv b D h1 h2 C h3 qq => by
    obtain ⟨oe, D', g1, g2, hz, hf⟩ := hx a c h1
    rw [h2] at g2
    cases g2
    have hget := (I.bs a oe g1).1
    obtain ⟨vs, hv⟩ := hf
    have J : PySem.W.InstAt s.heap a oe D none := by
      obtain ⟨oc, od, oda, osl⟩ := oe
      obtain ⟨z1, z2⟩ := hz
      dsimp only at z1 z2 hv
      subst z1 z2 hv
      exact ⟨hget, rfl, rfl, trivial⟩
    exact PySem.W.kia_one (PySem.W.handS_kitx_exc C.hg C.hk C.hs C.hd C.ha C.hn C.ht C.hm) I.kIn J h3 (fun z => nomatch z) fun tk => ⟨.bl b, H, I.kept (t' := tk) fun _ _ z => z, rfl, qq⟩
  unfold isxD at p
  split at p
  · rename_i c C
    split at p
    · rename_i b e
      obtain ⟨x, y, rfl, rx, ry⟩ := rd.two_inv
      obtain ⟨a, rfl, hc⟩ := rx.exc_inv
      obtain ⟨a2, rfl, hC⟩ := ry.glb_inv'
      obtain ⟨u1, u2, rfl, r1, r2⟩ := vals2 r
      cases r1
      cases r2
      obtain ⟨D, C', m1, m2, xc, kk⟩ := ht.g c C b e
      have : X.mg C = some (.ref a2) := hC
      rw [m2] at this
      cases this
      exact go a c _ b D hc m1 xc kk (p q _ H Ext.refl rs (.bl b))
    · exact False.elim p
  · rename_i c T
    split at p
    · rename_i b e
      obtain ⟨x, y, rfl, rx, ry⟩ := rd.two_inv
      obtain ⟨a, rfl, hc⟩ := rx.exc_inv
      rw [ry.ty_inv] at r
      obtain ⟨u1, u2, rfl, r1, r2⟩ := vals2 r
      cases r1
      cases (show u2 = Value.type T from r2)
      obtain ⟨D, m1, xc, kk⟩ := ht.t c T b e
      exact go a c _ b D hc m1 xc kk (p q _ H Ext.refl rs (.bl b))
    · exact False.elim p
  · exact False.elim p
end
theorem env0_more {P : Program} {w : World} {K : PySem.W.Frag} {mg : Str → Option Value} {base : Heap} {A : Around} {outer : List Env} {s : Shared} {H : Hp} {a : Addr} {oe : Obj} {vs : Array Value} (e : Env0 P w K mg base A outer s H)
    (ha : s.heap.get? a = some oe) (hv : oe.data = .fields vs) (hn : H a = none) : ∃ base', base'.get? a = some oe ∧ Env0 P w K mg base' A outer s H := by
  obtain ⟨p, hp⟩ : ∃ p : Addr → Bool, p = fun b => (base.get? b).isSome || decide (b = a) := ⟨_, rfl⟩
  obtain ⟨l, hl⟩ : ∃ l : List Addr, l = (List.range s.heap.objs.size).filter fun b => !p b := ⟨_, rfl⟩
  have m1 : ∀ b, b ∈ l → p b = false := fun b hb => by
    rw [hl] at hb
    simpa using (List.mem_filter.mp hb).2
  have m2 : ∀ b, b < s.heap.objs.size → p b = false → b ∈ l := fun b h1 h2 => by
    rw [hl]
    exact List.mem_filter.mpr ⟨List.mem_range.mpr h1, by simp [h2]⟩
  obtain ⟨G, hG⟩ : ∃ G, G = PySem.W.hideAll s.heap l := ⟨_, rfl⟩
  have in_ : ∀ b o, G.get? b = some o → s.heap.get? b = some o := fun b o h => PySem.W.of_hideAll l (by rw [← hG]; exact h)
  have has : ∀ b o, s.heap.get? b = some o → p b = true → G.get? b = some o := fun b o h1 h2 => by
    rw [hG]
    exact PySem.W.hideAll_get l h1 fun hm => by rw [m1 b hm] at h2; cases h2
  have not_ : ∀ b o, G.get? b = some o → p b = true := fun b o h => by
    cases q : p b with
    | true => rfl
    | false =>
      have lt := Heap.lt_size (in_ b o h)
      rw [hG, PySem.W.hideAll_none l (m2 b lt q)] at h
      cases h
  have old : ∀ b o, base.get? b = some o → G.get? b = some o := fun b o h => has b o (e.bs b o h).1 (by rw [hp]; simp [h])
  have gb : ∀ b o, G.get? b = some o → s.heap.get? b = some o ∧ H b = none := fun b o h => by
    refine ⟨in_ b o h, ?_⟩
    have := not_ b o h
    rw [hp] at this
    simp only [Bool.or_eq_true, decide_eq_true_eq] at this
    rcases this with z | z
    · obtain ⟨o', z⟩ := Option.isSome_iff_exists.mp z
      exact (e.bs b o' z).2
    · rw [z]; exact hn
  refine ⟨G, has a oe ha (by rw [hp]; simp), ⟨e.frames, ⟨e.mod.kin.keeps old, e.mod.glob.keeps old, ?_, e.mod.nolimit.keeps old⟩, gb, ?_, ?_, e.frf, e.hok, e.bare⟩⟩
  · obtain ⟨mb, h1, h2⟩ := e.mod.blt
    exact ⟨mb, h1.keeps old, h2⟩
  · rw [hG, PySem.W.hideAll_size]
    exact Nat.le_refl _
  · refine funFrames_none e.funs fun L hL => ?_
    obtain ⟨b0, o, ho, hd⟩ := e.funs.mem hL
    cases q : G.get? L with
    | none => rfl
    | some o' =>
      exfalso
      have := not_ L o' q
      rw [hp] at this
      simp only [Bool.or_eq_true, decide_eq_true_eq] at this
      rcases this with z | z
      · rw [b0] at z; cases z
      · rw [z, ha] at ho
        cases ho
        exact hd vs hv
section
variable {P : Program} {w : World} {K : PySem.W.Frag} {mg : Str → Option Value} {base : Heap}
theorem hu_H {k : Nat} {A : Around} (r : L2H.RoomH k A) : A.units + 64 < cLine := by have := r.un; omega
/-- a def that is called within an except suite -/
theorem fnH0 {x qual : Str} {st : Stmt} {f : Addr} {fd : FuncData} {N ps : List Str} {k n m : Nat} {fb : SF} (F : Fun K x qual st f fd) (S : FnScope N ps (defScope st)) (hn : N.length = n) (hm : ps.length = m)
    (body : ∀ (cdv : Value) (A : Around) (outer : List Env) (s : Shared) (H : Hp) (E : XK) (p : Addr × Obj), L2H.RoomH k (A.deeper (envOfC qual (defScope st) s.heap.objs.size f cdv)) →
      PSs (L2H.cxH CX0 P w K mg base N qual (defScope st) f cdv A outer s H E p).nox (defBody st) (LS ⟨P, w, K, mg, B⟩ E0 fb)) : L2H.FnH P w K mg base CX0 (k + 1) f fd ps (Sp0 ⟨P, w, K, mg, B⟩ m (fnF n fb)) := by
  obtain ⟨oc, od, kV, doc, pm, an, cdv, ct, osl, rfl, lk, hcd⟩ := F.ex
  exact L2H.fn_ofH lk hcd S (fun vs H Q E h => h.1.trans hm.symm) fun A outer s H vs Q E p hot hr h => ⟨_, (body cdv A outer s H E p hr).nox, fn_le hn h.2⟩
end
section
variable {X : Cx} {E : XK} {k n : Nat} {f : Addr} {fd : FuncData} {ps : List Str} {fn : Fn}
/-- a def called within the suite, the exception at hand -/
theorem le_callX {a : Addr} {c : Str} {oe : Obj} {D : Addr} {pn : List (Addr × Obj)} {x : Str} {p pos : Pos} {e : Expr} {es : List Expr} {fa : AF} (hB : B.xc = some (a, c)) (hD : X.mg c = some (.ref D)) (hz : L2N.Zn (.ref D) none oe) (hv : ∃ vs, oe.data = .fields vs)
    (F : ∀ base, XcOk B base X.mg → L2H.FnH X.prog X.w X.K X.mg base CX0 k f fd ps (Sp0 (gOf B X) n fn)) (hr : Room k X.A) (hm : X.mg x = some (.ref f)) (hk : PySem.W.keepIn X.K (.ref f) = true) (hb : Binds X.K fd ps [])
    (ha : PA (X.suite a ((a, oe) :: pn)) (e :: es) (LA (gOf B X) E0 fa)) (hla : ∀ env st ds s, fa env st = .ok ds s → ds.length = n) (hg : Gl (X.suite a ((a, oe) :: pn)) x := by rfl) (hdb : (x == ("__debug__" : Str)) = false := by decide) (he : starEach (e :: es) X.env = (false, eval e X.env) :: starEach es X.env := by rfl) (hpl : (backTo pos (starEach es X.env)).any (·.1) = false := by rfl) :
    PE (X.suite a ((a, oe) :: pn)) (.Call (.Name x p) (e :: es) [] pos) (LE (gOf B X) E0 (callF fn fa)) := by
  have raw : PE (X.suite a ((a, oe) :: pn)) (.Call (.Name x p) (e :: es) [] pos) (tCallS (Sp0 (gOf B X) n fn) (fun _ => E0) (LA (gOf B X) E0 fa)) := by
    refine ⟨fun pins s σ H Q I h => ?_⟩
    refine wpAny_Call_Name_kw (ld_glob I hg hm ?_ hdb)
    refine PySem.W.callWith_K (h₀ := X.base) I.ok.mod.kin hk (thn (ha.run pos pins s σ H _ I h) fun us s1 ⟨vs, H1, I1, r, q⟩ => ⟨I1.kIn, ?_⟩) he hpl
    have P1 := I1.pin (a, oe) (List.mem_append.mpr (.inl List.mem_cons_self))
    obtain ⟨fs, hf⟩ := hv
    obtain ⟨base', b1, e0⟩ := env0_more I1.env0 P1.1 hf P1.2.1
    have F := F base' fun a' c' h' => by
      rw [hB] at h'
      cases h'
      exact ⟨oe, D, b1, hD, hz.zc, fs, hf⟩
    have hl : us.length = ps.length := by rw [← r.length]; exact F.len _ _ _ _ q
    have b := hb s1 us I1.kIn (by rw [List.append_nil]; exact hl)
    rw [List.append_nil] at b
    have hpin : L2H.PinOk (X.suite a ((a, oe) :: pn)).stack H1 s1 (a, oe) := ⟨P1.1, P1.2.1, fun hm => (List.mem_cons.mp (I1.stkSub a hm)).elim P1.2.2.1 P1.2.2.2.1, P1.2.2.2.2⟩
    refine wpAny_call (codeAny_mono (F.run _ _ s1 H1 ⟨us, []⟩ us vs Q E0 (a, oe) ⟨hr.dp, hr.un⟩ ⟨rfl, fs, hf, hz.2.2 fs hf⟩ hpin e0 b r q) fun r s' hq => ?_)
    cases r with
    | error e => exact False.elim hq
    | ok fl =>
      cases fl with
      | ret u => exact I1.after hq
      | next => exact False.elim hq
      | brk => exact False.elim hq
      | cont => exact False.elim hq
  exact raw.imp fun sg H Q w => by
    obtain ⟨q, env, st, rs, re, p⟩ := w
    have p := R.post_bind.mp p
    have p' : (fa env st).post (fun ds s => ds.length = n ∧ (fn ds s).post (KV (gOf B X) q H Q) (KX (gOf B X) q H E0)) (KX (gOf B X) q H E0) := by
      cases hfa : fa env st with
      | ok ds s => rw [hfa] at p; exact ⟨hla _ _ _ _ hfa, p⟩
      | ex c s => rw [hfa] at p; exact p
      | bad => rw [hfa] at p; exact p
    refine LA.chain rs re p' fun xs s1 q1 vs H1 p e1 rs1 re1 rx => ?_
    exact ⟨by rw [rx.length]; exact p.1, q1, s1, xs, rs1, rx, p.2.imp (fun _ _ h => h.ext e1) fun _ _ h => h.ext e1⟩
end
section
variable {P : Program} {w : World} {K : PySem.W.Frag} {mg : Str → Option Value} {base : Heap}
theorem fn1n {x qual : Str} {st : Stmt} {f : Addr} {fd : FuncData} {N ps : List Str} {k n m : Nat} {fb : SF} (F : Fun K x qual st f fd) (S : FnScope N ps (defScope st)) (hn : N.length = n) (hm : ps.length = m)
    (body : ∀ (cdv : Value) (A : Around) (outer : List Env) (s : Shared) (H : Hp) (E : XK), Room k (A.deeper (envOfC qual (defScope st) s.heap.objs.size f cdv)) →
      PSs (cxOf (L2N.CX P w) P w K mg base N qual (defScope st) f cdv A outer s H E) (defBody st) (LS ⟨P, w, K, mg, B⟩ E fb)) : FnOk P w K mg base (L2N.CX P w) (k + 1) f fd ps (SpD ⟨P, w, K, mg, B⟩ m (fnF n fb)) := by
  obtain ⟨oc, od, kV, doc, pm, an, cdv, ct, osl, rfl, lk, hcd⟩ := F.ex
  exact fn_of lk hcd S (fun vs H Q E h => h.1.trans hm.symm) fun A outer s H vs Q E hr h => ⟨_, body cdv A outer s H E hr, fn_le hn h.2⟩
end
section
variable {X : Cx} {E : XK}
theorem passQn (tk : L2N.Takes X (fun cls d _ H => E cls d H)) : Passes (L2N.CX X.prog X.w) X E := fun pins σ H s e s' I c => L2N.passAt tk σ pins H s e s' I c
theorem ls_raisen {x m : Str} {C : Addr} {bmB : List Value} {Bh : _} {newId initId : String} {j : Nat} {p p2 pos pos' : Pos} (hc : X.calm = true) (tk : L2N.Takes X (fun cls d _ H => E cls d H)) (F : ExcBaseFacts Bh newId initId bmB) (gC : X.mg x = some (.ref C)) (r : ExcR X.K C bmB newId) (hg : Gl X x := by rfl) (hdb : (x == ("__debug__" : Str)) = false := by decide) :
    PS X (.Raise (some (.Call (.Name x p) [.Constant (.str m) j p2] [] pos)) none pos') (LS (gOf B X) E (exS x)) :=
  (L2N.ps_raise hc tk (L2N.pmk_own F r.q gC r.kp (raises_own r.sb r.ty) hg hdb)).imp fun T sg H w => by
    obtain ⟨q, env, st, rs, re, p⟩ := w
    exact p q H C Ext.refl rs gC
section
variable {e o : Expr} {es : List Expr} {fa fo : EF} {c m : Str} {C : Addr} {pos apos : Pos} {k n : Nat} {g : Addr} {fd : FuncData} {ps : List Str} {fn : Fn} {a : Expr} {fas : AF}
theorem le_methQn {pl : Sem Bool} (F : FnOk X.prog X.w X.K X.mg X.base (L2N.CX X.prog X.w) k g fd ps (SpD (gOf B X) (n + 1) fn)) (hr : Room k X.A) (cl : Cls X.K C) (hme : Meth X.K C m g) (hm : X.mg c = some (.ref C)) (hb : Binds X.K fd ps []) (tk : L2N.Takes X (fun cls d _ H => E cls d H))
    (ho : PE X o (LE (gOf B X) E fo)) (ha : PA X (a :: es) (LA (gOf B X) E fas)) (hla : ∀ env st ds s, fas env st = .ok ds s → ds.length = n)
    (hst : starEach (a :: es) X.env = (false, eval a X.env) :: starEach es X.env := by rfl) (hpl : (backTo pos (starEach es X.env)).any (·.1) = false := by rfl)
    (ht : eval (.Call (.Attribute o m apos) (a :: es) [] pos) X.env = (do
      let ov ← eval o X.env
      standAt apos.atName
      let (f, first) ← holding [ov] (getMethod ov m pl)
      callWith pos f first (backTo pos (starEach (a :: es) X.env)) (backToKw pos (keywordEach [] X.env))) := by rfl) :
    PE X (.Call (.Attribute o m apos) (a :: es) [] pos) (LE (gOf B X) E (methO c m fn fo fas)) :=
  (pe_meth ho cl hme F hr hb .nil (passQn tk) ha hst hpl ht).imp fun sg H Q w => by
    obtain ⟨q, env, st, rs, re, p⟩ := w
    refine LE.chain rs re (R.post_bind.mp p) fun x s1 q1 v H1 p e1 rs1 re1 rx => ?_
    split at p
    · rename_i nn
      split at p
      · rename_i fs h1
        split at p
        · rename_i hl
          obtain ⟨b, rfl, qb⟩ := rx.ref_inv
          obtain ⟨b', dx, gs, qb', eb, hp⟩ := rs1.ins h1 hm
          rw [qb] at qb'; cases qb'
          refine ⟨b, dx, gs, rfl, eb, (lookup_pair hp).2 (Option.isNone_iff_eq_none.mp hl), ?_⟩
          have p := R.post_bind.mp p
          have p' : (fas env s1).post (fun ds s => ds.length = n ∧ (fn (.ref nn :: ds) s).post (KV (gOf B X) q H Q) (KX (gOf B X) q H E)) (KX (gOf B X) q1 H1 E) := by
            cases hfa : fas env s1 with
            | ok ds s => rw [hfa] at p; exact ⟨hla _ _ _ _ hfa, p⟩
            | ex c s => rw [hfa] at p; exact KX.ext e1 p
            | bad => rw [hfa] at p; exact p
          refine LA.chain rs1 re1 p' fun xs s2 q2 vs H2 p e2 rs2 re2 rx2 => ?_
          rw [List.append_nil]
          exact ⟨by rw [List.length_cons, rx2.length, p.1], q2, s2, .ref nn :: xs, rs2, .cons (.ref (e2.at qb)) rx2, p.2.imp (fun _ _ h => h.ext (e1.trans e2)) fun _ _ h => h.ext (e1.trans e2)⟩
        · exact False.elim p
      · exact False.elim p
    · exact False.elim p
/-- a method that may raise, nothing being raised -/
theorem passE0 {X : Cx} : Passes (L2N.CX X.prog X.w) X E0 := fun pins σ H s e s' I ⟨_, _, _, _, _, _, _, _, _, _, _, _, w⟩ => w.elim
theorem le_methE {pl : Sem Bool} (F : FnOk X.prog X.w X.K X.mg X.base (L2N.CX X.prog X.w) k g fd ps (SpD (gOf B X) (n + 1) fn)) (hr : Room k X.A) (cl : Cls X.K C) (hme : Meth X.K C m g) (hm : X.mg c = some (.ref C)) (hb : Binds X.K fd ps [])
    (ho : PE X o (LE (gOf B X) E fo)) (ha : PA X (a :: es) (LA (gOf B X) E fas)) (hla : ∀ env st ds s, fas env st = .ok ds s → ds.length = n)
    (hst : starEach (a :: es) X.env = (false, eval a X.env) :: starEach es X.env := by rfl) (hpl : (backTo pos (starEach es X.env)).any (·.1) = false := by rfl)
    (ht : eval (.Call (.Attribute o m apos) (a :: es) [] pos) X.env = (do
      let ov ← eval o X.env
      standAt apos.atName
      let (f, first) ← holding [ov] (getMethod ov m pl)
      callWith pos f first (backTo pos (starEach (a :: es) X.env)) (backToKw pos (keywordEach [] X.env))) := by rfl) :
    PE X (.Call (.Attribute o m apos) (a :: es) [] pos) (LE (gOf B X) E (methN c m fn fo fas)) :=
  (pe_meth ho cl hme F hr hb .nil passE0 ha hst hpl ht).imp fun sg H Q w => by
    obtain ⟨q, env, st, rs, re, p⟩ := w
    refine LE.chain rs re (R.post_bind.mp p) fun x s1 q1 v H1 p e1 rs1 re1 rx => ?_
    split at p
    · rename_i nn
      split at p
      · rename_i fs h1
        split at p
        · rename_i hl
          obtain ⟨b, rfl, qb⟩ := rx.ref_inv
          obtain ⟨b', dx, gs, qb', eb, hp⟩ := rs1.ins h1 hm
          rw [qb] at qb'; cases qb'
          refine ⟨b, dx, gs, rfl, eb, (lookup_pair hp).2 (Option.isNone_iff_eq_none.mp hl), ?_⟩
          have p := R.post_bind.mp p
          have p' : (fas env s1).post (fun ds s => ds.length = n ∧ (fn (.ref nn :: ds) s).post (KV (gOf B X) q H Q) (KX (gOf B X) q H E0)) (KX (gOf B X) q1 H1 E) := by
            cases hfa : fas env s1 with
            | ok ds s => rw [hfa] at p; exact ⟨hla _ _ _ _ hfa, R.post_noex p⟩
            | ex c s => rw [hfa] at p; exact KX.ext e1 p
            | bad => rw [hfa] at p; exact p
          refine LA.chain rs1 re1 p' fun xs s2 q2 vs H2 p e2 rs2 re2 rx2 => ?_
          rw [List.append_nil]
          exact ⟨by rw [List.length_cons, rx2.length, p.1], q2, s2, .ref nn :: xs, rs2, .cons (.ref (e2.at qb)) rx2, p.2.imp (fun _ _ h => h.ext (e1.trans e2)) fun _ _ h => h.ext (e1.trans e2)⟩
        · exact False.elim p
      · exact False.elim p
    · exact False.elim p
end
end
theorem takes0n {X : Cx} : L2N.Takes X (fun _ _ _ _ => False) := fun u s' ⟨_, _, _, _, _, _, _, _, _, _, _, _, _, _, _, _, w⟩ => w.elim
mutual
/-- it names no place -/
def plainD : D → Bool
  | .non => true
  | .bl _ => true
  | .int _ => true
  | .str _ => true
  | .tup xs => plainDs xs
  | _ => false
def plainDs : List D → Bool
  | [] => true
  | x :: xs => plainD x && plainDs xs
end
section
variable {g g' : G} {q q' : List Addr}
mutual
theorem RD.plain (hK : g.K = g'.K) : ∀ {H : Hp} {v : V} {d : D}, RD g q H v d → plainD d = true → RD g' q' H v d
  | _, _, .non, .non, _ => .non
  | _, _, .bl _, .bl b, _ => .bl b
  | _, _, .int _, .int i, _ => .int i
  | _, _, .str _, .str x, _ => .str x
  | _, _, .tup ds, .tup h r, p => .tup (by rw [← hK]; exact h) (RDs.plain hK r (by unfold plainD at p; exact p))
  | _, _, .ref _, _, p => by unfold plainD at p; cases p
  | _, _, .glb _, _, p => by unfold plainD at p; cases p
  | _, _, .ty _, _, p => by unfold plainD at p; cases p
  | _, _, .clo _ _, _, p => by unfold plainD at p; cases p
  | _, _, .exc _, _, p => by unfold plainD at p; cases p
theorem RDs.plain (hK : g.K = g'.K) : ∀ {H : Hp} {vs : List V} {ds : List D}, RDs g q H vs ds → plainDs ds = true → RDs g' q' H vs ds
  | _, _, _, .nil, _ => .nil
  | _, _, x :: xs, .cons r t, p => by
    unfold plainDs at p
    rw [Bool.and_eq_true] at p
    exact .cons (RD.plain hK r p.1) (RDs.plain hK t p.2)
end
end
/-- try: body; except .. as e: what is told of e alone -/
def tryX (n ie : Nat) (okc : Str → Bool) (fb fh : SF) : SF := fun env st => match fb env st with
  | .ok fl s => .ok fl s
  | .ex c s => if okc c = true then (match fh ((List.replicate n none).set ie (some (.exc c))) [] with
    | .ok (.rt d) _ => if plainD d = true then .ok (.rt d) s else .bad
    | _ => .bad) else .bad
  | .bad => .bad
section
variable {X : Cx}
theorem ls_tryX {n ie : Nat} {okc : Str → Bool} {fb fh : SF} {en xV : Str} {np pos' tpos : Pos} {body suite : List Stmt} {b0 : Stmt} {cV : Value} (hT : B.T = [])
    (hs : X.stack = X.env :: X.outer) (hf : X.env.frame = some X.env.locals) (hN : X.N.Nodup) (hn : X.N.length = n) (hie : X.N[ie]? = some en) (hln : X.env.kindOf en = some .local) (hc : Names X xV cV) (tk : L2N.Takes X (fun _ _ _ _ => False))
    (hb : ∀ (E : XK) (pn : List (Addr × Obj)) (xe : Value → Shared → Prop), L2N.Takes (X.tr pn xe) (fun cls d _ H => E cls d H) → PSs (X.tr pn xe) body (LS (gOf B X) E fb))
    (hh : ∀ (a : Addr) (c : Str) (oe : Obj) (D : Addr) (pn : List (Addr × Obj)), X.mg c = some (.ref D) → L2N.Zn (.ref D) none oe → (∃ vs, oe.data = .fields vs) → PSs (X.suite a ((a, oe) :: pn)) (b0 :: suite) (LS (gOf { B with xc := some (a, c) } X) E0 fh))
    (ho : ∀ c, okc c = true → ∃ D, X.mg c = some (.ref D) ∧ PySem.W.exmOne X.K (.ref D) cV = some true) :
    PS X (.Try body [.ExceptHandler (some (.Name xV np)) (some en) (b0 :: suite) pos'] [] [] tpos) (LS (gOf B X) E0 (tryX n ie okc fb fh)) := by
  have tw : ∀ (Y : Cx) (W : WX), Y.N = X.N → L2N.Takes Y W → L2N.Takes Y (fun cls d _ H => ∀ σ : L2.St, σ.length = n → W cls d σ H) := fun Y W hY t u s' ⟨a, B', sI, pins, σ, H, cls, d, e, I, nb, up, sky, na, os, ag, w⟩ =>
    t u s' ⟨a, B', sI, pins, σ, H, cls, d, e, I, nb, up, sky, na, os, ag, w σ (by rw [I.len, hY]; exact hn)⟩
  refine (L2N.ps_try_as (i := ie) (tb := fun W => LS (gOf B X) (fun cls d H => ∀ σ : L2.St, σ.length = n → W cls d σ H) fb)
    (ts := fun a cls d => fun T sg H => ∃ p : Str × Addr, (cls = .ref p.2 ∧ d = none ∧ X.mg p.1 = some (.ref p.2)) ∧ LS (gOf { B with xc := some (a, p.1) } X) E0 fh T sg H) (Wout := fun _ _ _ _ => False) hs hf hN hie hln hc tk
    (fun W pn xe tk _ => hb _ pn xe (tw (X.tr pn xe) W rfl tk))
    (fun a oe cls d pn hz hfl => pss_when fun p h => by
      obtain ⟨rfl, rfl, hC⟩ := h
      exact hh a p.1 oe p.2 pn hC hz hfl)).imp fun T sg H w => ?_
  obtain ⟨q, env, st, rs, re, p⟩ := w
  refine ⟨q, env, st, rs, re, ?_⟩
  unfold tryX at p
  cases hfb : fb env st with
  | ok fl s => rw [hfb] at p; exact p
  | bad => rw [hfb] at p; exact False.elim p
  | ex c s =>
    rw [hfb] at p
    simp only at p
    intro q2 H2 C e2 rs2 hmc σ hσ
    split at p
    case isFalse => exact False.elim p
    rename_i hok
    obtain ⟨D, hD, hx⟩ := ho c hok
    have hDC : D = C := by
      have : X.mg c = some (.ref C) := hmc
      rw [hD] at this; injection this with this; injection this
    subst hDC
    refine ⟨true, hx, fun _ a _ => ⟨(c, D), ⟨rfl, rfl, hD⟩, ?_⟩, fun z => nomatch z⟩
    refine ⟨[], (List.replicate n none).set ie (some (.exc c)), [], ⟨rfl, fun m n a h => by simp at h, fun n a o h => by simp at h, ?_⟩, ?_, ?_⟩
    · intro z hz'
      have : B.T = [] := hT
      rw [show (gOf { B with xc := some (a, c) } X).B.T = [] from this] at hz'
      cases hz'
    · have base : ∀ (l : L2.St), RE (gOf { B with xc := some (a, c) } X) [] H2 l (List.replicate l.length none) := fun l => by
        induction l with
        | nil => exact .nil
        | cons x l ih => exact .cons (fun y hy => nomatch hy) ih
      have := (base σ).set (i := ie) (v := .ref a) (d := .exc c) (.exc rfl)
      rw [hσ] at this
      exact this
    · split at p
      · rename_i d s' hfh
        rw [hfh]
        split at p
        case isFalse => exact False.elim p
        rename_i hpl
        intro q3 H3 e3 rs3 v rv
        have e4 : Ext q2 H2 q2 H3 := ⟨⟨[], by simp⟩, e3.tup, fun b o h _ t => e3.rest b o h (by simp) t, e3.live, e3.frz⟩
        have rs4 : RS (gOf B X) q2 H3 s := by
          refine ⟨rs2.len, rs2.nd, fun m b o h1 h2 => ?_, ?_⟩
          · have r := rs2.at_ m b o h1 h2
            rcases r.there with z | ⟨_, z⟩
            · cases hb : H2 b with
              | none => exact absurd hb z
              | some u =>
                by_cases nt : ∀ ps, u ≠ .tbl ps
                · exact r.stay e4 ((e3.rest b u hb (by simp) nt).trans hb.symm)
                · obtain ⟨ps, z'⟩ := Classical.not_forall.mp nt
                  have z' := Classical.not_not.mp z'
                  subst z'
                  cases o with
                  | lst ds => obtain ⟨xs, h, _⟩ := r; rw [hb] at h; cases h
                  | rl ds =>
                    obtain ⟨xs, h, r⟩ := r
                    rcases h with ⟨ob, h⟩ | h
                    · rw [hb] at h; cases h
                    · exact ⟨xs, .inr h, r.ext e4⟩
                  | dic kvs =>
                    rcases r with ⟨gs, h, _⟩ | ⟨_, xs, h, _⟩ <;> (rw [hb] at h; cases h)
                  | fd kvs => obtain ⟨od, gs, h, _⟩ := r; rw [hb] at h; cases h
                  | ins c fs => obtain ⟨C, dx, gs, _, h, _⟩ := r; rw [hb] at h; cases h
            · exact z q2 H3 e4
          · intro z hz'
            rw [show (gOf B X).B.T = [] from hT] at hz'
            cases hz'
        have rv2 : RD (gOf B X) q2 H3 v d := RD.plain (g := gOf { B with xc := some (a, c) } X) (g' := gOf B X) rfl rv hpl
        exact p q2 H3 (e2.trans e4) rs4 v rv2
      · exact False.elim p
end
end VL
namespace VL
open PySem PySem.Spec PyProof.Rows L2
variable {B : Tb}
def resL (f : D → Option PyData) : List D → Option (List PyData)
  | [] => some []
  | x :: r => (f x).bind fun y => (resL f r).map fun ys => y :: ys
def resD : Nat → D → Sto → Option PyData
  | 0, _, _ => none
  | n + 1, d, st => match d with
    | .non => some .none
    | .bl b => some (.bool b)
    | .int i => some (.int i)
    | .str x => some (.str x)
    | .tup xs => (resL (fun x => resD n x st) xs).map .tuple
    | .ref m => match listAt st m with
      | some xs => (resL (fun x => resD n x st) xs).map .list
      | none => none
    | _ => none
theorem resL_dp {g : G} {q : List Addr} {H : Hp} {f : D → Option PyData} (hf : ∀ v d y, RD g q H v d → f d = some y → Dp g.K H v y) : ∀ {vs : List V} {ds : List D} {ys : List PyData}, RDs g q H vs ds → resL f ds = some ys → DpAll g.K H vs ys
  | _, _, _, .nil, h => by cases h; exact .nil
  | _, _, ys, .cons r t, h => by
    unfold resL at h
    obtain ⟨y, h1, h2⟩ := Option.bind_eq_some_iff.mp h
    obtain ⟨zs, h3, rfl⟩ := Option.map_eq_some_iff.mp h2
    exact .cons (hf _ _ _ r h1) (resL_dp hf t h3)
theorem resD_dp {g : G} {q : List Addr} {H : Hp} {st : Sto} (rs : RS g q H st) : ∀ (n : Nat) (v : V) (d : D) (y : PyData), RD g q H v d → resD n d st = some y → Dp g.K H v y
  | 0, _, _, _, _, h => by cases h
  | n + 1, v, d, y, r, h => by
    have ih := resD_dp rs n
    unfold resD at h
    cases d with
    | non => cases h; rw [r.non_inv]; exact .non
    | bl b => cases h; rw [r.bl_inv]; exact .bl b
    | int i => cases h; rw [r.int_inv]; exact .int i
    | str x => cases h; rw [r.str_inv]; exact .str x
    | tup xs =>
      obtain ⟨a, us, rfl, hs, rr⟩ := r.tup_inv
      obtain ⟨ys, h1, rfl⟩ := Option.map_eq_some_iff.mp h
      exact .tup hs (resL_dp ih rr h1)
    | ref m =>
      obtain ⟨a, rfl, qa⟩ := r.ref_inv
      simp only at h
      split at h
      · rename_i xs hx
        obtain ⟨a', us, qa', ha, rr⟩ := rs.listAt hx
        rw [qa] at qa'; cases qa'
        obtain ⟨ys, h1, rfl⟩ := Option.map_eq_some_iff.mp h
        exact .lst ha (resL_dp ih rr h1)
      · cases h
    | _ => cases h
def eqX (neg : Bool) : D → D → Sto → R D := fun a b st => match resD 6 a st, resD 6 b st with
  | some x, some y => if (SeqAt.shaped x && SeqAt.shaped y) = true then .ok (.bl (if neg then !PyData.eqv x y else PyData.eqv x y)) st else .bad
  | _, _ => .bad
section
variable {X : Cx} {E : XK}
theorem op_eqX (hu : X.A.units + 64 < cLine) : OpR X (compareOp .Eq) (LR (gOf B X) E (eqX false)) := (op_eqD hu).imp fun x y H Q w => by
  obtain ⟨q, st, a, b, rs, ra, rb, p⟩ := w
  unfold eqX at p
  split at p
  · rename_i u v h1 h2
    split at p
    · rename_i hs
      rw [Bool.and_eq_true] at hs
      exact ⟨u, v, resD_dp rs 6 _ _ _ ra h1, resD_dp rs 6 _ _ _ rb h2, hs.1, hs.2, p q _ H Ext.refl rs (.bl _)⟩
    · exact False.elim p
  · exact False.elim p
theorem op_neX (hu : X.A.units + 64 < cLine) : OpR X (compareOp .NotEq) (LR (gOf B X) E (eqX true)) := (op_neD hu).imp fun x y H Q w => by
  obtain ⟨q, st, a, b, rs, ra, rb, p⟩ := w
  unfold eqX at p
  split at p
  · rename_i u v h1 h2
    split at p
    · rename_i hs
      rw [Bool.and_eq_true] at hs
      exact ⟨u, v, resD_dp rs 6 _ _ _ ra h1, resD_dp rs 6 _ _ _ rb h2, hs.1, hs.2, p q _ H Ext.refl rs (.bl _)⟩
    · exact False.elim p
  · exact False.elim p
def rSort0 (K : PySem.W.Frag) : List V → List V → Hp → VK → Prop := fun vs zs H Q => ∃ a f : Addr, vs = [V.ref a] ∧ zs = [V.ref f] ∧ SqL K H a [] ∧ ∀ p, H p = none → Q (.ref p) (upd H p (.lst []))
theorem cr_sort0 : CallRK X (.builtin "sorted") [Str.ofString "key"] (rSort0 X.K) := by
  intro pins s σ H vs zs us ws Q I r rz h
  obtain ⟨a, f, rfl, rfl, hs, q⟩ := h
  obtain rfl := Vals.ref1 r
  obtain ⟨w1, rfl, e1⟩ := vals1 rz
  obtain rfl : w1 = Value.ref f := e1
  obtain ⟨its, rv, hl, hz⟩ := I.list hs
  cases rv
  refine PySem.W.sorted_key_data (β := PyData) (b := false) (R := fun _ _ => False) (vs := []) (bs := []) id hl.isList .nil (fun d h => nomatch h) (.inl fun d h => nomatch h) (Nat.zero_le _) (fun x h => nomatch h) (PyProof.Rows.ksk_s1 _ _) (fun _ => PyProof.Rows.ksk_l1 _ _) (fun _ => PyProof.Rows.ksk_t1 _ _) (fun v x h => h.elim) fun out c h' tk kp fresh hD hlen _ => ?_
  obtain rfl : out = [] := List.length_eq_zero_iff.mp hlen
  exact ⟨.ref _, upd H (s.heap.objs.size + 1) (.lst []), I.laid kp (Nat.le_succ _) ⟨Nat.zero_le _, [], c, .nil, hD⟩, rfl, q _ (I.hok.fresh (Nat.le_succ _))⟩
def sort0 : D → D → Sto → R D
  | .ref n, .glb _, st => match listAt st n with
    | some [] => newO (.lst []) st
    | _ => .bad
  | _, _, _ => .bad
theorem le_sort0 {x : Str} {p pos kpos : Pos} {e k : Expr} {fe fk : EF} (hg : Gl X x) (hm : X.mg x = none) (hv : bootBuiltins x = some (.builtin "sorted")) (he : PE X e (LE (gOf B X) E fe)) (hk : PE X k (LE (gOf B X) E fk)) (hn : x ≠ "__name__" := by decide) (hdb : (x == ("__debug__" : Str)) = false := by decide)
    (h0 : starEach [e] X.env = (false, eval e X.env) :: starEach [] X.env := by rfl) (h1 : backTo pos (starEach [e] X.env) = (false, eval e X.env) :: backTo pos (starEach [] X.env) := by rfl) (h2 : (backTo pos (starEach [e] X.env)).any (·.1) = false := by rfl)
    (h3 : (backToKw pos (keywordEach [⟨some "key", k, kpos⟩] X.env)).all (·.1.isSome) = true := by rfl) (h4 : (backToKw pos (keywordEach [⟨some "key", k, kpos⟩] X.env)).any (·.1.isNone) = false := by rfl) (h5 : (backToKw pos (keywordEach [⟨some "key", k, kpos⟩] X.env)).filterMap (·.1) = [Str.ofString "key"] := by rfl) :
    PE X (.Call (.Name x p) [e] [⟨some "key", k, kpos⟩] pos) (LE (gOf B X) E (opF sort0 fe fk)) :=
  (pe_callBK cr_sort0 hg hm hv (pa_cons he pa_nil (hs := h0)) (pk_cons hk pk_nil) hn hdb h1 h2 h3 h4 h5).imp fun sg H Q w => by
    obtain ⟨q, env, st, rs, re, p⟩ := w
    refine LE.chain rs re (R.post_bind.mp p) fun d s1 q1 v H1 p e1 rs1 re1 rx => ?_
    refine LE.chain rs1 re1 ((R.post_bind.mp p).imp (fun _ _ h => h) fun _ _ h => h.ext e1) fun d2 s2 q2 v2 H2 p e2 rs2 re2 rx2 => ?_
    unfold sort0 at p
    split at p
    · rename_i n c
      split at p
      · rename_i hx
        obtain ⟨a, us, qa, ha, rr⟩ := rs2.listAt hx
        obtain ⟨a', rfl, qa'⟩ := rx.ref_inv
        have qa2 := e2.at qa'
        rw [qa] at qa2; cases qa2
        obtain ⟨f, rfl, _⟩ := rx2.glb_inv'
        cases rr
        refine ⟨a, f, rfl, rfl, ha, fun t ht => ?_⟩
        obtain ⟨e3, rs3, r3⟩ := lst_new rs2 ht (.nil : RDs (gOf B X) q2 H2 [] [])
        exact p _ _ _ ((e1.trans e2).trans e3) rs3 r3
      · exact False.elim p
    · exact False.elim p
def clearD : D → List D → Sto → R D
  | .ref n, [], st => match st[n]? with
    | some (.lst _) => .ok .non (st.set n (.lst []))
    | _ => .bad
  | _, _, _ => .bad
theorem mt_clearD : MtR X "list.clear" (LM (gOf B X) E clearD) := MtR.imp mt_clear fun x vs H Q w => by
  obtain ⟨q, st, d, ds, rs, rx, rd, p⟩ := w
  unfold clearD at p
  split at p
  · rename_i n
    split at p
    · rename_i xs hx
      cases rd
      obtain ⟨a, ys, qa, ha, r⟩ := rs.lstAt hx
      obtain ⟨a', rfl, qa'⟩ := rx.ref_inv
      rw [qa] at qa'; cases qa'
      obtain ⟨rs2, e2⟩ := lst_put rs hx qa ha (.nil : RDs (gOf B X) q H [] [])
      exact ⟨a, ys, rfl, rfl, ha, p q _ _ e2 rs2 .non⟩
    · exact False.elim p
  · exact False.elim p
def idxD : D → List D → Sto → R D
  | .ref n, [y], st => match listAt st n with
    | some xs => if flatD y = true ∧ xs.all flatD = true then (match xs.findIdx? fun x => eqF x y with
      | some j => .ok (.int (j : Nat)) st
      | none => .bad) else .bad
    | none => .bad
  | _, _, _ => .bad
theorem mt_idxD : MtR X "list.index" (LM (gOf B X) E idxD) := MtR.imp mt_index fun x vs H Q w => by
  obtain ⟨q, st, d, ds, rs, rx, rd, p⟩ := w
  unfold idxD at p
  split at p
  · rename_i n y
    split at p
    · rename_i xs hx
      split at p
      · rename_i hf
        split at p
        · rename_i j hj
          obtain ⟨yv, rfl, ry⟩ := rd.one_inv
          obtain ⟨a, us, qa, ha, rr⟩ := rs.listAt hx
          obtain ⟨a', rfl, qa'⟩ := rx.ref_inv
          rw [qa] at qa'; cases qa'
          obtain ⟨k1, k2, k3⟩ := List.findIdx?_eq_some_iff_getElem.mp hj
          have fl : ∀ {m : Nat} {z : D}, xs[m]? = some z → flatD z = true := fun h => List.all_eq_true.mp hf.2 _ (List.mem_of_getElem? h)
          obtain ⟨z, hz1, hz2⟩ := rr.get (List.getElem?_eq_getElem k1)
          refine ⟨a, us, yv, j, z, rfl, rfl, ha, flat_of ry hf.1, all_flat rr hf.2, hz1, ?_, fun m z' hm hz' => ?_, p q _ H Ext.refl rs (.int _)⟩
          · rw [eqF_of hz2 ry (fl (List.getElem?_eq_getElem k1)) hf.1]; exact k2
          · obtain ⟨dz, e1, r1⟩ := rr.getV hz'
            rw [eqF_of r1 ry (fl e1) hf.1]
            have hml := (List.getElem?_eq_some_iff.mp e1).1
            have := k3 m hm
            rw [← (List.getElem?_eq_some_iff.mp e1).2]
            simpa using this
        · exact False.elim p
      · exact False.elim p
    · exact False.elim p
  · exact False.elim p
/-- how many truths of a list are so -/
def cntD : D → List D → Sto → R D
  | .ref n, [.bl b], st => match (listAt st n).bind truO with
    | some bs => .ok (.int (bs.count b : Nat)) st
    | none => .bad
  | _, _, _ => .bad
theorem cnt_eqv (b : Bool) : ∀ bs : List Bool, (bs.map PyData.bool).countP (fun y => PyData.eqv y (.bool b)) = bs.count b
  | [] => rfl
  | c :: r => by
    rw [List.map_cons, List.countP_cons, List.count_cons, cnt_eqv b r]
    rfl
theorem plain_tru : ∀ bs : List Bool, PyData.plainAll (bs.map PyData.bool) = true ∧ PyData.depthAll (bs.map PyData.bool) = 0
  | [] => ⟨rfl, rfl⟩
  | b :: r => by
    obtain ⟨h1, h2⟩ := plain_tru r
    refine ⟨by rw [List.map_cons, PyData.plainAll, h1]; rfl, by rw [List.map_cons, PyData.depthAll, h2]; rfl⟩
theorem mt_cntD (hu : X.A.units + 64 < cLine) : MtR X "list.count" (LM (gOf B X) E cntD) := by
  intro pins s sg H x xs v us Q I rx rxs w
  obtain ⟨q, st, d, ds, rs, rd, rds, p⟩ := w
  unfold cntD at p
  split at p
  · rename_i n b
    split at p
    · rename_i bs hb
      obtain ⟨ys, h1, k1⟩ := Option.bind_eq_some_iff.mp hb
      obtain ⟨y, rfl, ry⟩ := rds.one_inv
      rw [ry.bl_inv] at rxs
      obtain ⟨u1, rfl, r1⟩ := vals1 rxs
      obtain rfl : u1 = Value.bool b := r1
      obtain ⟨a, ws, qa, ha, rr⟩ := rs.listAt h1
      obtain ⟨a', rfl, qa'⟩ := rd.ref_inv
      rw [qa] at qa'; cases qa'
      have e1 := rr.truO_ k1
      subst e1
      cases rx
      obtain ⟨its, rv, hl, hz⟩ := I.list ha
      obtain ⟨as, ra⟩ := Dp.readsAll I (bs.map PyData.bool) _ its (dp_tru bs) rv
      obtain ⟨bs', r1⟩ := Dp.reads I (.bool b) (V.bl b) (Value.bool b) (.bl b) rfl
      refine SeqAt.count_list_data (xs := bs.map PyData.bool) (d := .bool b) (as := as) (bs := bs') hl.isList (show ReadsAll s.heap its.toArray.toList _ as from ra) r1 (plain_tru bs).1 rfl (by rw [(plain_tru bs).2]; show X.A.units + 1 + min 0 _ < cLine; rw [Nat.zero_min]; omega) ?_
      rw [cnt_eqv]
      exact ⟨.int (bs.count b : Nat), H, I.tok _, ⟨_, rfl⟩, p q _ H Ext.refl rs (.int _)⟩
    · exact False.elim p
  · exact False.elim p
theorem keys_rd {g : G} {q : List Addr} {H : Hp} : ∀ {kvs : List (D × D)} {gs : List (Key × V)}, Paired (fun (p : D × D) (x : Key × V) => p.1 = dK x.1 ∧ RD g q H x.2 p.2) kvs gs → RDs g q H (gs.map fun kv => kV kv.1) (kvs.map (·.1))
  | _, _, .nil => .nil
  | (k, d) :: _, (kk, v) :: _, .cons h t => by
    refine .cons ?_ (keys_rd t)
    have h1 : k = dK kk := h.1
    show RD g q H (kV kk) k
    rw [h1]
    cases kk with
    | inl i => exact .int i
    | inr z => exact .str z
def listKD : List D → Sto → R D
  | [.ref n], st => match st[n]? with
    | some (.dic kvs) => if keysOk kvs = true then newO (.lst (kvs.map (·.1))) st else .bad
    | _ => .bad
  | _, _ => .bad
theorem call_listKD (hc : X.calm = true) : CallR X (.type "list") (LC (gOf B X) E listKD) := (call_list_dK hc).imp fun vs H Q w => by
  obtain ⟨q, st, ds, rs, rd, p⟩ := w
  unfold listKD at p
  split at p
  · rename_i n
    split at p
    · rename_i kvs hk
      split at p
      · rename_i hok
        obtain ⟨x, rfl, rx⟩ := rd.one_inv
        obtain ⟨a, gs, qa, ha, hp⟩ := rs.dicK hk hok
        obtain ⟨a', rfl, qa'⟩ := rx.ref_inv
        rw [qa] at qa'; cases qa'
        refine ⟨a, gs, rfl, ha, fun t ht => ?_⟩
        obtain ⟨e2, rs2, r2⟩ := lst_new rs ht (keys_rd hp)
        exact p _ _ _ e2 rs2 r2
      · exact False.elim p
    · exact False.elim p
  · exact False.elim p
theorem le_din {i o : Expr} {fa fb : EF} {pos : Pos} (hu : X.A.units + 1 < cLine) (ha : PE X i (LE (gOf B X) E fa)) (hb : PE X o (LE (gOf B X) E fb)) (hm : behindInMarks .In o = false := by rfl) : PE X (.Compare i [.In] [o] pos) (LE (gOf B X) E (opF (dinD false) fa fb)) :=
  (pe_cmp (pc_din hu ha hb) hm).imp fun _ _ _ w => din_le (neg := false) w
end
inductive AllR {α : Type} (P : α → Prop) : List α → Prop
  | nil : AllR P []
  | cons {a : α} {l : List α} : P a → AllR P l → AllR P (a :: l)
theorem AllR.mem {α : Type} {P : α → Prop} : ∀ {l : List α}, AllR P l → ∀ a ∈ l, P a
  | _, .nil, _, h => nomatch h
  | _, .cons p t, a, h => by
    rcases List.mem_cons.mp h with rfl | h
    · exact p
    · exact t.mem a h
def xfind (rows : List (Str × Str × Bool)) (c C : Str) : Option Bool := (rows.find? fun r => decide (r.1 = c) && decide (r.2.1 = C)).map (·.2.2)
def xfindT (rows : List (Str × String × Bool)) (c : Str) (T : String) : Option Bool := (rows.find? fun r => decide (r.1 = c) && decide (r.2.1 = T)).map (·.2.2)
theorem xtab_of {K : PySem.W.Frag} {mg : Str → Option Value} {rows : List (Str × Str × Bool)} {rowsT : List (Str × String × Bool)}
    (h : AllR (fun r => ∃ D C', mg r.1 = some (.ref D) ∧ mg r.2.1 = some (.ref C') ∧ ExcC K D ∧ PySem.W.kitOne K (.ref D) (.ref C') = some r.2.2) rows)
    (hT : AllR (fun r => ∃ D, mg r.1 = some (.ref D) ∧ ExcC K D ∧ PySem.W.kitOne K (.ref D) (.type r.2.1) = some r.2.2) rowsT) : XTab K mg (xfind rows) (xfindT rowsT) := by
  refine ⟨fun c C b e => ?_, fun c T b e => ?_⟩
  · obtain ⟨r, hr, rfl⟩ := Option.map_eq_some_iff.mp e
    have hp := List.find?_some hr
    rw [Bool.and_eq_true, decide_eq_true_iff, decide_eq_true_iff] at hp
    obtain ⟨D, C', h1, h2, h3, h4⟩ := h.mem r (List.mem_of_find?_eq_some hr)
    exact ⟨D, C', hp.1 ▸ h1, hp.2 ▸ h2, h3, h4⟩
  · obtain ⟨r, hr, rfl⟩ := Option.map_eq_some_iff.mp e
    have hp := List.find?_some hr
    rw [Bool.and_eq_true, decide_eq_true_iff, decide_eq_true_iff] at hp
    obtain ⟨D, h1, h3, h4⟩ := hT.mem r (List.mem_of_find?_eq_some hr)
    exact ⟨D, hp.1 ▸ h1, h3, hp.2 ▸ h4⟩
def okOf (rows : List Str) (c : Str) : Bool := rows.any fun r => decide (r = c)
theorem xo_of {K : PySem.W.Frag} {mg : Str → Option Value} {V : Value} {rows : List Str} (h : AllR (fun r => ∃ D, mg r = some (.ref D) ∧ PySem.W.exmOne K (.ref D) V = some true) rows) : ∀ c, okOf rows c = true → ∃ D, mg c = some (.ref D) ∧ PySem.W.exmOne K (.ref D) V = some true := fun c hc => by
  obtain ⟨r, hr, e⟩ := List.any_eq_true.mp hc
  have e := of_decide_eq_true e
  subst e
  exact h.mem r hr
end VL
namespace VL
open PySem PySem.Spec PyProof.Rows L2 LamX NdefX
variable {B : Tb}
theorem ExtN.live {H H' : Hp} (e : ExtN H H') {a : Addr} (h : Live H a) : Live H' a := let ⟨o, h1, h2⟩ := h; ⟨o, e _ _ h1 h2, h2⟩
theorem ExtN.ext {q : List Addr} {H H' : Hp} (e : ExtN H H') : Ext q H q H' := ⟨⟨[], by simp⟩, fun a xs h => by
  rcases h with h | ⟨o, h⟩
  · exact .inl ((e _ _ h fun ps z => by cases z))
  · exact .inr ⟨o, (e _ _ h fun ps z => by cases z)⟩, fun a o h _ t => e a o h t, fun a h => ExtN.live e h, fun a o u h => e _ _ h fun ps z => by cases z⟩
end VL
namespace VL
open PySem PySem.Spec PyProof.Rows L2 LamX NdefX
variable {B : Tb}
theorem cell_at {P : Program} {w : World} {H : Hp} {h : Heap} {c : Addr} {x : V} (ok : HOk P w H h) (e : H c = some (CellO c x)) : ∃ u, L2.RelV x u ∧ h.IsCell c (some u) := (ok c _ e).1
abbrev Mk := Addr → Nat → Addr → L2.St → Hp → Prop
/-- the scope of the nested def names what it captures, and the maker has it -/
structure CapsOk (sc : Scope) (S : NFS) : Prop where
  fr : ∀ y ∈ S.scope.names, y.2 = .free → y.1 ∈ S.fr ∧ (sc.names.lookup y.1 = some .cell ∨ sc.names.lookup y.1 = some .free)
  of : ∀ y ∈ S.fr, (y, NameKind.free) ∈ S.scope.names
/-- the captured names' values -/
def Held (N fr : List Str) (sg : L2.St) (ws : List V) : Prop := ws.length = fr.length ∧ ∀ (i : Nat) (y : Str), fr[i]? = some y → ∃ (j : Nat) (w : V), N[j]? = some y ∧ sg[j]? = some (some w) ∧ ws[i]? = some w
def MP (B : Tb) (X : Cx) (pins : List (Addr × Obj)) (D : Ends) (mk : Mk) (f : Flow) (s' : Shared) : Prop := SP X pins D f s' ∨ ∃ a k S c σ' H', B.nf k = some S ∧ CapsOk X.env.scope S ∧ f = .ret (.ref a) ∧ (∃ ws, Held X.N S.fr σ' ws) ∧ Inv X pins σ' H' s' ∧ H' a = some (CloO a S (cloFrom X.env.cells S.scope.names []) c) ∧ H' c = some (CodeO c S.qual) ∧ mk a k c σ' H'
abbrev TM := Ends → Mk → L2.St → Hp → Prop
structure PM (B : Tb) (X : Cx) (sts : List Stmt) (t : TM) : Prop where
  run : ∀ (pins : List (Addr × Obj)) (s : Shared) (σ : L2.St) (H : Hp) (D : Ends) (mk : Mk), Inv X pins σ H s → t D mk σ H → wpAny (model X.prog X.w) X.A (execs sts X.env) (MP B X pins D mk) X.xe s
def KM (g : G) (N : List Str) (q : List Addr) (H : Hp) (D : Ends) (mk : Mk) : Fl → Sto → Prop := fun fl st => ∀ q' H', Ext q H q' H' → RS g q' H' st → match fl with
  | .nx e => ∀ sg, RE g q' H' sg e → D.nx sg H'
  | .rt d => (∀ v, RD g q' H' v d → D.rt v H') ∧ ∀ k caps a S c sg ws, d = .clo k caps → g.B.nf k = some S → a ∉ q' → c ∉ q' → Held N S.fr sg ws → RDs g q' H' ws caps → mk a k c sg H'
  | .bk e => ∀ sg, RE g q' H' sg e → D.bk sg H'
  | .ct e => ∀ sg, RE g q' H' sg e → D.ct sg H'
theorem KM.ext {g : G} {N : List Str} {q q' : List Addr} {H H' : Hp} {D : Ends} {mk : Mk} (e : Ext q H q' H') {c : Fl} {st : Sto} (k : KM g N q H D mk c st) : KM g N q' H' D mk c st := fun q2 H2 e2 r => k q2 H2 (e.trans e2) r
section
variable {X : Cx} {E : XK} {N : List Str}
theorem KM.ks {g : G} {q : List Addr} {H : Hp} {D : Ends} {mk : Mk} {fl : Fl} {st : Sto} (k : KM g N q H D mk fl st) : KS g q H D fl st := fun q' H' e r => by
  have z := k q' H' e r
  cases fl with
  | rt d => exact z.1
  | nx e => exact z
  | bk e => exact z
  | ct e => exact z
end
end VL
namespace VL
open PySem PySem.Spec PyProof.Rows L2 LamX NdefX
variable {B : Tb}
theorem MP.unwish {X : Cx} {W : Value → Shared → Prop} {pins : List (Addr × Obj)} {D : Ends} {mk : Mk} {f : Flow} {s' : Shared} (h : MP B (X.wish W) pins D mk f s') : MP B X pins D mk f s' := by
  rcases h with h | ⟨a, k, S, c, σ', H', h1, h2, h3, h4, I, h5⟩
  · exact .inl h.unwish
  · exact .inr ⟨a, k, S, c, σ', H', h1, h2, h3, h4, I.unwish, h5⟩
theorem PM.nox {X : Cx} {sts : List Stmt} {t : TM} (h : PM B X.nox sts t) : PM B X sts t := ⟨fun pins s σ H D mk I hw =>
  wpAny_mono (h.run pins s σ H D mk (I.wish _) hw) (fun _ _ q => q.unwish) fun _ _ z => False.elim z⟩
end VL
namespace VL
open PySem PySem.Spec PyProof.Rows L2 LamX NdefX
variable {B : Tb}
/-- the captured values, the arguments -/
abbrev CFn := List D → Fn
def startC (n : Nat) (caps ds : List D) : EnvD := ds.map some ++ (caps.map some ++ List.replicate (n - ds.length - caps.length) none)
def fnC (n : Nat) (f : SF) : CFn := fun caps ds st => (f (startC n caps ds) st).bind fun fl s => match fl with
  | .nx _ => .ok .non s
  | .rt d => .ok d s
  | _ => .bad
section
variable {g : G} {H : Hp} {f : Addr} {S : NFS} {cl : List (Str × Addr)} {cd : Addr} {ws : List V} {h : Heap}
theorem CloAt.cells (x : CloAt [] H f S cl cd ws) (ok : HOk g.P g.w H h) : CellsAt cl S.fr (ws.map some) h (less H cl) := by
  refine ⟨by rw [List.length_map]; exact x.len, fun y a e => ?_, x.inj, fun i y e => ?_⟩
  · have hm : a ∈ cl.map (·.2) := List.mem_map.mpr ⟨(y, a), PySem.mem_of_lookup e, rfl⟩
    obtain ⟨_, w, z⟩ := x.all (y, a) (PySem.mem_of_lookup e)
    obtain ⟨u, _, hc⟩ := cell_at ok z
    exact ⟨if_pos hm, _, hc⟩
  · obtain ⟨a, w, h1, h2, h3⟩ := x.has i y e
    refine ⟨a, h1, fun v hv => ?_⟩
    rw [List.getElem?_map, h2] at hv
    cases hv
    exact cell_at ok h3
end
end VL
namespace VL
open PySem PySem.Spec PyProof.Rows L2 LamX NdefX
variable {B : Tb}
theorem CloAt.nil {q : List Addr} {H : Hp} {f : Addr} {S : NFS} {cl : List (Str × Addr)} {c : Addr} {ws : List V} (x : CloAt q H f S cl c ws) : CloAt [] H f S cl c ws :=
  ⟨x.fn, by simp, x.code, by simp, fun p hp => ⟨by simp, (x.all p hp).2⟩, x.inj, x.len, x.has⟩
section
variable {X : Cx} {k n i : Nat} {x : Str} {p pos : Pos} {e : Expr} {es : List Expr} {fa : AF} {tab : Nat → Option CFn} {gt : Str → Option Fn}
/-- a def of the module as a value -/
theorem le_glb {a : Addr} {E : XK} (hg : Gl X x) (hm : X.mg x = some (.ref a)) (hdb : (x == ("__debug__" : Str)) = false := by decide) : PE X (.Name x p) (LE (gOf B X) E (cF (.glb x))) := ⟨fun pins s σ H Q I w => by
  obtain ⟨q, env, st, rs, re, pp⟩ := w
  exact ld_glob I hg hm ⟨.ref a, H, I, rfl, pp q _ H Ext.refl rs (.glb hm)⟩ hdb⟩
end
end VL
namespace VL
open PySem L2 LamX NdefX
/-- an int below 2 ^ 1000 in size; sums and products of such -/
def Sm (k : Nat) (a : Int) : Prop := a.natAbs < 2 ^ k
instance {k : Nat} {a : Int} : Decidable (Sm k a) := inferInstanceAs (Decidable (a.natAbs < 2 ^ k))
theorem Sm.of {k : Nat} {a b : Int} (h0 : 0 ≤ a) (h : a < b) (hb : b ≤ 2 ^ k) : Sm k a := by
  unfold Sm
  have e : ((a.natAbs : Nat) : Int) < ((2 ^ k : Nat) : Int) := by
    rw [Int.natAbs_of_nonneg h0]
    have : ((2 ^ k : Nat) : Int) = (2 : Int) ^ k := by push_cast; rfl
    rw [this]
    omega
  exact Int.ofNat_lt.mp e
theorem Sm.mod {k : Nat} {a m : Int} (hm : 0 < m) (hk : m ≤ 2 ^ k) : Sm k (a % m) := Sm.of (Int.emod_nonneg a (by omega)) (Int.emod_lt_of_pos a hm) hk
theorem Sm.add {k : Nat} {a b : Int} (ha : Sm k a) (hb : Sm k b) : Sm (k + 1) (a + b) := by
  unfold Sm at *
  have := Int.natAbs_add_le a b
  rw [Nat.pow_succ]
  omega
theorem Sm.neg {k : Nat} {a : Int} (ha : Sm k a) : Sm k (-a) := by unfold Sm at *; rw [Int.natAbs_neg]; exact ha
theorem Sm.sub {k : Nat} {a b : Int} (ha : Sm k a) (hb : Sm k b) : Sm (k + 1) (a - b) := by rw [Int.sub_eq_add_neg]; exact ha.add hb.neg
theorem Sm.mono {j k : Nat} {a : Int} (h : Sm j a) (hk : j ≤ k) : Sm k a := Nat.lt_of_lt_of_le h (Nat.pow_le_pow_right (by decide) hk)
theorem mul_okR {a b : Int} (hb : Sm 64 b) : decide (MulOk a b) = true := decide_eq_true (.inr (.inr hb))
theorem mul_okL {a b : Int} (ha : Sm 64 a) : decide (MulOk a b) = true := decide_eq_true (.inr (.inl ha))
theorem get_app {st j : Sto} {n : Nat} {o : O} (h : st[n]? = some o) : (st ++ j)[n]? = some o := by
  rw [List.getElem?_append_left (List.getElem?_eq_some_iff.mp h).1]; exact h
theorem listAt_app {st j : Sto} {n : Nat} {xs : List D} (h : listAt st n = some xs) : listAt (st ++ j) n = some xs := by
  unfold listAt at *
  split at h
  · rename_i e; rw [get_app e]; exact h
  · rename_i e; rw [get_app e]; exact h
  · cases h
theorem get_last {st : Sto} {o : O} : (st ++ [o])[st.length]? = some o := by simp
theorem set_last {st : Sto} {o u : O} : (st ++ [o]).set st.length u = st ++ [u] := by simp
theorem listAt_last {st : Sto} {xs : List D} : listAt (st ++ [.lst xs]) st.length = some xs := listAt_lst get_last
/-- st' has all that st has -/
def Le (st st' : Sto) : Prop := ∃ j, st' = st ++ j
theorem Le.refl (st : Sto) : Le st st := ⟨[], by simp⟩
theorem Le.trans {a b c : Sto} (h : Le a b) (k : Le b c) : Le a c := by
  obtain ⟨j, rfl⟩ := h
  obtain ⟨l, rfl⟩ := k
  exact ⟨j ++ l, by simp⟩
theorem Le.app (st j : Sto) : Le st (st ++ j) := ⟨j, rfl⟩
theorem Le.get {a b : Sto} (h : Le a b) {n : Nat} {o : O} (e : a[n]? = some o) : b[n]? = some o := by obtain ⟨j, rfl⟩ := h; exact get_app e
theorem Le.listAt {a b : Sto} (h : Le a b) {n : Nat} {xs : List D} (e : listAt a n = some xs) : VL.listAt b n = some xs := by obtain ⟨j, rfl⟩ := h; exact listAt_app e
theorem Le.len {a b : Sto} (h : Le a b) : a.length ≤ b.length := by obtain ⟨j, rfl⟩ := h; simp
theorem forL_nil {c : Chk} {gf : GF} {b : SF} {env : EnvD} {st : Sto} (h : ChkOk c st) : forL c gf b [] env st = .ok (.nx env) st := by unfold forL; rw [if_pos h]
theorem forL_cons {c : Chk} {gf : GF} {b : SF} {x : D} {r : List D} {env : EnvD} {st : Sto} (h : ChkOk c st) : forL c gf b (x :: r) env st = (gf x env st).bind fun e s => (b e s).bind fun fl s' => match fl with
      | .nx e' => forL c gf b r e' s'
      | .ct e' => forL c gf b r e' s'
      | .bk e' => .ok (.nx e') s'
      | .rt d => .ok (.rt d) s' := by
  rw [forL, if_pos h]
  all_goals rfl
/-- a loop whose turns all go on -/
theorem forL_inv {c : Chk} {gf : GF} {b : SF} {ds : List D} {env : EnvD} {st : Sto} (I : Nat → EnvD → Sto → Prop) (h0 : I 0 env st) (hc : ∀ i env st, I i env st → ChkOk c st)
    (hs : ∀ i x env st, ds[i]? = some x → I i env st → ∃ e s e' s', gf x env st = .ok e s ∧ b e s = .ok (.nx e') s' ∧ I (i + 1) e' s') : ∃ e' s', forL c gf b ds env st = .ok (.nx e') s' ∧ I ds.length e' s' := by
  have all : ∀ (r : List D) (i : Nat) (env : EnvD) (st : Sto), i ≤ ds.length → ds.drop i = r → I i env st → ∃ e' s', forL c gf b r env st = .ok (.nx e') s' ∧ I ds.length e' s' := by
    intro r
    induction r with
    | nil =>
      intro i env st hi hd h
      have hl : ds.length ≤ i := List.drop_eq_nil_iff.mp hd
      have e : i = ds.length := by omega
      subst e
      exact ⟨env, st, forL_nil (hc _ _ _ h), h⟩
    | cons x r ih =>
      intro i env st hi hd h
      have hx : ds[i]? = some x := by
        have := congrArg (fun l => l[0]?) hd
        simpa using this
      obtain ⟨e, s, e', s', h1, h2, h3⟩ := hs i x env st hx h
      rw [forL_cons (hc _ _ _ h), h1, R.bind_ok, h2, R.bind_ok]
      refine ih (i + 1) e' s' ?_ ?_ h3
      · have := (List.getElem?_eq_some_iff.mp hx).1
        omega
      · have := congrArg List.tail hd
        simpa using this
  exact all ds 0 env st (Nat.zero_le _) (by simp) h0
/-- a loop that goes on as long as each turn does, and leaves with False at the first turn that does not: all turns go on -/
theorem forS_ok {it : ItF} {gf : GF} {b : SF} {env : EnvD} {st : Sto} {ds : List D} {c : Chk} {s : Sto} {r : R Fl} (h : it env st = .ok (ds, c) s) (h2 : forL c gf b ds env s = r) : forS it gf b env st = r := by
  unfold forS; rw [h, R.bind_ok]; exact h2
theorem lcL_nil {c : Chk} {gf : GF} {tt : TF} {te : EF} {env : EnvD} {n : Nat} {st : Sto} (h : ChkOk c st) : lcL c gf tt te env n [] st = .ok () st := by unfold lcL; rw [if_pos h]
theorem lcL_cons {c : Chk} {gf : GF} {tt : TF} {te : EF} {env : EnvD} {n : Nat} {x : D} {r : List D} {st : Sto} (h : ChkOk c st) : lcL c gf tt te env n (x :: r) st = (gf x env st).noex.bind fun e s => (tt e s).noex.bind fun b s1 => if b = true then (te e s1).noex.bind fun d s2 => match s2[n]? with
        | some (.lst acc) => if acc.length < sizeLine then lcL c gf tt te env n r (s2.set n (.lst (acc ++ [d]))) else .bad
        | _ => .bad
      else lcL c gf tt te env n r s1 := by
  rw [lcL, if_pos h]
  all_goals rfl
theorem pow62 : (2 : Int) ^ 62 = 4611686018427387904 := by decide
theorem rng1_ok {w : Nat} {st : Sto} (h : w < 4611686018427387904) : rng1D [.int (w : Int)] st = .ok (intsD 0 1 w, []) st := by
  simp only [rng1D]
  rw [pow62, if_pos ⟨by omega, by omega⟩, Int.toNat_natCast]
theorem lenD_list {st : Sto} {n : Nat} {xs : List D} (h : listAt st n = some xs) : lenD [.ref n] st = .ok (.int xs.length) st := by simp only [lenD, h]
theorem tyD_list {st : Sto} {n : Nat} {xs : List D} (h : listAt st n = some xs) : tyD "list" (.ref n) st := .inl ⟨rfl, by rw [h]; rfl⟩
theorem appD_ok {st : Sto} {n : Nat} {xs : List D} {d : D} (h : st[n]? = some (.lst xs)) (hz : xs.length < sizeLine) : appD (.ref n) [d] st = .ok .non (st.set n (.lst (xs ++ [d]))) := by
  simp only [appD, h]
  rw [if_pos hz]
theorem ixD_list {st : Sto} {n k : Nat} {xs : List D} {d : D} (h : listAt st n = some xs) (hk : xs[k]? = some d) : ixD (.ref n) (.int (k : Int)) st = .ok d st := by
  simp only [ixD, h, Option.bind_some, atI_nat hk]
theorem itD_list {st : Sto} {n : Nat} {xs : List D} (h : listAt st n = some xs) : itD (.ref n) st = .ok (xs, chkAt st n) st := by simp only [itD, h]
theorem isN_f {d : D} {st : Sto} : isN false d .non st = .ok (.bl (match d with | .non => true | _ => false)) st := by cases d <;> rfl
def N7 : List String := ["NoneType", "bool", "int", "str", "tuple", "list", "dict"]
def T6 : List String := ["int", "bool", "tuple", "list", "dict", "str"]
theorem kit_all : ∀ a ∈ N7, ∀ T ∈ T6, kitB a T = some (a == T || (a == "bool" && T == "int")) := by decide +kernel
theorem tyOfD_mem {d : D} {st : Sto} {a : String} (h : tyOfD d st = some a) : a ∈ N7 := by
  cases d with
  | ref n =>
    simp only [tyOfD] at h
    split at h <;> first | (cases h; done) | (cases h; decide)
  | _ => first | (cases h; done) | (cases h; decide)
/-- isinstance(d, T) -/
def isT (d : D) (st : Sto) (T : String) : Bool := match tyOfD d st with
  | some a => a == T || (a == "bool" && T == "int")
  | none => false
theorem isi_ok {d : D} {st : Sto} {T : String} (h : (tyOfD d st).isSome = true) (hT : T ∈ T6) : isiD [d, .ty T] st = .ok (.bl (isT d st T)) st := by
  obtain ⟨a, ha⟩ := Option.isSome_iff_exists.mp h
  simp only [isiD, ha, Option.bind_some, kit_all a (tyOfD_mem ha) T hT, isT]
/-- a datum of a told type, here and in each later store -/
def Good (d : D) (st : Sto) : Prop := ∀ j, (tyOfD d (st ++ j)).isSome = true ∧ tyOfD d (st ++ j) = tyOfD d st
theorem Good.app {d : D} {st : Sto} (h : Good d st) (j : Sto) : Good d (st ++ j) := fun k => by
  rw [List.append_assoc]
  exact ⟨(h (j ++ k)).1, (h (j ++ k)).2.trans (h j).2.symm⟩
theorem Good.le {d : D} {st st' : Sto} (h : Good d st) (l : Le st st') : Good d st' := by obtain ⟨j, rfl⟩ := l; exact h.app j
theorem Good.ref {n : Nat} {st : Sto} {o : O} (h : st[n]? = some o) (h2 : (tyOfD (.ref n) st).isSome = true) : Good (.ref n) st := fun j => by
  have e : tyOfD (.ref n) (st ++ j) = tyOfD (.ref n) st := by simp only [tyOfD, get_app h, h]
  exact ⟨by rw [e]; exact h2, e⟩
theorem Good.non {st : Sto} : Good .non st := fun _ => ⟨rfl, rfl⟩
theorem Good.bl {st : Sto} {b : Bool} : Good (.bl b) st := fun _ => ⟨rfl, rfl⟩
theorem Good.int {st : Sto} {b : Int} : Good (.int b) st := fun _ => ⟨rfl, rfl⟩
theorem Good.str {st : Sto} {b : Str} : Good (.str b) st := fun _ => ⟨rfl, rfl⟩
theorem Good.tup {st : Sto} {b : List D} : Good (.tup b) st := fun _ => ⟨rfl, rfl⟩
theorem addD_lst {m n : Nat} {xs ys : List D} {st : Sto} (h1 : st[m]? = some (.lst xs)) (h2 : st[n]? = some (.lst ys)) (h : xs.length + ys.length ≤ sizeLine) : addD (.ref m) (.ref n) st = .ok (.ref st.length) (st ++ [.lst (xs ++ ys)]) := by
  simp only [addD, h1, h2]; rw [if_pos h]; rfl
theorem slD_list {n : Nat} {xs : List D} {lo hi : Option Int} {st : Sto} (h : listAt st n = some xs) : slD (.ref n) lo hi st = .ok (.ref st.length) (st ++ [.lst (cutD xs lo hi)]) := by
  simp only [slD, h]; rfl
theorem allD_ok {n : Nat} {bs : List Bool} {st : Sto} (h : listAt st n = some (bs.map D.bl)) : allD [.ref n] st = .ok (.bl (bs.all id)) st := by
  have e : ∀ bs : List Bool, bools (bs.map D.bl) = some bs := by
    intro bs
    induction bs with
    | nil => rfl
    | cons b bs ih => rw [List.map_cons, bools, ih]; rfl
  simp only [allD, h, Option.bind_some, e]
theorem sizeLine_eq' : sizeLine = 16777216 := by decide
theorem Le.set {a s : Sto} {n : Nat} {o : O} (h : Le a s) (hn : a.length ≤ n) : Le a (s.set n o) := by
  obtain ⟨j, rfl⟩ := h
  exact ⟨j.set (n - a.length) o, by rw [List.set_append_right _ _ hn]⟩
theorem lcL_grow {c : Chk} {gf : GF} {tt : TF} {te : EF} {env : EnvD} {s : Sto} {h : D → D} {p : D → Bool} (hc : ∀ S, Le s S → ChkOk c S) : ∀ {ds acc : List D} {j : Sto}, acc.length + ds.length ≤ sizeLine →
    (∀ x ∈ ds, ∀ S, Le s S → ∃ e j1, gf x env S = .ok e S ∧ tt e S = .ok (p x) (S ++ j1) ∧ (p x = true → ∃ j2, te e (S ++ j1) = .ok (h x) (S ++ j1 ++ j2))) →
    ∃ j', lcL c gf tt te env s.length ds (s ++ .lst acc :: j) = .ok () (s ++ .lst (acc ++ (ds.filter p).map h) :: j')
  | [], acc, j, _, _ => ⟨j, by rw [lcL_nil (hc _ (Le.app _ _))]; simp⟩
  | x :: ds, acc, j, hl, hb => by
    have hle : Le s (s ++ .lst acc :: j) := Le.app _ _
    obtain ⟨e, j1, h1, h2, h3⟩ := hb x List.mem_cons_self _ hle
    rw [List.length_cons] at hl
    rw [lcL_cons (hc _ hle), h1, R.noex_ok, R.bind_ok, h2, R.noex_ok, R.bind_ok]
    cases hp : p x with
    | false =>
      rw [if_neg Bool.false_ne_true, List.filter_cons, if_neg (by rw [hp]; exact Bool.false_ne_true), List.append_assoc, List.cons_append]
      exact lcL_grow hc (by omega) fun y hy => hb y (List.mem_cons_of_mem _ hy)
    | true =>
      obtain ⟨j2, h4⟩ := h3 hp
      rw [if_pos rfl, h4, R.noex_ok, R.bind_ok, List.filter_cons, if_pos hp, List.map_cons]
      have g : (s ++ O.lst acc :: j ++ j1 ++ j2)[s.length]? = some (.lst acc) := by
        rw [List.append_assoc, List.append_assoc, List.getElem?_append_right (Nat.le_refl _), Nat.sub_self]; rfl
      have st : (s ++ O.lst acc :: j ++ j1 ++ j2).set s.length (.lst (acc ++ [h x])) = s ++ O.lst (acc ++ [h x]) :: (j ++ j1 ++ j2) := by
        rw [List.append_assoc, List.append_assoc, List.set_append_right _ _ (Nat.le_refl _), Nat.sub_self]; simp
      rw [g]
      simp only
      rw [if_pos (by omega), st]
      obtain ⟨j', h5⟩ := lcL_grow (acc := acc ++ [h x]) (j := j ++ j1 ++ j2) hc (by rw [List.length_append, List.length_singleton]; omega) fun y hy => hb y (List.mem_cons_of_mem _ hy)
      exact ⟨j', by rw [h5]; simp⟩
theorem lcF_grow {it : ItF} {vs : List Nat} {gf : GF} {tt : TF} {te : EF} {env : EnvD} {st s : Sto} {ds : List D} {c : Chk} (h : D → D) (p : D → Bool) (hit : it env st = .ok (ds, c) s) (hc : ∀ S, Le s S → ChkOk c S) (hl : ds.length ≤ sizeLine)
    (hb : ∀ x ∈ ds, ∀ S, Le s S → ∃ e j1, gf x (wipeE env vs) S = .ok e S ∧ tt e S = .ok (p x) (S ++ j1) ∧ (p x = true → ∃ j2, te e (S ++ j1) = .ok (h x) (S ++ j1 ++ j2))) :
    ∃ j, lcF it vs gf tt te env st = .ok (.ref s.length) (s ++ .lst ((ds.filter p).map h) :: j) := by
  obtain ⟨j, e⟩ := lcL_grow (acc := []) (j := []) hc (by simpa using hl) hb
  exact ⟨j, by unfold lcF; rw [hit, R.bind_ok, e, R.bind_ok, List.nil_append]⟩
/-- .. without a test -/
theorem lcF_all {it : ItF} {vs : List Nat} {gf : GF} {te : EF} {env : EnvD} {st s : Sto} {ds : List D} {c : Chk} (h : D → D) (hit : it env st = .ok (ds, c) s) (hc : ∀ S, Le s S → ChkOk c S) (hl : ds.length ≤ sizeLine)
    (hb : ∀ x ∈ ds, ∀ S, Le s S → ∃ e j, gf x (wipeE env vs) S = .ok e S ∧ te e S = .ok (h x) (S ++ j)) :
    ∃ j, lcF it vs gf yesT te env st = .ok (.ref s.length) (s ++ .lst (ds.map h) :: j) := by
  obtain ⟨j, e⟩ := lcF_grow (tt := yesT) (te := te) (gf := gf) (vs := vs) h (fun _ => true) hit hc hl fun x hx S hS => by
    obtain ⟨e, j, h1, h2⟩ := hb x hx S hS
    exact ⟨e, [], h1, by rw [List.append_nil]; rfl, fun _ => ⟨j, by rw [List.append_nil]; exact h2⟩⟩
  exact ⟨j, by rw [e, List.filter_eq_self.mpr fun _ _ => rfl]⟩
theorem chk_nil {s : Sto} : ∀ S, Le s S → ChkOk [] S := fun _ _ => ChkOk.nil
theorem ChkOk.app {c d : Chk} {S : Sto} (h : ChkOk c S) (k : ChkOk d S) : ChkOk (c ++ d) S := fun p hp => (List.mem_append.mp hp).elim (h p) (k p)
theorem get_at {s j : Sto} {o : O} : (s ++ o :: j)[s.length]? = some o := by rw [List.getElem?_append_right (Nat.le_refl _), Nat.sub_self]; rfl
theorem listAt_at {s j : Sto} {xs : List D} : listAt (s ++ .lst xs :: j) s.length = some xs := listAt_lst get_at
theorem eqF_str {a b : Str} : eqF (.str a) (.str b) = decide (a = b) := by
  show (a == b) = _
  rfl
theorem inL_ok {neg : Bool} {x : D} {ds : List D} {st : Sto} (h : flatD x = true) (h2 : ds.all flatD = true) : inL neg x ds st = .ok (.bl (if neg then !(ds.any fun y => eqF y x) else ds.any fun y => eqF y x)) st := by unfold inL; rw [if_pos ⟨h, h2⟩]
theorem lcF_any {it : ItF} {vs : List Nat} {gf : GF} {te : EF} {env : EnvD} {st s : Sto} {ds : List D} {c : Chk} {A : Type} (f : A → D) (T : D → A → Prop) (hit : it env st = .ok (ds, c) s) (hc : ∀ S, Le s S → ChkOk c S) (hl : ds.length ≤ sizeLine)
    (hb : ∀ x ∈ ds, ∃ a, T x a ∧ ∀ S, Le s S → ∃ e j, gf x (wipeE env vs) S = .ok e S ∧ te e S = .ok (f a) (S ++ j)) :
    ∃ l : List A, l.length = ds.length ∧ (∃ j, lcF it vs gf yesT te env st = .ok (.ref s.length) (s ++ .lst (l.map f) :: j)) ∧ ∀ a ∈ l, ∃ x ∈ ds, T x a := by
  classical
  by_cases ha : Nonempty A
  · obtain ⟨a0⟩ := ha
    let g : D → A := fun x => if h : ∃ a, T x a ∧ ∀ S, Le s S → ∃ e j, gf x (wipeE env vs) S = .ok e S ∧ te e S = .ok (f a) (S ++ j) then h.choose else a0
    have hg : ∀ x ∈ ds, T x (g x) ∧ ∀ S, Le s S → ∃ e j, gf x (wipeE env vs) S = .ok e S ∧ te e S = .ok (f (g x)) (S ++ j) := by
      intro x hx
      show T x (dite _ _ _) ∧ ∀ S, Le s S → ∃ e j, _ ∧ te e S = .ok (f (dite _ _ _)) (S ++ j)
      rw [dif_pos (hb x hx)]
      exact (hb x hx).choose_spec
    refine ⟨ds.map g, List.length_map _, ?_, fun a ha => ?_⟩
    · obtain ⟨j, e⟩ := lcF_all (fun x => f (g x)) hit hc hl fun x hx => (hg x hx).2
      exact ⟨j, by rw [e, List.map_map]; rfl⟩
    · obtain ⟨x, hx, rfl⟩ := List.mem_map.mp ha
      exact ⟨x, hx, (hg x hx).1⟩
  · have : ds = [] := by
      cases ds with
      | nil => rfl
      | cons x r => obtain ⟨a, _⟩ := hb x List.mem_cons_self; exact absurd ⟨a⟩ ha
    subst this
    obtain ⟨j, e⟩ := lcF_all (vs := vs) (gf := gf) (te := te) (fun x => x) hit hc hl fun x hx => nomatch hx
    exact ⟨[], rfl, ⟨j, e⟩, fun a ha => nomatch ha⟩
def varK (st : Sto) (o : Option (Option D)) : R D := match o with
  | some (some d) => .ok d st
  | _ => .bad
theorem varK_ap {st : Sto} {d : D} : varK st (some (some d)) = .ok d st := rfl
def eqK (o : Option Bool) (st : Sto) : R D := match o with
  | some c => .ok (.bl c) st
  | none => .bad
def neK (o : Option Bool) (st : Sto) : R D := match o with
  | some c => .ok (.bl (!c)) st
  | none => .bad
section
variable {f fa fb fo : EF} {fr : AF} {t u : TF} {a b : SF} {i n : Nat} {d e : D} {env env' : EnvD} {st s : Sto}
theorem varF_ap : varF i env st = varK st env[i]? := rfl
theorem cF_ap : cF d env st = .ok d st := rfl
def opK (g : D → D → Sto → R D) (fb : EF) (env : EnvD) (x : D) (s : Sto) : R D := (fb env s).bind (g x)
theorem opF_ap {g : D → D → Sto → R D} : opF g fa fb env st = (fa env st).bind (opK g fb env) := rfl
theorem opK_ap {g : D → D → Sto → R D} : opK g fb env d s = (fb env s).bind (g d) := rfl
def boolK (d : D) (s : Sto) : R Bool := match d with
  | .bl b => .ok b s
  | _ => .bad
theorem bF_ap : bF f env st = (f env st).bind boolK := rfl
theorem boolK_ap {c : Bool} : boolK (.bl c) s = .ok c s := rfl
def andK (u : TF) (env : EnvD) (c : Bool) (s : Sto) : R Bool := if c = true then u env s else .ok false s
def orK (u : TF) (env : EnvD) (c : Bool) (s : Sto) : R Bool := if c = true then .ok true s else u env s
def notK (c : Bool) (s : Sto) : R Bool := .ok (!c) s
theorem andT_ap : andT t u env st = (t env st).bind (andK u env) := rfl
theorem andK_ap {c : Bool} : andK u env c s = if c = true then u env s else .ok false s := rfl
theorem orT_ap : orT t u env st = (t env st).bind (orK u env) := rfl
theorem orK_ap {c : Bool} : orK u env c s = if c = true then .ok true s else u env s := rfl
theorem notT_ap : notT t env st = (t env st).bind notK := rfl
theorem notK_ap {c : Bool} : notK c s = .ok (!c) s := rfl
theorem yesT_ap : yesT env st = .ok true st := rfl
def andVK (f : EF) (env : EnvD) (c : Bool) (s : Sto) : R D := if c = true then f env s else .ok (.bl false) s
def orVK (f : EF) (env : EnvD) (c : Bool) (s : Sto) : R D := if c = true then .ok (.bl true) s else f env s
def notVK (c : Bool) (s : Sto) : R D := .ok (.bl (!c)) s
theorem andV_ap : andV fa fb env st = (bF fa env st).bind (andVK fb env) := rfl
theorem andVK_ap {c : Bool} : andVK f env c s = if c = true then f env s else .ok (.bl false) s := rfl
theorem orV_ap : orV fa fb env st = (bF fa env st).bind (orVK fb env) := rfl
theorem orVK_ap {c : Bool} : orVK f env c s = if c = true then .ok (.bl true) s else f env s := rfl
theorem notV_ap : notV fa env st = (bF fa env st).bind notVK := rfl
theorem notVK_ap {c : Bool} : notVK c s = .ok (.bl (!c)) s := rfl
def ifFK (fa fb : EF) (env : EnvD) (c : Bool) (s : Sto) : R D := if c = true then fa env s else fb env s
theorem ifF_ap : ifF t fa fb env st = (t env st).bind (ifFK fa fb env) := rfl
theorem ifFK_ap {c : Bool} : ifFK fa fb env c s = if c = true then fa env s else fb env s := rfl
theorem nilA_ap : nilA env st = .ok [] st := rfl
def consK (fr : AF) (env : EnvD) (x : D) (s : Sto) : R (List D) := (fr env s).bind fun xs s' => .ok (x :: xs) s'
def consJ (x : D) (xs : List D) (s : Sto) : R (List D) := .ok (x :: xs) s
theorem consA_ap : consA f fr env st = (f env st).bind (consK fr env) := rfl
theorem consK_ap : consK fr env d s = (fr env s).bind (consJ d) := rfl
theorem consJ_ap {ds : List D} : consJ d ds s = .ok (d :: ds) s := rfl
def tupK (xs : List D) (s : Sto) : R D := if xs.length ≤ sizeLine then .ok (.tup xs) s else .bad
def lstK (xs : List D) (s : Sto) : R D := if xs.length ≤ sizeLine then newO (.lst xs) s else .bad
theorem tupA_ap : tupA fr env st = (fr env st).bind tupK := rfl
theorem tupK_ap {xs : List D} : tupK xs s = if xs.length ≤ sizeLine then .ok (.tup xs) s else .bad := rfl
theorem lstA_ap : lstA fr env st = (fr env st).bind lstK := rfl
theorem lstK_ap {xs : List D} : lstK xs s = if xs.length ≤ sizeLine then newO (.lst xs) s else .bad := rfl
theorem newO_ap {o : O} : newO o st = .ok (.ref st.length) (st ++ [o]) := rfl
theorem dicF_ap : dicF env st = .ok (.ref st.length) (st ++ [.dic []]) := rfl
theorem callF_ap {g : List D → Sto → R D} : callF g fr env st = (fr env st).bind g := rfl
theorem un1_ap {g : D → Sto → R D} : un1 g f env st = (f env st).bind g := rfl
open Classical in
noncomputable def methK (T : String) (g : D → List D → Sto → R D) (fr : AF) (env : EnvD) (d : D) (s : Sto) : R D := if tyD T d s then (fr env s).bind (g d) else .bad
open Classical in
theorem methF_ap {T : String} {g : D → List D → Sto → R D} : methF T g fo fr env st = (fo env st).bind (methK T g fr env) := rfl
open Classical in
theorem methK_ap {T : String} {g : D → List D → Sto → R D} : methK T g fr env d s = if tyD T d s then (fr env s).bind (g d) else .bad := rfl
theorem nonO_ap : nonO env st = .ok none st := rfl
def someK (d : D) (s : Sto) : R (Option Int) := match d with
  | .int i => .ok (some i) s
  | _ => .bad
theorem someO_ap : someO f env st = (f env st).bind someK := rfl
theorem someK_ap {k : Int} : someK (.int k) s = .ok (some k) s := rfl
def slK (fl fh : OF) (env : EnvD) (d : D) (s : Sto) : R D := (fl env s).bind fun lo s1 => (fh env s1).bind fun hi s2 => slD d lo hi s2
def slJ (fh : OF) (env : EnvD) (d : D) (lo : Option Int) (s : Sto) : R D := (fh env s).bind fun hi s2 => slD d lo hi s2
theorem slF_ap {fl fh : OF} : slF f fl fh env st = (f env st).bind (slK fl fh env) := rfl
theorem slK_ap {fl fh : OF} : slK fl fh env d s = (fl env s).bind (slJ fh env d) := rfl
theorem slJ_ap {fh : OF} {lo : Option Int} : slJ fh env d lo s = (fh env s).bind (slD d lo) := rfl
theorem itF_ap : itF f env st = (f env st).bind itD := rfl
theorem itA_ap {g : List D → Sto → R (List D × Chk)} : itA g fr env st = (fr env st).bind g := rfl
theorem nilS_ap : nilS env st = .ok (.nx env) st := rfl
theorem bkS_ap : bkS env st = .ok (.bk env) st := rfl
theorem ctS_ap : ctS env st = .ok (.ct env) st := rfl
def seqK (b : SF) (fl : Fl) (s : Sto) : R Fl := match fl with
  | .nx e => b e s
  | fl => .ok fl s
theorem seqS_ap : seqS a b env st = (a env st).bind (seqK b) := rfl
theorem seqK_nx : seqK b (.nx env) s = b env s := rfl
theorem seqK_rt : seqK b (.rt d) s = .ok (.rt d) s := rfl
theorem seqK_bk : seqK b (.bk env) s = .ok (.bk env) s := rfl
theorem seqK_ct : seqK b (.ct env) s = .ok (.ct env) s := rfl
def dropK (env : EnvD) (_ : D) (s : Sto) : R Fl := .ok (.nx env) s
theorem dropS_ap : dropS f env st = (f env st).bind (dropK env) := rfl
theorem dropK_ap : dropK env d s = .ok (.nx env) s := rfl
def retK (d : D) (s : Sto) : R Fl := .ok (.rt d) s
theorem retS_ap : retS f env st = (f env st).bind retK := rfl
theorem retK_ap : retK d s = .ok (.rt d) s := rfl
theorem retN_ap : retN env st = .ok (.rt .non) st := rfl
def ifK (a b : SF) (env : EnvD) (c : Bool) (s : Sto) : R Fl := if c = true then a env s else b env s
theorem ifS_ap : ifS t a b env st = (t env st).bind (ifK a b env) := rfl
theorem ifK_ap {c : Bool} : ifK a b env c s = if c = true then a env s else b env s := rfl
def setK (i : Nat) (env : EnvD) (d : D) (s : Sto) : R Fl := .ok (.nx (env.set i (some d))) s
theorem setS_ap : setS i f env st = (f env st).bind (setK i env) := rfl
theorem setK_ap : setK i env d s = .ok (.nx (env.set i (some d))) s := rfl
def asgK (gf : GF) (env : EnvD) (d : D) (s : Sto) : R Fl := (gf d env s).bind fun e s' => .ok (.nx e) s'
def asgJ (e : EnvD) (s : Sto) : R Fl := .ok (.nx e) s
theorem asgS_ap {gf : GF} : asgS f gf env st = (f env st).bind (asgK gf env) := rfl
theorem asgK_ap {gf : GF} : asgK gf env d s = (gf d env s).bind asgJ := rfl
theorem asgJ_ap : asgJ env s = .ok (.nx env) s := rfl
theorem nameG_ap : nameG i d env st = .ok (env.set i (some d)) st := rfl
theorem nilG_ap : nilG [] env st = .ok env st := rfl
def consGK (r : List D → EnvD → Sto → R EnvD) (ds : List D) (e : EnvD) (s : Sto) : R EnvD := r ds e s
theorem consG_ap {g : GF} {r : List D → EnvD → Sto → R EnvD} {ds : List D} : consG g r (d :: ds) env st = (g d env st).bind (consGK r ds) := rfl
theorem consGK_ap {r : List D → EnvD → Sto → R EnvD} {ds : List D} : consGK r ds env s = r ds env s := rfl
theorem tupG_ap {g : List D → EnvD → Sto → R EnvD} {ds : List D} : tupG n g (.tup ds) env st = if ds.length = n then g ds env st else .bad := rfl
def fnK (fl : Fl) (s : Sto) : R D := match fl with
  | .nx _ => .ok .non s
  | .rt d => .ok d s
  | _ => .bad
theorem fnF_ap {ds : List D} : fnF n a ds st = (a (startE n ds) st).bind fnK := rfl
theorem fnK_nx : fnK (.nx env) s = .ok .non s := rfl
theorem fnK_rt : fnK (.rt d) s = .ok d s := rfl
noncomputable def forK (gf : GF) (b : SF) (env : EnvD) (p : List D × Chk) (s : Sto) : R Fl := forL p.2 gf b p.1 env s
theorem forS_ap {it : ItF} {gf : GF} : forS it gf b env st = (it env st).bind (forK gf b env) := rfl
theorem forK_ap {gf : GF} {ds : List D} {c : Chk} : forK gf b env (ds, c) s = forL c gf b ds env s := rfl
theorem intD_ap {c : Int → Int → Bool} {g : Int → Int → D} {j k : Int} : intD c g (.int j) (.int k) st = if c j k = true then .ok (g j k) st else .bad := rfl
theorem negD_ap {k : Int} : negD (.int k) st = .ok (.int (-k)) st := rfl
theorem addI_ap {j k : Int} : addD (.int j) (.int k) st = .ok (.int (j + k)) st := rfl
theorem eqD_ap : eqD d e st = eqK (eqP d e) st := by unfold eqD eqK; rfl
theorem neD_ap : neD d e st = neK (eqP d e) st := by unfold neD neK; rfl
theorem eqP_str {x y : Str} : eqP (.str x) (.str y) = some (decide (x = y)) := rfl
end
theorem subD_ap {a b : Int} {st : Sto} : subD (.int a) (.int b) st = .ok (.int (a - b)) st := rfl
theorem ltD_ap {a b : Int} {st : Sto} : ltD (.int a) (.int b) st = .ok (.bl (decide (a < b))) st := rfl
theorem leD_ap {a b : Int} {st : Sto} : leD (.int a) (.int b) st = .ok (.bl (decide (a ≤ b))) st := rfl
theorem gtD_ap {a b : Int} {st : Sto} : gtD (.int a) (.int b) st = .ok (.bl (decide (a > b))) st := rfl
theorem geD_ap {a b : Int} {st : Sto} : geD (.int a) (.int b) st = .ok (.bl (decide (a ≥ b))) st := rfl
theorem mulD_ap {a b : Int} {st : Sto} (h : MulOk a b) : mulD (.int a) (.int b) st = .ok (.int (a * b)) st := by
  show (if decide (MulOk a b) = true then _ else _) = _
  rw [if_pos (decide_eq_true h)]
theorem modD_ap {a b : Int} {st : Sto} (h : 0 < b) : modD (.int a) (.int b) st = .ok (.int (a % b)) st := by
  show (if decide (0 < b) = true then _ else _) = _
  rw [if_pos (decide_eq_true h)]
theorem divD_ap {a b : Int} {st : Sto} (h : 0 < b) (h2 : b.natAbs.log2 < 9000) : divD (.int a) (.int b) st = .ok (.int (a / b)) st := by
  show (if decide (0 < b ∧ b.natAbs.log2 < 9000) = true then _ else _) = _
  rw [if_pos (decide_eq_true ⟨h, h2⟩)]
theorem powD_ap {a b : Int} {st : Sto} (h : 0 ≤ b ∧ b ≤ 1000000 ∧ a.natAbs < 2 ^ 64) : powD (.int a) (.int b) st = .ok (.int (a ^ b.toNat)) st := by
  show (if decide (0 ≤ b ∧ b ≤ 1000000 ∧ a.natAbs < 2 ^ 64) = true then _ else _) = _
  rw [if_pos (decide_eq_true h)]
theorem tupK_ok {xs : List D} {st : Sto} (h : xs.length ≤ sizeLine) : tupK xs st = .ok (.tup xs) st := by rw [tupK_ap, if_pos h]
theorem lstK_ok {xs : List D} {st : Sto} (h : xs.length ≤ sizeLine) : lstK xs st = .ok (.ref st.length) (st ++ [.lst xs]) := by rw [lstK_ap, if_pos h]; rfl
theorem methK_ok {T : String} {g : D → List D → Sto → R D} {fr : AF} {env : EnvD} {d : D} {s : Sto} (h : tyD T d s) : methK T g fr env d s = (fr env s).bind (g d) := by rw [methK_ap, if_pos h]
theorem tupG_ok {n : Nat} {g : List D → EnvD → Sto → R EnvD} {ds : List D} {env : EnvD} {st : Sto} (h : ds.length = n) : tupG n g (.tup ds) env st = g ds env st := by rw [tupG_ap, if_pos h]
theorem eqS_t {x : Str} {st : Sto} : eqD (.str x) (.str x) st = .ok (.bl true) st := by rw [eqD_ap, eqP_str, decide_eq_true rfl]; rfl
theorem eqS_f {x y : Str} {st : Sto} (h : x ≠ y) : eqD (.str x) (.str y) st = .ok (.bl false) st := by rw [eqD_ap, eqP_str, decide_eq_false h]; rfl
theorem neS_t {x : Str} {st : Sto} : neD (.str x) (.str x) st = .ok (.bl false) st := by rw [neD_ap, eqP_str, decide_eq_true rfl]; rfl
theorem neS_f {x y : Str} {st : Sto} (h : x ≠ y) : neD (.str x) (.str y) st = .ok (.bl true) st := by rw [neD_ap, eqP_str, decide_eq_false h]; rfl
theorem eqI_ap {x y : Int} {st : Sto} : eqD (.int x) (.int y) st = .ok (.bl (decide (x = y))) st := rfl
theorem neI_ap {x y : Int} {st : Sto} : neD (.int x) (.int y) st = .ok (.bl (!decide (x = y))) st := rfl
/-- x among texts -/
def isTx : List D → Bool
  | [] => true
  | .str _ :: r => isTx r
  | _ => false
theorem isTx_flat : ∀ {ds : List D}, isTx ds = true → ds.all flatD = true
  | [], _ => rfl
  | .str x :: r, h => by rw [List.all_cons, isTx_flat (ds := r) h]; rfl
  | .non :: r, h => by cases h
  | .bl _ :: r, h => by cases h
  | .int _ :: r, h => by cases h
  | .tup _ :: r, h => by cases h
  | .ref _ :: r, h => by cases h
  | .glb _ :: r, h => by cases h
  | .ty _ :: r, h => by cases h
  | .clo _ _ :: r, h => by cases h
  | .exc _ :: r, h => by cases h
theorem inT_nil {neg : Bool} {x : Str} {st : Sto} : inSq neg (.str x) (.tup []) st = .ok (.bl neg) st := by
  show inL neg (.str x) [] st = _
  rw [inL_ok rfl rfl]; cases neg <;> rfl
theorem inT_hit {neg : Bool} {x : Str} {ds : List D} {st : Sto} (h : isTx ds = true) : inSq neg (.str x) (.tup (.str x :: ds)) st = .ok (.bl (!neg)) st := by
  show inL neg (.str x) (.str x :: ds) st = _
  rw [inL_ok rfl (by rw [List.all_cons, isTx_flat h]; rfl), List.any_cons, eqF_str, decide_eq_true rfl, Bool.true_or]
  cases neg <;> rfl
theorem inT_miss {neg : Bool} {x y : Str} {ds : List D} {st : Sto} (h : x ≠ y) : inSq neg (.str x) (.tup (.str y :: ds)) st = inSq neg (.str x) (.tup ds) st := by
  show inL neg (.str x) (.str y :: ds) st = inL neg (.str x) ds st
  unfold inL
  rw [List.all_cons, List.any_cons, eqF_str, decide_eq_false (fun e => h e.symm), Bool.false_or]
  rfl
end VL
namespace Law
open PySem PySem.Spec PyProof.Rows L2 VL RZ RT
def xrows : List (Str × Str × Bool) := [(("NoName" : Str), ("NoName" : Str), true), (("NoName" : Str), ("Twice" : Str), false), (("NoName" : Str), ("NoWidth" : Str), false), (("NoName" : Str), ("NoText" : Str), false), (("NoName" : Str), ("NoPlace" : Str), false), (("NoName" : Str), ("Unlike" : Str), false), (("NoName" : Str), ("Wide" : Str), false), (("NoName" : Str), ("TooLarge" : Str), false), (("NoName" : Str), ("NoRow" : Str), false), (("NoName" : Str), ("NoCount" : Str), false), (("NoName" : Str), ("Short" : Str), false), (("NoName" : Str), ("NoChange" : Str), false), (("Twice" : Str), ("NoName" : Str), false), (("Twice" : Str), ("Twice" : Str), true), (("Twice" : Str), ("NoWidth" : Str), false), (("Twice" : Str), ("NoText" : Str), false), (("Twice" : Str), ("NoPlace" : Str), false), (("Twice" : Str), ("Unlike" : Str), false), (("Twice" : Str), ("Wide" : Str), false), (("Twice" : Str), ("TooLarge" : Str), false), (("Twice" : Str), ("NoRow" : Str), false), (("Twice" : Str), ("NoCount" : Str), false), (("Twice" : Str), ("Short" : Str), false), (("Twice" : Str), ("NoChange" : Str), false), (("NoWidth" : Str), ("NoName" : Str), false), (("NoWidth" : Str), ("Twice" : Str), false), (("NoWidth" : Str), ("NoWidth" : Str), true), (("NoWidth" : Str), ("NoText" : Str), false), (("NoWidth" : Str), ("NoPlace" : Str), false), (("NoWidth" : Str), ("Unlike" : Str), false), (("NoWidth" : Str), ("Wide" : Str), false), (("NoWidth" : Str), ("TooLarge" : Str), false), (("NoWidth" : Str), ("NoRow" : Str), false), (("NoWidth" : Str), ("NoCount" : Str), false), (("NoWidth" : Str), ("Short" : Str), false), (("NoWidth" : Str), ("NoChange" : Str), false)]
def xrowsT : List (Str × String × Bool) := [(("NoName" : Str), "ValueError", true), (("Twice" : Str), "ValueError", true), (("NoWidth" : Str), "ValueError", true)]
def okrows : List Str := ["NoName", "Twice", "NoWidth"]
def xtab : Str → Str → Option Bool := xfind xrows
def xtabT : Str → String → Option Bool := xfindT xrowsT
def okcX : Str → Bool := okOf okrows
noncomputable def b_is_whole : SF :=
    (retS (andV (callF isiD (consA (varF 0) (consA (cF (.ty "int")) nilA))) (notV (callF isiD (consA (varF 0) (consA (cF (.ty "bool")) nilA))))))
noncomputable def f_is_whole : Fn := fnF 1 b_is_whole
noncomputable def q0_told : EF :=
    (lcF (itmF (varF 0)) [1, 2] (tupG 2 (consG (nameG 1) (consG (nameG 2) nilG))) yesT (tupA (consA (varF 1) (consA (varF 2) nilA))))
noncomputable def b_told : SF :=
    (retS (opF sort0 (lockE (varF 0) (q0_told)) (cF (.glb "rank"))))
noncomputable def f_told : Fn := fnF 3 b_told
noncomputable def b_Net___init__ : SF :=
    (seqS (fsetS "Net" "laid" (varF 0) (lstA nilA))
    (seqS (fsetS "Net" "wide" (varF 0) (lstA nilA))
    (fsetS "Net" "numbers" (varF 0) dicF)))
noncomputable def f_Net___init__ : Fn := fnF 1 b_Net___init__
noncomputable def b_Net_put : SF :=
    (seqS (ifS (bF (opF (kinD true) (varF 1) (un1 (fldK "Net" "numbers") (varF 0)))) (seqS (kputS (callF lenD (consA (un1 (fldK "Net" "laid") (varF 0)) nilA)) (un1 (fldK "Net" "numbers") (varF 0)) (varF 1))
    (seqS (dropS (methF "list" appD (un1 (fldK "Net" "laid") (varF 0)) (consA (varF 1) nilA)))
    (dropS (methF "list" appD (un1 (fldK "Net" "wide") (varF 0)) (consA (varF 2) nilA))))) nilS)
    (retS (opF kixD (un1 (fldK "Net" "numbers") (varF 0)) (varF 1))))
noncomputable def f_Net_put : Fn := fnF 3 b_Net_put
noncomputable def b_Net_nodes : SF :=
    (retS (callF listD (consA (un1 (fldK "Net" "laid") (varF 0)) nilA)))
noncomputable def f_Net_nodes : Fn := fnF 1 b_Net_nodes
noncomputable def b_Machine_rows_of : SF :=
    (retS (callF dictD (consA (opF ixD (un1 (fldK "Machine" "bags") (varF 0)) (varF 1)) nilA)))
noncomputable def f_Machine_rows_of : Fn := fnF 2 b_Machine_rows_of
noncomputable def b_Machine_memory : SF :=
    (seqS (ifS (bF (opF (isN false) (opF ixD (un1 (fldK "Machine" "parts") (varF 0)) (varF 1)) (cF .non))) (retS (lstA nilA)) nilS)
    badS)
noncomputable def f_Machine_memory : Fn := fnF 2 b_Machine_memory
noncomputable def q0_is_name : EF :=
    (lcF (itF (varF 0)) [1] (nameG 1) yesT (opF (inTx false) (varF 1) (cF (.str "abcdefghijklmnopqrstuvwxyz"))))
noncomputable def b_is_name : SF :=
    (seqS (ifS (orT (notT (bF (callF isiD (consA (varF 0) (consA (cF (.ty "str")) nilA))))) (orT (bF (opF ltD (callF lenD (consA (varF 0) nilA)) (cF (.int 1)))) (bF (opF gtD (callF lenD (consA (varF 0) nilA)) (cF (.int 8)))))) (retS (cF (.bl false))) nilS)
    (retS (callF allD (consA (q0_is_name) nilA))))
noncomputable def f_is_name : Fn := fnF 2 b_is_name
noncomputable def b_Keeper_put_down : SF :=
    (seqS (dputS (varF 2) (un1 (fldK "Keeper" "spots") (varF 0)) (varF 1))
    (seqS (dputS (varF 3) (un1 (fldK "Keeper" "wides") (varF 0)) (varF 1))
    (seqS (dputS (varF 4) (un1 (fldK "Keeper" "sizes") (varF 0)) (varF 1))
    (dputS dicF (un1 (fldK "Keeper" "news") (varF 0)) (varF 1)))))
noncomputable def f_Keeper_put_down : Fn := fnF 5 b_Keeper_put_down
noncomputable def b_Keeper_depth : SF :=
    (retS (callF lenD (consA (un1 (fldK "Keeper" "pours") (varF 0)) nilA)))
noncomputable def f_Keeper_depth : Fn := fnF 1 b_Keeper_depth
noncomputable def b__law_cell_at : SF :=
    (seqS (ifS (bF (opF ltD (varF 1) (callF lenD (consA (varF 0) nilA)))) (retS (opF ixD (varF 0) (varF 1))) nilS)
    (retS (cF (.int 0))))
noncomputable def f__law_cell_at : Fn := fnF 2 b__law_cell_at
noncomputable def b__law_mixed : SF :=
    (seqS (setS 2 (opF modD (opF mulD (opF addD (opF addD (opF modD (varF 0) (cF (.int 1000000007))) (opF mulD (opF mulD (cF (.int 101)) (varF 1)) (varF 1))) (varF 1)) (cF (.int 48271))) (cF (.int 2147483647))))
    (retS (opF modD (opF mulD (varF 2) (varF 2)) (cF (.int 2147483629)))))
noncomputable def f__law_mixed : Fn := fnF 3 b__law_mixed
noncomputable def b__law_which : SF :=
    (seqS (setS 1 (lstA (consA (callF (isxD xtab xtabT) (consA (varF 0) (consA (cF (.glb "NoName")) nilA))) (consA (callF (isxD xtab xtabT) (consA (varF 0) (consA (cF (.glb "Twice")) nilA))) (consA (callF (isxD xtab xtabT) (consA (varF 0) (consA (cF (.glb "NoWidth")) nilA))) (consA (callF (isxD xtab xtabT) (consA (varF 0) (consA (cF (.glb "NoText")) nilA))) nilA))))))
    (seqS (setS 1 (opF addD (varF 1) (lstA (consA (callF (isxD xtab xtabT) (consA (varF 0) (consA (cF (.glb "NoPlace")) nilA))) (consA (callF (isxD xtab xtabT) (consA (varF 0) (consA (cF (.glb "Unlike")) nilA))) (consA (callF (isxD xtab xtabT) (consA (varF 0) (consA (cF (.glb "Wide")) nilA))) (consA (callF (isxD xtab xtabT) (consA (varF 0) (consA (cF (.glb "TooLarge")) nilA))) nilA)))))))
    (seqS (setS 1 (opF addD (varF 1) (lstA (consA (callF (isxD xtab xtabT) (consA (varF 0) (consA (cF (.glb "NoRow")) nilA))) (consA (callF (isxD xtab xtabT) (consA (varF 0) (consA (cF (.glb "NoCount")) nilA))) (consA (callF (isxD xtab xtabT) (consA (varF 0) (consA (cF (.glb "Short")) nilA))) (consA (callF (isxD xtab xtabT) (consA (varF 0) (consA (cF (.glb "NoChange")) nilA))) nilA)))))))
    (seqS (ifS (orT (notT (bF (callF (isxD xtab xtabT) (consA (varF 0) (consA (cF (.ty "ValueError")) nilA))))) (bF (opF neD (methF "list" cntD (varF 1) (consA (cF (.bl true)) nilA)) (cF (.int 1))))) (retS (un1 negD (cF (.int 2)))) nilS)
    (retS (methF "list" idxD (varF 1) (consA (cF (.bl true)) nilA)))))))
noncomputable def f__law_which : Fn := fnF 2 b__law_which
noncomputable def b__law_no_name : SF :=
    (seqS (setS 2 (lstA (consA (cF .non) (consA (cF (.int 7)) (consA (cF (.bl true)) (consA (cF (.str "")) (consA (cF (.str "A")) (consA (cF (.str "abcdefghi")) (consA (cF (.str "a1")) (consA (cF (.str "a b")) (consA (lstA (consA (varF 1) nilA)) (consA (tupA (consA (varF 1) nilA)) (consA dicF (consA (opF addD (varF 1) (cF (.str " "))) (consA (opF addD (varF 1) (cF (.str "A"))) (consA (cF (.str "#0")) nilA))))))))))))))))
    (retS (opF ixD (varF 2) (opF modD (varF 0) (cF (.int 14))))))
noncomputable def f__law_no_name : Fn := fnF 3 b__law_no_name
noncomputable def b__law_no_width : SF :=
    (seqS (setS 1 (opF modD (opF divD (varF 0) (cF (.int 11))) (opF powD (cF (.int 10)) (cF (.int 30)))))
    (seqS (setS 2 (lstA (consA (cF (.int 0)) (consA (cF (.int 13)) (consA (opF subD (un1 negD (cF (.int 1))) (varF 1)) (consA (opF addD (cF (.int 14)) (varF 1)) (consA (cF (.bl true)) (consA (cF (.bl false)) (consA (cF .non) (consA (cF (.str "3")) (consA (tupA (consA (cF (.int 3)) nilA)) (consA (lstA (consA (cF (.int 3)) nilA)) (consA dicF nilA)))))))))))))
    (retS (opF ixD (varF 2) (opF modD (varF 0) (cF (.int 11)))))))
noncomputable def f__law_no_width : Fn := fnF 3 b__law_no_width
noncomputable def b__law_due : SF :=
    (seqS (ifS (bF (opF ixD (varF 3) (cF (.int 0)))) (retS (cF (.int 0))) nilS)
    (seqS (ifS (bF (opF (dinD false) (varF 0) (varF 2))) (retS (cF (.int 1))) nilS)
    (seqS (ifS (bF (opF ixD (varF 3) (cF (.int 1)))) (retS (cF (.int 2))) nilS)
    (retS (un1 negD (cF (.int 1)))))))
noncomputable def f__law_due : Fn := fnF 4 b__law_due
noncomputable def b_Net_table : SF :=
    (retS (methO "Net" "put" f_Net_put (varF 0) (consA (tupA (consA (cF (.str "table")) (consA (tupA (consA (varF 1) (consA (varF 2) nilA))) (consA (tupA nilA) nilA)))) (consA (varF 2) nilA))))
noncomputable def f_Net_table : Fn := fnF 3 b_Net_table
noncomputable def b_Machine_nodes : SF :=
    (retS (methO "Net" "nodes" f_Net_nodes (un1 (fldK "Machine" "net") (varF 0)) nilA))
noncomputable def f_Machine_nodes : Fn := fnF 1 b_Machine_nodes
noncomputable def b_Keeper_not_taken : SF :=
    (seqS (ifS (notT (bF (callN f_is_name (consA (varF 1) nilA)))) (exS "NoName") nilS)
    (ifS (bF (opF (dinD false) (varF 1) (un1 (fldK "Keeper" "spots") (varF 0)))) (exS "Twice") nilS))
noncomputable def f_Keeper_not_taken : Fn := fnF 2 b_Keeper_not_taken
noncomputable def b_Keeper_node : SF :=
    (seqS (ifS (orT (notT (bF (callN f_is_name (consA (varF 1) nilA)))) (bF (opF (dinD true) (varF 1) (un1 (fldK "Keeper" "spots") (varF 0))))) (exS "NoName") nilS)
    (retS (opF dixD (un1 (fldK "Keeper" "spots") (varF 0)) (varF 1))))
noncomputable def f_Keeper_node : Fn := fnF 2 b_Keeper_node
noncomputable def b_Keeper_memory : SF :=
    (retS (methO "Machine" "memory" f_Machine_memory (un1 (fldK "Keeper" "machine") (varF 0)) (consA (varF 1) nilA)))
noncomputable def f_Keeper_memory : Fn := fnF 2 b_Keeper_memory
noncomputable def l0_Keeper_kept : SF :=
    (ifS (bF (opF (dinD false) (varF 2) (un1 (fldK "Keeper" "texts") (varF 0)))) (dropS (methF "list" appD (varF 1) (consA (tupA (consA (cF (.str "view")) (consA (varF 2) (consA (opF dixD (un1 (fldK "Keeper" "texts") (varF 0)) (varF 2)) nilA)))) nilA))) (dropS (methF "list" appD (varF 1) (consA (tupA (consA (cF (.str "table")) (consA (varF 2) (consA (opF dixD (un1 (fldK "Keeper" "wides") (varF 0)) (varF 2)) (consA (callF f_told (consA (methO "Machine" "rows_of" f_Machine_rows_of (un1 (fldK "Keeper" "machine") (varF 0)) (consA (varF 3) nilA)) nilA)) nilA))))) nilA))))
noncomputable def b_Keeper_kept : SF :=
    (seqS (setS 1 (lstA nilA))
    (seqS (lockS (un1 (fldK "Keeper" "spots") (varF 0)) (forS (itmF (un1 (fldK "Keeper" "spots") (varF 0))) (tupG 2 (consG (nameG 2) (consG (nameG 3) nilG))) (l0_Keeper_kept)))
    (retS (varF 1))))
noncomputable def f_Keeper_kept : Fn := fnF 4 b_Keeper_kept
noncomputable def q0__law_names : EF :=
    (lcF (itA rng1D (consA (opF addD (cF (.int 1)) (opF modD (varF 0) (cF (.int 8)))) nilA)) [4] (nameG 4) yesT (opF modD (callF f__law_mixed (consA (varF 0) (consA (opF addD (cF (.int 10)) (varF 4)) nilA))) (cF (.int 26))))
noncomputable def l1__law_names : SF :=
    (setS 7 (opF addD (varF 7) (opF ixD (varF 2) (opF modD (opF addD (opF ixD (varF 3) (varF 8)) (opF mulD (opF mulD (cF (.int 3)) (varF 4)) (callF int1D (consA (opF eqD (varF 8) (varF 5)) nilA)))) (cF (.int 26))))))
noncomputable def l0__law_names : SF :=
    (seqS (setS 7 (cF (.str "")))
    (seqS (forS (itA rng1D (consA (callF lenD (consA (varF 3) nilA)) nilA)) (nameG 8) (l1__law_names))
    (dropS (methF "list" appD (varF 6) (consA (varF 7) nilA)))))
noncomputable def b__law_names : SF :=
    (seqS (setS 2 (cF (.str "abcdefghijklmnopqrstuvwxyz")))
    (seqS (setS 3 (q0__law_names))
    (seqS (setS 5 (opF modD (callF f__law_mixed (consA (varF 0) (consA (cF (.int 9)) nilA))) (callF lenD (consA (varF 3) nilA))))
    (seqS (setS 6 (lstA nilA))
    (seqS (forS (itA rng1D (consA (varF 1) nilA)) (nameG 4) (l0__law_names))
    (seqS (ifS (andT (bF (opF ltD (callF lenD (consA (varF 3) nilA)) (cF (.int 8)))) (bF (opF eqD (opF modD (opF divD (varF 0) (cF (.int 8))) (cF (.int 3))) (cF (.int 0))))) (asgS (opF addD (opF ixD (varF 6) (cF (.int 0))) (opF ixD (varF 2) (opF ixD (varF 3) (cF (.int 0))))) (subG (varF 6) (opF subD (varF 1) (cF (.int 1))) setIx)) nilS)
    (retS (varF 6))))))))
noncomputable def f__law_names : Fn := fnF 9 b__law_names
noncomputable def b_Machine___init__ : SF :=
    (seqS (fsetS "Machine" "net" (varF 0) (makeF "Net" f_Net___init__ nilA))
    (seqS (fsetS "Machine" "parts" (varF 0) (lstA nilA))
    (fsetS "Machine" "bags" (varF 0) (lstA nilA))))
noncomputable def f_Machine___init__ : Fn := fnF 1 b_Machine___init__
noncomputable def b_Machine_table : SF :=
    (seqS (setS 3 (methO "Net" "table" f_Net_table (un1 (fldK "Machine" "net") (varF 0)) (consA (varF 1) (consA (varF 2) nilA))))
    (seqS (dropS (methF "list" appD (un1 (fldK "Machine" "parts") (varF 0)) (consA (cF .non) nilA)))
    (seqS (dropS (methF "list" appD (un1 (fldK "Machine" "bags") (varF 0)) (consA dicF nilA)))
    (retS (varF 3)))))
noncomputable def f_Machine_table : Fn := fnF 4 b_Machine_table
noncomputable def b_Keeper_ask : SF :=
    (retS (callN f_told (consA (methN "Machine" "rows_of" f_Machine_rows_of (un1 (fldK "Keeper" "machine") (varF 0)) (consA (methO "Keeper" "node" f_Keeper_node (varF 0) (consA (varF 1) nilA)) nilA)) nilA)))
noncomputable def f_Keeper_ask : Fn := fnF 2 b_Keeper_ask
noncomputable def b_Keeper_told : SF :=
    (seqS (dropS (methO "Keeper" "node" f_Keeper_node (varF 0) (consA (varF 1) nilA)))
    (retS (callN f_told (consA (opF dixD (un1 (fldK "Keeper" "news") (varF 0)) (varF 1)) nilA))))
noncomputable def f_Keeper_told : Fn := fnF 2 b_Keeper_told
noncomputable def l0_Keeper_plainly : SF :=
    (seqS (ifS (bF (opF (dinD false) (varF 4) (un1 (fldK "Keeper" "trees") (varF 0)))) badS (dputS (methN "Machine" "rows_of" f_Machine_rows_of (un1 (fldK "Keeper" "machine") (varF 0)) (consA (varF 5) nilA)) (varF 2) (varF 4)))
    (seqS (ifS (bF (opF eqD (varF 4) (varF 1))) (retS (callN f_told (consA (opF dixD (varF 2) (varF 1)) nilA))) nilS)
    (dputS (opF dixD (un1 (fldK "Keeper" "wides") (varF 0)) (varF 4)) (varF 3) (varF 4))))
noncomputable def b_Keeper_plainly : SF :=
    (seqS (dropS (methO "Keeper" "node" f_Keeper_node (varF 0) (consA (varF 1) nilA)))
    (seqS (setS 2 dicF)
    (seqS (setS 3 dicF)
    (seqS (lockS (un1 (fldK "Keeper" "spots") (varF 0)) (forS (itmF (un1 (fldK "Keeper" "spots") (varF 0))) (tupG 2 (consG (nameG 4) (consG (nameG 5) nilG))) (l0_Keeper_plainly)))
    (retS (lstA nilA))))))
noncomputable def f_Keeper_plainly : Fn := fnF 6 b_Keeper_plainly
noncomputable def b_Keeper_width : SF :=
    (seqS (dropS (methO "Keeper" "node" f_Keeper_node (varF 0) (consA (varF 1) nilA)))
    (retS (opF dixD (un1 (fldK "Keeper" "wides") (varF 0)) (varF 1))))
noncomputable def f_Keeper_width : Fn := fnF 2 b_Keeper_width
noncomputable def b_Keeper_size : SF :=
    (seqS (dropS (methO "Keeper" "node" f_Keeper_node (varF 0) (consA (varF 1) nilA)))
    (retS (opF dixD (un1 (fldK "Keeper" "sizes") (varF 0)) (varF 1))))
noncomputable def f_Keeper_size : Fn := fnF 2 b_Keeper_size
noncomputable def b_Keeper_nodes : SF :=
    (retS (methO "Machine" "nodes" f_Machine_nodes (un1 (fldK "Keeper" "machine") (varF 0)) nilA))
noncomputable def f_Keeper_nodes : Fn := fnF 1 b_Keeper_nodes
noncomputable def b_Keeper_table : SF :=
    (seqS (dropS (methO "Keeper" "not_taken" f_Keeper_not_taken (varF 0) (consA (varF 1) nilA)))
    (seqS (ifS (orT (notT (bF (callN f_is_whole (consA (varF 2) nilA)))) (orT (bF (opF ltD (varF 2) (cF (.int 1)))) (bF (opF gtD (varF 2) (cF (.int 12)))))) (exS "NoWidth") nilS)
    (dropS (methN "Keeper" "put_down" f_Keeper_put_down (varF 0) (consA (varF 1) (consA (methN "Machine" "table" f_Machine_table (un1 (fldK "Keeper" "machine") (varF 0)) (consA (varF 1) (consA (varF 2) nilA))) (consA (varF 2) (consA (cF (.int 1)) nilA))))))))
noncomputable def f_Keeper_table : Fn := fnF 3 b_Keeper_table
noncomputable def b__law_asked : SF :=
    (tryX 4 3 okcX (seqS (ifS (bF (opF eqD (varF 2) (cF (.int 0)))) (retS (methO "Keeper" "ask" f_Keeper_ask (varF 0) (consA (varF 1) nilA))) nilS)
    (seqS (ifS (bF (opF eqD (varF 2) (cF (.int 1)))) (retS (methO "Keeper" "told" f_Keeper_told (varF 0) (consA (varF 1) nilA))) nilS)
    (seqS (ifS (bF (opF eqD (varF 2) (cF (.int 2)))) (retS (methO "Keeper" "plainly" f_Keeper_plainly (varF 0) (consA (varF 1) nilA))) nilS)
    (seqS (ifS (bF (opF eqD (varF 2) (cF (.int 3)))) (retS (methO "Keeper" "width" f_Keeper_width (varF 0) (consA (varF 1) nilA))) nilS)
    (seqS (ifS (bF (opF eqD (varF 2) (cF (.int 4)))) (retS (methO "Keeper" "size" f_Keeper_size (varF 0) (consA (varF 1) nilA))) nilS)
    (retS (methO "Keeper" "node" f_Keeper_node (varF 0) (consA (varF 1) nilA)))))))) (retS (tupA (consA (cF (.str "refused")) (consA (callF f__law_which (consA (varF 3) nilA)) nilA)))))
noncomputable def f__law_asked : Fn := fnF 4 b__law_asked
noncomputable def b_Keeper___init__ : SF :=
    (seqS (fsetS "Keeper" "machine" (varF 0) (makeF "Machine" f_Machine___init__ nilA))
    (seqS (fsetS "Keeper" "spots" (varF 0) dicF)
    (seqS (fsetS "Keeper" "wides" (varF 0) dicF)
    (seqS (fsetS "Keeper" "sizes" (varF 0) dicF)
    (seqS (fsetS "Keeper" "texts" (varF 0) dicF)
    (seqS (fsetS "Keeper" "trees" (varF 0) dicF)
    (seqS (fsetS "Keeper" "news" (varF 0) dicF)
    (fsetS "Keeper" "pours" (varF 0) (lstA nilA)))))))))
noncomputable def f_Keeper___init__ : Fn := fnF 1 b_Keeper___init__
noncomputable def b__law_made : SF :=
    (seqS (tryX 5 4 okcX (setS 3 (methO "Keeper" "table" f_Keeper_table (varF 0) (consA (varF 1) (consA (varF 2) nilA)))) (retS (callF f__law_which (consA (varF 4) nilA))))
    (seqS (ifS (bF (opF (isN false) (varF 3) (cF .non))) (retS (un1 negD (cF (.int 1)))) nilS)
    (retS (un1 negD (cF (.int 3))))))
noncomputable def f__law_made : Fn := fnF 5 b__law_made
noncomputable def l0__law_look : SF :=
    (seqS (setS 6 (callF f__law_asked (consA (varF 0) (consA (varF 1) (consA (varF 5) nilA)))))
    (ifS (orT (bF (callF isiD (consA (varF 6) (consA (cF (.ty "bool")) nilA)))) (bF (opF (eqX true) (varF 6) (opF ixD (varF 4) (varF 5))))) (retS (cF (.bl false))) nilS))
noncomputable def b__law_look : SF :=
    (seqS (setS 4 (opF repD (lstA (consA (tupA (consA (cF (.str "refused")) (consA (cF (.int 0)) nilA))) nilA)) (cF (.int 6))))
    (seqS (ifS (bF (varF 3)) (setS 4 (lstA (consA (lstA nilA) (consA (lstA nilA) (consA (lstA nilA) (consA (opF dixD (varF 2) (varF 1)) (consA (cF (.int 1)) (consA (methF "list" idxD (callF listKD (consA (varF 2) nilA)) (consA (varF 1) nilA)) nilA)))))))) nilS)
    (seqS (forS (itA rng1D (consA (cF (.int 6)) nilA)) (nameG 5) (l0__law_look))
    (seqS (ifS (notT (bF (varF 3))) (retS (cF (.bl true))) nilS)
    (seqS (dropS (methF "list" appD (methN "Keeper" "ask" f_Keeper_ask (varF 0) (consA (varF 1) nilA)) (consA (tupA (consA (tupA (consA (cF (.int 7)) nilA)) (consA (cF (.int 1)) nilA))) nilA)))
    (seqS (dropS (methF "list" clearD (methO "Keeper" "kept" f_Keeper_kept (varF 0) nilA) nilA))
    (seqS (dropS (methF "list" appD (methO "Keeper" "nodes" f_Keeper_nodes (varF 0) nilA) (consA (varF 1) nilA)))
    (retS (andV (opF (eqX false) (methN "Keeper" "ask" f_Keeper_ask (varF 0) (consA (varF 1) nilA)) (lstA nilA)) (opF (eqX false) (methO "Keeper" "memory" f_Keeper_memory (varF 0) (consA (methN "Keeper" "node" f_Keeper_node (varF 0) (consA (varF 1) nilA)) nilA)) (lstA nilA)))))))))))
noncomputable def f__law_look : Fn := fnF 7 b__law_look
noncomputable def q0_law : EF :=
    (lcF (itmF (varF 3)) [6, 7] (tupG 2 (consG (nameG 6) (consG (nameG 7) nilG))) yesT (tupA (consA (cF (.str "table")) (consA (varF 6) (consA (varF 7) (consA (lstA nilA) nilA))))))
noncomputable def q1_law : EF :=
    (lcF (itmF (varF 3)) [6, 7] (tupG 2 (consG (nameG 6) (consG (nameG 7) nilG))) yesT (tupA (consA (cF (.str "table")) (consA (tupA (consA (varF 6) (consA (varF 7) nilA))) (consA (tupA nilA) nilA)))))
noncomputable def l0_law : SF :=
    (seqS (setS 5 (callF f__law_mixed (consA (varF 4) (consA (cF (.int 1)) nilA))))
    (seqS (setS 6 (opF ixD (varF 2) (opF modD (varF 5) (cF (.int 7)))))
    (seqS (setS 7 (opF addD (cF (.int 1)) (opF modD (opF divD (varF 5) (cF (.int 7))) (cF (.int 12)))))
    (seqS (setS 8 (lstA (consA (opF eqD (opF modD (callF f__law_mixed (consA (varF 4) (consA (cF (.int 2)) nilA))) (cF (.int 4))) (cF (.int 1))) (consA (opF eqD (opF modD (callF f__law_mixed (consA (varF 4) (consA (cF (.int 3)) nilA))) (cF (.int 3))) (cF (.int 1))) nilA))))
    (seqS (ifS (bF (opF ixD (varF 8) (cF (.int 0)))) (setS 6 (callF f__law_no_name (consA (callF f__law_mixed (consA (varF 4) (consA (cF (.int 4)) nilA))) (consA (varF 6) nilA)))) nilS)
    (seqS (ifS (bF (opF ixD (varF 8) (cF (.int 1)))) (setS 7 (callF f__law_no_width (consA (varF 4) nilA))) nilS)
    (seqS (setS 9 (callF f__law_due (consA (varF 6) (consA (varF 7) (consA (varF 3) (consA (varF 8) nilA))))))
    (seqS (ifS (bF (opF neD (callF f__law_made (consA (varF 1) (consA (varF 6) (consA (varF 7) nilA)))) (varF 9))) (retS (cF (.bl false))) nilS)
    (seqS (ifS (bF (opF eqD (varF 9) (un1 negD (cF (.int 1))))) (dputS (varF 7) (varF 3) (varF 6)) nilS)
    (seqS (setS 10 (opF ixD (varF 2) (opF modD (callF f__law_mixed (consA (varF 4) (consA (cF (.int 5)) nilA))) (cF (.int 7)))))
    (seqS (ifS (notT (bF (callF f__law_look (consA (varF 1) (consA (varF 10) (consA (varF 3) (consA (opF (dinD false) (varF 10) (varF 3)) nilA))))))) (retS (cF (.bl false))) nilS)
    (ifS (notT (bF (callF f__law_look (consA (varF 1) (consA (callF f__law_no_name (consA (callF f__law_mixed (consA (varF 4) (consA (cF (.int 6)) nilA))) (consA (varF 10) nilA))) (consA (varF 3) (consA (cF (.bl false)) nilA))))))) (retS (cF (.bl false))) nilS))))))))))))
noncomputable def b_law : SF :=
    (seqS (setS 1 (makeF "Keeper" f_Keeper___init__ nilA))
    (seqS (setS 2 (callF f__law_names (consA (callF f__law_cell_at (consA (varF 0) (consA (cF (.int 0)) nilA))) (consA (cF (.int 7)) nilA))))
    (seqS (setS 3 dicF)
    (seqS (forS (itF (slF (varF 0) (someO (cF (.int 1))) (someO (cF (.int 85))))) (nameG 4) (l0_law))
    (seqS (lockS (varF 3) (setS 11 (q0_law)))
    (seqS (lockS (varF 3) (setS 12 (q1_law)))
    (retS (andV (opF (eqX false) (methO "Keeper" "kept" f_Keeper_kept (varF 1) nilA) (varF 11)) (andV (opF (eqX false) (methO "Keeper" "nodes" f_Keeper_nodes (varF 1) nilA) (varF 12)) (opF eqD (methO "Keeper" "depth" f_Keeper_depth (varF 1) nilA) (cF (.int 0))))))))))))
noncomputable def f_law : Fn := fnF 13 b_law
end Law
namespace Law
open PySem L2 VL
theorem cell_at_ok {st : Sto} {n : Nat} {ns : List Int} {k : Nat} (h : listAt st n = some (ns.map VL.D.int)) : f__law_cell_at [.ref n, .int k] st = .ok (.int (ns.getD k 0)) st := by
  have hl : lenD [VL.D.ref n] st = .ok (.int ns.length) st := by
    show (match listAt st n with | some xs => R.ok (VL.D.int xs.length) st | none => .bad) = _
    rw [h]; simp
  by_cases hk : k < ns.length
  · have e1 : decide ((k : Int) < (ns.length : Int)) = true := decide_eq_true (by omega)
    have e2 : (ns.map VL.D.int)[k]? = some (.int ns[k]) := by rw [List.getElem?_map, List.getElem?_eq_getElem hk]; rfl
    have hi : ixD (.ref n) (.int (k : Int)) st = .ok (.int ns[k]) st := by
      show (match (listAt st n).bind fun xs => atI xs (k : Int) with | some d => R.ok d st | none => .bad) = _
      rw [h, Option.bind_some, atI_nat e2]
    simp -implicitDefEqProofs only [varF_ap, cF_ap, opF_ap, opK_ap, bF_ap, boolK_ap, andT_ap, andK_ap, orT_ap, orK_ap, notT_ap, notK_ap, yesT_ap, andV_ap, andVK_ap, orV_ap, orVK_ap, notV_ap, notVK_ap, ifF_ap, ifFK_ap, nilA_ap, consA_ap, consK_ap, consJ_ap, tupA_ap, tupK_ap, lstA_ap, lstK_ap, newO_ap, dicF_ap, callF_ap, un1_ap, methF_ap, methK_ap, nonO_ap, someO_ap, someK_ap, slF_ap, slK_ap, slJ_ap, itF_ap, itA_ap, nilS_ap, bkS_ap, ctS_ap, seqS_ap, seqK_nx, seqK_rt, seqK_bk, seqK_ct, dropS_ap, dropK_ap, retS_ap, retK_ap, retN_ap, ifS_ap, ifK_ap, setS_ap, setK_ap, asgS_ap, asgK_ap, asgJ_ap, nameG_ap, nilG_ap, consG_ap, consGK_ap, tupG_ap, fnF_ap, fnK_nx, fnK_rt, forS_ap, forK_ap, intD_ap, negD_ap, addI_ap, varK_ap, startE, yes2, isN, List.map_cons, List.map_nil, List.length_cons, List.length_nil, List.replicate, List.append_nil, List.cons_append, List.nil_append, List.getElem?_cons_zero, List.getElem?_cons_succ, List.set_cons_zero, List.set_cons_succ, R.bind_ok, R.bind_ex, R.bind_bad, R.noex_ok, if_true, if_false, Bool.false_eq_true, Bool.true_eq_false, ite_true, ite_false, reduceIte, Nat.reduceAdd, Nat.reduceSub, Nat.zero_add, Nat.sub_self, Nat.sub_zero, decide_true, decide_false, Bool.not_true, Bool.not_false, f__law_cell_at, b__law_cell_at, hl, e1, hi]
    rw [List.getD_eq_getElem?_getD, List.getElem?_eq_getElem hk]; rfl
  · have e1 : decide ((k : Int) < (ns.length : Int)) = false := decide_eq_false (by omega)
    simp -implicitDefEqProofs only [varF_ap, cF_ap, opF_ap, opK_ap, bF_ap, boolK_ap, andT_ap, andK_ap, orT_ap, orK_ap, notT_ap, notK_ap, yesT_ap, andV_ap, andVK_ap, orV_ap, orVK_ap, notV_ap, notVK_ap, ifF_ap, ifFK_ap, nilA_ap, consA_ap, consK_ap, consJ_ap, tupA_ap, tupK_ap, lstA_ap, lstK_ap, newO_ap, dicF_ap, callF_ap, un1_ap, methF_ap, methK_ap, nonO_ap, someO_ap, someK_ap, slF_ap, slK_ap, slJ_ap, itF_ap, itA_ap, nilS_ap, bkS_ap, ctS_ap, seqS_ap, seqK_nx, seqK_rt, seqK_bk, seqK_ct, dropS_ap, dropK_ap, retS_ap, retK_ap, retN_ap, ifS_ap, ifK_ap, setS_ap, setK_ap, asgS_ap, asgK_ap, asgJ_ap, nameG_ap, nilG_ap, consG_ap, consGK_ap, tupG_ap, fnF_ap, fnK_nx, fnK_rt, forS_ap, forK_ap, intD_ap, negD_ap, addI_ap, varK_ap, startE, yes2, isN, List.map_cons, List.map_nil, List.length_cons, List.length_nil, List.replicate, List.append_nil, List.cons_append, List.nil_append, List.getElem?_cons_zero, List.getElem?_cons_succ, List.set_cons_zero, List.set_cons_succ, R.bind_ok, R.bind_ex, R.bind_bad, R.noex_ok, if_true, if_false, Bool.false_eq_true, Bool.true_eq_false, ite_true, ite_false, reduceIte, Nat.reduceAdd, Nat.reduceSub, Nat.zero_add, Nat.sub_self, Nat.sub_zero, decide_true, decide_false, Bool.not_true, Bool.not_false, f__law_cell_at, b__law_cell_at, hl, e1]
    rw [List.getD_eq_getElem?_getD, List.getElem?_eq_none (by omega)]; rfl
end Law
namespace Law
open PySem L2 VL
def lets : List Nat := (List.range 26).map (97 + ·)
theorem lets_eq : (Str.ofString "abcdefghijklmnopqrstuvwxyz").cps.toList = lets := by decide +kernel
theorem lets_mem {c : Nat} : c ∈ lets ↔ 97 ≤ c ∧ c < 123 := by
  unfold lets
  rw [List.mem_map]
  constructor
  · rintro ⟨i, hi, rfl⟩
    rw [List.mem_range] at hi
    omega
  · rintro ⟨h1, h2⟩
    exact ⟨c - 97, List.mem_range.mpr (by omega), by omega⟩
theorem letter_at {i : Nat} {st : Sto} (h : i < 26) : ixD (.str "abcdefghijklmnopqrstuvwxyz") (.int (i : Nat)) st = .ok (.str ⟨#[97 + i]⟩) st := by
  have hl : (Str.ofString "abcdefghijklmnopqrstuvwxyz").length ≤ sizeLine := by decide +kernel
  have e : L2.atI (Str.ofString "abcdefghijklmnopqrstuvwxyz").cps.toList (i : Nat) = some (97 + i) := by
    rw [lets_eq]
    refine atI_nat ?_
    unfold lets
    rw [List.getElem?_map, List.getElem?_range h]; rfl
  simp only [ixD]
  rw [if_pos hl, e]
def Nm (m : Nat) (s : Str) : Prop := s.cps.toList.length = m ∧ ∀ c ∈ s.cps.toList, 97 ≤ c ∧ c < 123
theorem Nm.len {m : Nat} {s : Str} (h : Nm m s) : s.length = m := by rw [← h.1]; exact Array.length_toList.symm
end Law
namespace Law
open PySem L2 VL
def ltr (c : Nat) : Bool := decide (97 ≤ c ∧ c < 123)
def isNm (s : Str) : Bool := decide (1 ≤ s.length) && (decide (s.length ≤ 8) && s.cps.toList.all ltr)
theorem is_name_ok {s : Str} {st : Sto} (h : s.length ≤ 100000) : ∃ S, f_is_name [.str s] st = .ok (.bl (isNm s)) S ∧ Le st S := by
  have g := isi_ok (d := .str s) (st := st) (T := "str") rfl (by decide)
  have e1 : isT (.str s) st "str" = true := by simp [isT, tyOfD]
  rw [e1] at g
  have ln : lenD [.str s] st = .ok (.int (s.length : Nat)) st := by simp only [lenD]; rw [if_pos (by rw [sizeLine_eq']; omega)]
  obtain ⟨j, e⟩ := lcF_all (st := st) (s := st) (c := []) (ds := signs s) (it := itF (varF 0)) (vs := [1]) (gf := nameG 1) (te := opF (inTx false) (varF 1) (cF (.str "abcdefghijklmnopqrstuvwxyz"))) (env := [some (.str s), none])
    (fun d => match d with | .str t => .bl (t.cps.toList.all ltr) | _ => .non) (by simp -implicitDefEqProofs only [varF_ap, cF_ap, opF_ap, opK_ap, bF_ap, boolK_ap, andT_ap, andK_ap, orT_ap, orK_ap, notT_ap, notK_ap, yesT_ap, andV_ap, andVK_ap, orV_ap, orVK_ap, notV_ap, notVK_ap, ifF_ap, ifFK_ap, nilA_ap, consA_ap, consK_ap, consJ_ap, tupA_ap, tupK_ap, lstA_ap, lstK_ap, newO_ap, dicF_ap, callF_ap, un1_ap, methF_ap, methK_ap, nonO_ap, someO_ap, someK_ap, slF_ap, slK_ap, slJ_ap, itF_ap, itA_ap, nilS_ap, bkS_ap, ctS_ap, seqS_ap, seqK_nx, seqK_rt, seqK_bk, seqK_ct, dropS_ap, dropK_ap, retS_ap, retK_ap, retN_ap, ifS_ap, ifK_ap, setS_ap, setK_ap, asgS_ap, asgK_ap, asgJ_ap, nameG_ap, nilG_ap, consG_ap, consGK_ap, tupG_ap, fnF_ap, fnK_nx, fnK_rt, forS_ap, forK_ap, intD_ap, negD_ap, addI_ap, varK_ap, startE, yes2, isN, List.map_cons, List.map_nil, List.length_cons, List.length_nil, List.replicate, List.append_nil, List.cons_append, List.nil_append, List.getElem?_cons_zero, List.getElem?_cons_succ, List.set_cons_zero, List.set_cons_succ, R.bind_ok, R.bind_ex, R.bind_bad, R.noex_ok, if_true, if_false, Bool.false_eq_true, Bool.true_eq_false, ite_true, ite_false, reduceIte, Nat.reduceAdd, Nat.reduceSub, Nat.zero_add, Nat.sub_self, Nat.sub_zero, decide_true, decide_false, Bool.not_true, Bool.not_false, itD]) chk_nil (by rw [signs, List.length_map, sizeLine_eq', Array.length_toList]; show s.length ≤ _; omega) fun d hd S hS => by
      obtain ⟨c, hc, rfl⟩ := List.mem_map.mp hd
      refine ⟨_, [], rfl, ?_⟩
      have it : inTx false (.str ⟨#[c]⟩) (.str "abcdefghijklmnopqrstuvwxyz") S = .ok (.bl ((⟨#[c]⟩ : Str).cps.toList.all ltr)) S := by
        show R.ok (VL.D.bl (decide (c ∈ (Str.ofString "abcdefghijklmnopqrstuvwxyz").cps.toList))) S = .ok (.bl (ltr c && true)) S
        rw [lets_eq, Bool.and_true, ltr, decide_eq_decide.mpr lets_mem]
      rw [List.append_nil]
      simp -implicitDefEqProofs only [varF_ap, cF_ap, opF_ap, opK_ap, bF_ap, boolK_ap, andT_ap, andK_ap, orT_ap, orK_ap, notT_ap, notK_ap, yesT_ap, andV_ap, andVK_ap, orV_ap, orVK_ap, notV_ap, notVK_ap, ifF_ap, ifFK_ap, nilA_ap, consA_ap, consK_ap, consJ_ap, tupA_ap, tupK_ap, lstA_ap, lstK_ap, newO_ap, dicF_ap, callF_ap, un1_ap, methF_ap, methK_ap, nonO_ap, someO_ap, someK_ap, slF_ap, slK_ap, slJ_ap, itF_ap, itA_ap, nilS_ap, bkS_ap, ctS_ap, seqS_ap, seqK_nx, seqK_rt, seqK_bk, seqK_ct, dropS_ap, dropK_ap, retS_ap, retK_ap, retN_ap, ifS_ap, ifK_ap, setS_ap, setK_ap, asgS_ap, asgK_ap, asgJ_ap, nameG_ap, nilG_ap, consG_ap, consGK_ap, tupG_ap, fnF_ap, fnK_nx, fnK_rt, forS_ap, forK_ap, intD_ap, negD_ap, addI_ap, varK_ap, startE, yes2, isN, List.map_cons, List.map_nil, List.length_cons, List.length_nil, List.replicate, List.append_nil, List.cons_append, List.nil_append, List.getElem?_cons_zero, List.getElem?_cons_succ, List.set_cons_zero, List.set_cons_succ, R.bind_ok, R.bind_ex, R.bind_bad, R.noex_ok, if_true, if_false, Bool.false_eq_true, Bool.true_eq_false, ite_true, ite_false, reduceIte, Nat.reduceAdd, Nat.reduceSub, Nat.zero_add, Nat.sub_self, Nat.sub_zero, decide_true, decide_false, Bool.not_true, Bool.not_false, wipeE, it]
  have q0 : q0_is_name [some (.str s), none] st = _ := e
  have m1 : (signs s).map (fun d => match d with | .str t => VL.D.bl (t.cps.toList.all ltr) | _ => .non) = (s.cps.toList.map ltr).map .bl := by
    unfold signs
    rw [List.map_map, List.map_map]
    refine List.map_congr_left fun c _ => ?_
    show VL.D.bl (ltr c && true) = .bl (ltr c)
    rw [Bool.and_true]
  have al : allD [.ref st.length] (st ++ .lst ((signs s).map fun d => match d with | .str t => VL.D.bl (t.cps.toList.all ltr) | _ => .non) :: j) = .ok (.bl (s.cps.toList.all ltr)) (st ++ .lst ((signs s).map fun d => match d with | .str t => VL.D.bl (t.cps.toList.all ltr) | _ => .non) :: j) := by
    rw [m1, allD_ok listAt_at, List.all_map]; rfl
  by_cases h1 : s.length < 1
  · refine ⟨st, ?_, Le.refl _⟩
    have t1 : decide ((s.length : Int) < 1) = true := decide_eq_true (by omega)
    have : isNm s = false := by unfold isNm; rw [decide_eq_false (by omega)]; rfl
    rw [this]
    simp -implicitDefEqProofs +decide only [varF_ap, cF_ap, opF_ap, opK_ap, bF_ap, boolK_ap, andT_ap, andK_ap, orT_ap, orK_ap, notT_ap, notK_ap, yesT_ap, andV_ap, andVK_ap, orV_ap, orVK_ap, notV_ap, notVK_ap, ifF_ap, ifFK_ap, nilA_ap, consA_ap, consK_ap, consJ_ap, tupA_ap, lstA_ap, newO_ap, dicF_ap, callF_ap, un1_ap, methF_ap, nonO_ap, someO_ap, someK_ap, slF_ap, slK_ap, slJ_ap, itF_ap, itA_ap, nilS_ap, bkS_ap, ctS_ap, seqS_ap, seqK_nx, seqK_rt, seqK_bk, seqK_ct, dropS_ap, dropK_ap, retS_ap, retK_ap, retN_ap, ifS_ap, ifK_ap, setS_ap, setK_ap, asgS_ap, asgK_ap, asgJ_ap, nameG_ap, nilG_ap, consG_ap, consGK_ap, fnF_ap, fnK_nx, fnK_rt, forS_ap, forK_ap, negD_ap, addI_ap, varK_ap, startE, yes2, isN, List.map_cons, List.map_nil, List.length_cons, List.length_nil, List.replicate, List.append_nil, List.cons_append, List.nil_append, List.getElem?_cons_zero, List.getElem?_cons_succ, List.set_cons_zero, List.set_cons_succ, R.bind_ok, R.bind_ex, R.bind_bad, R.noex_ok, if_true, if_false, Bool.false_eq_true, Bool.true_eq_false, ite_true, ite_false, reduceIte, Nat.reduceAdd, Nat.reduceSub, Nat.zero_add, Nat.sub_self, Nat.sub_zero, decide_true, decide_false, Bool.not_true, Bool.not_false, subD_ap, ltD_ap, leD_ap, gtD_ap, geD_ap, mulD_ap, modD_ap, divD_ap, powD_ap, tupK_ok, lstK_ok, methK_ok, tupG_ok, eqS_t, eqS_f, neS_t, neS_f, eqI_ap, neI_ap, inT_nil, inT_hit, inT_miss, ne_eq, not_false_eq_true, f_is_name, b_is_name, g, ln, t1]
  · by_cases h8 : s.length > 8
    · refine ⟨st, ?_, Le.refl _⟩
      have t1 : decide ((s.length : Int) < 1) = false := decide_eq_false (by omega)
      have t8 : decide ((s.length : Int) > 8) = true := decide_eq_true (by omega)
      have : isNm s = false := by unfold isNm; rw [decide_eq_false (show ¬ s.length ≤ 8 by omega), Bool.false_and, Bool.and_false]
      rw [this]
      simp -implicitDefEqProofs +decide only [varF_ap, cF_ap, opF_ap, opK_ap, bF_ap, boolK_ap, andT_ap, andK_ap, orT_ap, orK_ap, notT_ap, notK_ap, yesT_ap, andV_ap, andVK_ap, orV_ap, orVK_ap, notV_ap, notVK_ap, ifF_ap, ifFK_ap, nilA_ap, consA_ap, consK_ap, consJ_ap, tupA_ap, lstA_ap, newO_ap, dicF_ap, callF_ap, un1_ap, methF_ap, nonO_ap, someO_ap, someK_ap, slF_ap, slK_ap, slJ_ap, itF_ap, itA_ap, nilS_ap, bkS_ap, ctS_ap, seqS_ap, seqK_nx, seqK_rt, seqK_bk, seqK_ct, dropS_ap, dropK_ap, retS_ap, retK_ap, retN_ap, ifS_ap, ifK_ap, setS_ap, setK_ap, asgS_ap, asgK_ap, asgJ_ap, nameG_ap, nilG_ap, consG_ap, consGK_ap, fnF_ap, fnK_nx, fnK_rt, forS_ap, forK_ap, negD_ap, addI_ap, varK_ap, startE, yes2, isN, List.map_cons, List.map_nil, List.length_cons, List.length_nil, List.replicate, List.append_nil, List.cons_append, List.nil_append, List.getElem?_cons_zero, List.getElem?_cons_succ, List.set_cons_zero, List.set_cons_succ, R.bind_ok, R.bind_ex, R.bind_bad, R.noex_ok, if_true, if_false, Bool.false_eq_true, Bool.true_eq_false, ite_true, ite_false, reduceIte, Nat.reduceAdd, Nat.reduceSub, Nat.zero_add, Nat.sub_self, Nat.sub_zero, decide_true, decide_false, Bool.not_true, Bool.not_false, subD_ap, ltD_ap, leD_ap, gtD_ap, geD_ap, mulD_ap, modD_ap, divD_ap, powD_ap, tupK_ok, lstK_ok, methK_ok, tupG_ok, eqS_t, eqS_f, neS_t, neS_f, eqI_ap, neI_ap, inT_nil, inT_hit, inT_miss, ne_eq, not_false_eq_true, f_is_name, b_is_name, g, ln, t1, t8]
    · refine ⟨st ++ .lst ((signs s).map fun d => match d with | .str t => VL.D.bl (t.cps.toList.all ltr) | _ => .non) :: j, ?_, Le.app _ _⟩
      have t1 : decide ((s.length : Int) < 1) = false := decide_eq_false (by omega)
      have t8 : decide ((s.length : Int) > 8) = false := decide_eq_false (by omega)
      have : isNm s = s.cps.toList.all ltr := by unfold isNm; rw [decide_eq_true (show 1 ≤ s.length by omega), decide_eq_true (show s.length ≤ 8 by omega), Bool.true_and, Bool.true_and]
      rw [this]
      simp -implicitDefEqProofs +decide only [varF_ap, cF_ap, opF_ap, opK_ap, bF_ap, boolK_ap, andT_ap, andK_ap, orT_ap, orK_ap, notT_ap, notK_ap, yesT_ap, andV_ap, andVK_ap, orV_ap, orVK_ap, notV_ap, notVK_ap, ifF_ap, ifFK_ap, nilA_ap, consA_ap, consK_ap, consJ_ap, tupA_ap, lstA_ap, newO_ap, dicF_ap, callF_ap, un1_ap, methF_ap, nonO_ap, someO_ap, someK_ap, slF_ap, slK_ap, slJ_ap, itF_ap, itA_ap, nilS_ap, bkS_ap, ctS_ap, seqS_ap, seqK_nx, seqK_rt, seqK_bk, seqK_ct, dropS_ap, dropK_ap, retS_ap, retK_ap, retN_ap, ifS_ap, ifK_ap, setS_ap, setK_ap, asgS_ap, asgK_ap, asgJ_ap, nameG_ap, nilG_ap, consG_ap, consGK_ap, fnF_ap, fnK_nx, fnK_rt, forS_ap, forK_ap, negD_ap, addI_ap, varK_ap, startE, yes2, isN, List.map_cons, List.map_nil, List.length_cons, List.length_nil, List.replicate, List.append_nil, List.cons_append, List.nil_append, List.getElem?_cons_zero, List.getElem?_cons_succ, List.set_cons_zero, List.set_cons_succ, R.bind_ok, R.bind_ex, R.bind_bad, R.noex_ok, if_true, if_false, Bool.false_eq_true, Bool.true_eq_false, ite_true, ite_false, reduceIte, Nat.reduceAdd, Nat.reduceSub, Nat.zero_add, Nat.sub_self, Nat.sub_zero, decide_true, decide_false, Bool.not_true, Bool.not_false, subD_ap, ltD_ap, leD_ap, gtD_ap, geD_ap, mulD_ap, modD_ap, divD_ap, powD_ap, tupK_ok, lstK_ok, methK_ok, tupG_ok, eqS_t, eqS_f, neS_t, neS_f, eqI_ap, neI_ap, inT_nil, inT_hit, inT_miss, ne_eq, not_false_eq_true, f_is_name, b_is_name, g, ln, t1, t8, q0, al]
end Law
namespace Law
open PySem L2 VL
def Pl (B : Prop) : Nat → VL.D → Prop
  | 0, _ => False
  | n + 1, d => (∃ i, d = .int i) ∨ (B ∧ ∃ b, d = .bl b) ∨ (∃ s, d = .str s) ∨ ∃ xs, d = .tup xs ∧ xs.length ≤ 1000 ∧ ∀ x ∈ xs, Pl B n x
section
variable {B : Prop} {n m : Nat} {d : VL.D}
theorem Pl.int {i : Int} : Pl B (n + 1) (.int i) := .inl ⟨i, rfl⟩
theorem Pl.bl {b : Bool} (h : B) : Pl B (n + 1) (.bl b) := .inr (.inl ⟨h, b, rfl⟩)
theorem Pl.str {s : Str} : Pl B (n + 1) (.str s) := .inr (.inr (.inl ⟨s, rfl⟩))
theorem Pl.tup {xs : List VL.D} (h : xs.length ≤ 1000) (k : ∀ x ∈ xs, Pl B n x) : Pl B (n + 1) (.tup xs) := .inr (.inr (.inr ⟨xs, rfl, h, k⟩))
theorem Pl.all0 : ∀ x ∈ ([] : List VL.D), Pl B n x := fun x hx => nomatch hx
theorem Pl.allC {a : VL.D} {xs : List VL.D} (h : Pl B n a) (k : ∀ x ∈ xs, Pl B n x) : ∀ x ∈ a :: xs, Pl B n x := fun x hx => by
  rcases List.mem_cons.mp hx with rfl | hx
  · exact h
  · exact k x hx
theorem nkeys_of : ∀ {xs : List VL.D} {n : Nat}, (∀ x ∈ xs, ∃ k, nkey x = some k ∧ k.depth ≤ n) → ∃ ks, nkeys xs = some ks ∧ NestedKey.depthAll ks ≤ n
  | [], n, _ => ⟨[], rfl, Nat.zero_le _⟩
  | x :: xs, n, h => by
    obtain ⟨k, h1, h2⟩ := h x List.mem_cons_self
    obtain ⟨ks, h3, h4⟩ := nkeys_of (fun y hy => h y (List.mem_cons_of_mem _ hy))
    refine ⟨k :: ks, by unfold nkeys; rw [h1, h3]; rfl, ?_⟩
    show max _ _ ≤ n
    omega
theorem Pl.key : ∀ {n : Nat} {d : VL.D}, Pl B n d → ∃ k, nkey d = some k ∧ k.depth ≤ n
  | 0, _, h => by cases h
  | n + 1, d, h => by
    rcases h with ⟨i, rfl⟩ | ⟨_, b, rfl⟩ | ⟨s, rfl⟩ | ⟨xs, rfl, h2, h3⟩
    · exact ⟨_, rfl, Nat.zero_le _⟩
    · exact ⟨_, rfl, Nat.zero_le _⟩
    · exact ⟨_, rfl, Nat.zero_le _⟩
    · obtain ⟨ks, h4, h5⟩ := nkeys_of (n := n) (fun x hx => Pl.key (h3 x hx))
      refine ⟨.tup ks, by unfold nkey; rw [h4]; rfl, ?_⟩
      show NestedKey.depthAll ks + 1 ≤ _
      omega
theorem Pl.kOk {xs : List VL.D} (h : Pl B n (.tup xs)) (hn : n ≤ 8) : VL.kOk (.tup xs) = true := by
  obtain ⟨k, h1, h2⟩ := h.key
  unfold nkey at h1
  obtain ⟨ks, h3, rfl⟩ := Option.map_eq_some_iff.mp h1
  show (match nkeys xs with | some ks => decide ((NestedKey.tup ks).depth ≤ 8) | none => false) = true
  rw [h3]
  exact decide_eq_true (by omega)
end
structure Sn where
  L : List VL.D
  W : List Int
def kvsF (i : Nat) : List VL.D → List (VL.D × VL.D)
  | [] => []
  | x :: xs => (x, .int (i : Nat)) :: kvsF (i + 1) xs
theorem kvsF_app {x : VL.D} : ∀ {xs : List VL.D} {i : Nat}, kvsF i (xs ++ [x]) = kvsF i xs ++ [(x, .int ((i + xs.length : Nat) : Int))]
  | [], i => rfl
  | y :: xs, i => by
    rw [List.cons_append, kvsF, kvsF, kvsF_app, List.cons_append, List.length_cons, show i + 1 + xs.length = i + (xs.length + 1) by omega]
theorem kvsF_len : ∀ {xs : List VL.D} {i : Nat}, (kvsF i xs).length = xs.length
  | [], i => rfl
  | y :: xs, i => by rw [kvsF, List.length_cons, List.length_cons, kvsF_len]
theorem kvsF_get {nd d : VL.D} : ∀ {xs : List VL.D} {i : Nat}, kget (kvsF i xs) nd = some d → ∃ j p, d = .int ((i + j : Nat) : Int) ∧ xs[j]? = some p ∧ kEq p nd = true
  | [], i, h => by cases h
  | y :: xs, i, h => by
    unfold kget at h
    rw [kvsF, List.find?_cons] at h
    cases e : kEq y nd with
    | true =>
      rw [e] at h
      cases h
      exact ⟨0, y, rfl, rfl, e⟩
    | false =>
      rw [e] at h
      obtain ⟨j, p, h1, h2, h3⟩ := kvsF_get (i := i + 1) (xs := xs) h
      exact ⟨j + 1, p, by rw [h1, show i + 1 + j = i + (j + 1) by omega], h2, h3⟩
def Sn.kvs (S : Sn) : List (VL.D × VL.D) := kvsF 0 S.L
open Classical in
noncomputable def Sn.put (S : Sn) (nd : VL.D) (w : Int) : Nat × Sn := match kget S.kvs nd with
  | some (.int k) => (k.toNat, S)
  | _ => (S.L.length, ⟨S.L ++ [nd], S.W ++ [w]⟩)
theorem Sn.put_cases (S : Sn) (nd : VL.D) (w : Int) : (∃ j p, kget S.kvs nd = some (.int (j : Nat)) ∧ S.put nd w = (j, S) ∧ S.L[j]? = some p ∧ kEq p nd = true) ∨ (kget S.kvs nd = none ∧ S.put nd w = (S.L.length, ⟨S.L ++ [nd], S.W ++ [w]⟩)) := by
  cases e : kget S.kvs nd with
  | none => exact .inr ⟨rfl, by unfold Sn.put; rw [e]⟩
  | some d =>
    obtain ⟨j, p, h1, h2, h3⟩ := kvsF_get e
    rw [Nat.zero_add] at h1
    subst h1
    exact .inl ⟨j, p, rfl, by unfold Sn.put; rw [e]; rfl, h2, h3⟩
/-- a node -/
def Nd (nd : VL.D) : Prop := Pl True 8 nd ∧ ∃ xs, nd = .tup xs
theorem Nd.kOk {nd : VL.D} (h : Nd nd) : VL.kOk nd = true := by
  obtain ⟨h, xs, rfl⟩ := h
  exact h.kOk (by decide)
structure OkS (S : Sn) : Prop where
  len : S.W.length = S.L.length
  pl : ∀ nd ∈ S.L, Nd nd
theorem OkS.keys {S : Sn} (h : OkS S) : kkeys S.kvs = true := by
  have h : ∀ nd ∈ S.L, VL.kOk nd = true := fun nd hn => (h.pl nd hn).kOk
  have : ∀ (xs : List VL.D) (i : Nat), (∀ nd ∈ xs, VL.kOk nd = true) → kkeys (kvsF i xs) = true := by
    intro xs
    induction xs with
    | nil => intro i _; rfl
    | cons x xs ih =>
      intro i h
      have e := ih (i + 1) fun y hy => h y (List.mem_cons_of_mem _ hy)
      unfold kkeys at e ⊢
      rw [kvsF, List.all_cons, h x List.mem_cons_self, e]; rfl
  exact this _ _ h
theorem OkS.put {S : Sn} {nd : VL.D} {w : Int} (h : OkS S) (hk : Nd nd) : OkS (S.put nd w).2 := by
  rcases S.put_cases nd w with ⟨j, p, _, h2, _⟩ | ⟨_, h2⟩
  · rw [h2]; exact h
  · rw [h2]
    refine ⟨by simp [h.len], fun x hx => ?_⟩
    rcases List.mem_append.mp hx with hx | hx
    · exact h.pl x hx
    · obtain rfl := List.mem_singleton.mp hx; exact hk
/-- later: more nodes -/
def Sn.le (S T : Sn) : Prop := ∃ j x, T.L = S.L ++ j ∧ T.W = S.W ++ x ∧ j.length = x.length
theorem Sn.le_refl (S : Sn) : S.le S := ⟨[], [], by simp, by simp, rfl⟩
theorem Sn.le.trans {S T U : Sn} (h : S.le T) (k : T.le U) : S.le U := by
  obtain ⟨j, x, h1, h2, h3⟩ := h
  obtain ⟨j', x', k1, k2, k3⟩ := k
  exact ⟨j ++ j', x ++ x', by rw [k1, h1, List.append_assoc], by rw [k2, h2, List.append_assoc], by simp [h3, k3]⟩
theorem Sn.le.len {S T : Sn} (h : S.le T) : S.L.length ≤ T.L.length := by
  obtain ⟨j, x, h1, h2, h3⟩ := h
  rw [h1, List.length_append]; omega
/-- the state as it lies -/
structure At (a b c : Nat) (S : Sn) (st : Sto) : Prop where
  l : st[a]? = some (.lst S.L)
  w : st[b]? = some (.lst (S.W.map .int))
  d : st[c]? = some (.dic S.kvs)
/-- all but ms stays -/
def Kp (ms : List Nat) (st st' : Sto) : Prop := ∀ i o, i ∉ ms → st[i]? = some o → st'[i]? = some o
theorem Kp.refl {ms : List Nat} (st : Sto) : Kp ms st st := fun _ _ _ h => h
theorem Kp.trans {ms : List Nat} {a b c : Sto} (h : Kp ms a b) (k : Kp ms b c) : Kp ms a c := fun i o n e => k i o n (h i o n e)
theorem Kp.le {ms : List Nat} {a b : Sto} (h : Le a b) : Kp ms a b := fun i o _ e => h.get e
theorem Kp.sub {ms ns : List Nat} {a b : Sto} (h : Kp ms a b) (k : ∀ i ∈ ms, i ∈ ns) : Kp ns a b := fun i o n e => h i o (fun z => n (k i z)) e
theorem Kp.set {ms : List Nat} {st : Sto} {i : Nat} {o : VL.O} (h : i ∈ ms) : Kp ms st (st.set i o) := fun j u n e => by
  rw [List.getElem?_set_ne (fun z : i = j => n (z ▸ h))]; exact e
theorem Kp.list {ms : List Nat} {a b : Sto} (h : Kp ms a b) {n : Nat} {xs : List VL.D} (hn : n ∉ ms) (e : listAt a n = some xs) : listAt b n = some xs := by
  unfold listAt at *
  cases he : a[n]? with
  | none => rw [he] at e; cases e
  | some o => rw [he] at e; rw [h n o hn he]; exact e
theorem At.kp {a b c : Nat} {S : Sn} {st st' : Sto} {ms : List Nat} (h : At a b c S st) (k : Kp ms st st') (ha : a ∉ ms) (hb : b ∉ ms) (hc : c ∉ ms) : At a b c S st' := ⟨k _ _ ha h.l, k _ _ hb h.w, k _ _ hc h.d⟩
theorem At.ne {a b c : Nat} {S : Sn} {st : Sto} (h : At a b c S st) : a ≠ c ∧ b ≠ c := ⟨(fun e => by have := h.l; rw [e, h.d] at this; cases this), (fun e => by have := h.w; rw [e, h.d] at this; cases this)⟩
/-- a new node -/
noncomputable def laidS (a b c : Nat) (S : Sn) (nd : VL.D) (w : Int) (st : Sto) : Sto := ((st.set c (.dic (kput S.kvs nd (.int (S.L.length : Nat))))).set a (.lst (S.L ++ [nd]))).set b (.lst (S.W.map .int ++ [.int w]))
theorem kput_new {S : Sn} {nd : VL.D} (h : kget S.kvs nd = none) : kput S.kvs nd (.int (S.L.length : Nat)) = kvsF 0 (S.L ++ [nd]) := by
  unfold kput
  rw [if_neg, kvsF_app, Nat.zero_add]; rfl
  intro z
  unfold kget at h
  rw [Option.map_eq_none_iff, List.find?_eq_none] at h
  obtain ⟨p, hp, hq⟩ := List.any_eq_true.mp z
  exact h p hp hq
theorem laid_at {a b c : Nat} {S : Sn} {nd : VL.D} {w : Int} {st : Sto} (h : At a b c S st) (hab : a ≠ b) (hk : kget S.kvs nd = none) : At a b c ⟨S.L ++ [nd], S.W ++ [w]⟩ (laidS a b c S nd w st) ∧ Kp [a, b, c] st (laidS a b c S nd w st) := by
  obtain ⟨hac, hbc⟩ := h.ne
  have la := (List.getElem?_eq_some_iff.mp h.l).1
  have lb := (List.getElem?_eq_some_iff.mp h.w).1
  have lc := (List.getElem?_eq_some_iff.mp h.d).1
  unfold laidS
  refine ⟨⟨?_, ?_, ?_⟩, ((Kp.set (by simp)).trans (Kp.set (by simp))).trans (Kp.set (by simp))⟩
  · rw [List.getElem?_set_ne (Ne.symm hab), List.getElem?_set_self (by simpa using la)]
  · rw [List.getElem?_set_self (by simpa using lb), List.map_append]; rfl
  · rw [List.getElem?_set_ne hbc, List.getElem?_set_ne hac, List.getElem?_set_self lc, kput_new hk]; rfl
theorem kin_old {c : Nat} {S : Sn} {st : Sto} {nd d : VL.D} (hd : st[c]? = some (.dic S.kvs)) (ok : OkS S) (hk : VL.kOk nd = true) (h : kget S.kvs nd = some d) : kinD true nd (.ref c) st = .ok (.bl false) st := by
  simp only [kinD, hd, ok.keys, hk, Bool.and_self, if_true, h]; rfl
theorem kin_new {c : Nat} {S : Sn} {st : Sto} {nd : VL.D} (hd : st[c]? = some (.dic S.kvs)) (ok : OkS S) (hk : VL.kOk nd = true) (h : kget S.kvs nd = none) : kinD true nd (.ref c) st = .ok (.bl true) st := by
  simp only [kinD, hd, ok.keys, hk, Bool.and_self, if_true, h]; rfl
theorem kix_at {c : Nat} {kvs : List (VL.D × VL.D)} {st : Sto} {nd d : VL.D} (hd : st[c]? = some (.dic kvs)) (ok : kkeys kvs = true) (hk : VL.kOk nd = true) (h : kget kvs nd = some d) : kixD (.ref c) nd st = .ok d st := by
  simp only [kixD, hd, ok, hk, Bool.and_self, if_true, h]
theorem kget_snoc {nd : VL.D} : ∀ {xs : List VL.D} {i : Nat}, kget (kvsF i xs) nd = none → kget (kvsF i (xs ++ [nd])) nd = some (.int ((i + xs.length : Nat) : Int))
  | [], i, _ => by
    unfold kget
    rw [List.nil_append, kvsF, List.find?_cons, kEq_self]; rfl
  | y :: xs, i, h => by
    unfold kget at h ⊢
    rw [kvsF, List.find?_cons] at h
    rw [List.cons_append, kvsF, List.find?_cons]
    cases e : kEq y nd with
    | true => rw [e] at h; cases h
    | false =>
      rw [e] at h
      show kget (kvsF (i + 1) (xs ++ [nd])) nd = _
      rw [kget_snoc (show kget (kvsF (i + 1) xs) nd = none from h), List.length_cons, show i + 1 + xs.length = i + (xs.length + 1) by omega]
def NET (a b c : Nat) : VL.O := .ins "Net" [("laid", .ref a), ("wide", .ref b), ("numbers", .ref c)]
theorem net_fld {a b c n : Nat} {st : Sto} (h : st[n]? = some (NET a b c)) : fldK "Net" "laid" (.ref n) st = .ok (.ref a) st ∧ fldK "Net" "wide" (.ref n) st = .ok (.ref b) st ∧ fldK "Net" "numbers" (.ref n) st = .ok (.ref c) st := by
  have e := insAt_ins (c := "Net") h
  have l1 : List.lookup (PySem.Str.ofString "laid") [(PySem.Str.ofString "laid", VL.D.ref a), ("wide", .ref b), ("numbers", .ref c)] = some (.ref a) := rfl
  refine ⟨?_, ?_, ?_⟩ <;> simp only [fldK, e, Option.bind_some] <;> rfl
theorem kputS_ap {fv fo fk : EF} {env : EnvD} {st s1 s2 s3 : Sto} {v k : VL.D} {n : Nat} {kvs : List (VL.D × VL.D)} (h1 : fv env st = .ok v s1) (h2 : fo env s1 = .ok (.ref n) s2) (h3 : fk env s2 = .ok k s3) (h4 : s3[n]? = some (.dic kvs)) (h5 : kkeys kvs = true) (h6 : VL.kOk k = true) (h7 : kvs.length < sizeLine) : kputS fv fo fk env st = .ok (.nx env) (s3.set n (.dic (kput kvs k v))) := by
  unfold kputS
  rw [h1, R.bind_ok, h2, R.bind_ok, h3, R.bind_ok]
  simp only [h4, h5, h6, decide_eq_true h7, Bool.and_self, if_true]
theorem net_ne {a b c n : Nat} {S : Sn} {st : Sto} (hn : st[n]? = some (NET a b c)) (h : At a b c S st) : n ∉ [a, b, c] := by
  intro z
  simp only [List.mem_cons, List.not_mem_nil, or_false] at z
  rcases z with rfl | rfl | rfl
  · rw [h.l] at hn; cases hn
  · rw [h.w] at hn; cases hn
  · rw [h.d] at hn; cases hn
/-- the three writes -/
theorem put_writes {a b c : Nat} {S : Sn} {st : Sto} {nd : VL.D} {w : Int} (h : At a b c S st) (hab : a ≠ b) (hz : S.L.length < sizeLine) (ok : OkS S) :
    ∃ s1 s2, s1 = st.set c (.dic (kput S.kvs nd (.int (S.L.length : Nat)))) ∧ s2 = s1.set a (.lst (S.L ++ [nd])) ∧ laidS a b c S nd w st = s2.set b (.lst (S.W.map .int ++ [.int w])) ∧
      s1[a]? = some (.lst S.L) ∧ s2[b]? = some (.lst (S.W.map .int)) ∧ appD (.ref a) [nd] s1 = .ok .non s2 ∧ appD (.ref b) [.int w] s2 = .ok .non (laidS a b c S nd w st) ∧ Kp [a, b, c] st s1 ∧ Kp [a, b, c] st s2 := by
  obtain ⟨hac, hbc⟩ := h.ne
  have e1 : (st.set c (.dic (kput S.kvs nd (.int (S.L.length : Nat)))))[a]? = some (.lst S.L) := by rw [List.getElem?_set_ne (Ne.symm hac)]; exact h.l
  have e2 : ((st.set c (.dic (kput S.kvs nd (.int (S.L.length : Nat))))).set a (.lst (S.L ++ [nd])))[b]? = some (.lst (S.W.map .int)) := by rw [List.getElem?_set_ne hab, List.getElem?_set_ne (Ne.symm hbc)]; exact h.w
  exact ⟨_, _, rfl, rfl, rfl, e1, e2, appD_ok e1 hz, appD_ok e2 (by rw [List.length_map, ok.len]; exact hz), Kp.set (by simp), (Kp.set (by simp)).trans (Kp.set (by simp))⟩
theorem put_ok {n a b c : Nat} {S : Sn} {st : Sto} {nd : VL.D} {w : Int} (hn : st[n]? = some (NET a b c)) (h : At a b c S st) (hab : a ≠ b) (ok : OkS S) (hk : Nd nd) (hz : S.L.length < sizeLine) :
    ∃ st', f_Net_put [.ref n, nd, .int w] st = .ok (.int ((S.put nd w).1 : Nat)) st' ∧ At a b c (S.put nd w).2 st' ∧ Kp [a, b, c] st st' := by
  obtain ⟨f1, f2, f3⟩ := net_fld hn
  rcases S.put_cases nd w with ⟨j, p, h1, h2, h3, _⟩ | ⟨h1, h2⟩
  · rw [h2]
    have k1 := kin_old h.d ok hk.kOk h1
    have k2 := kix_at h.d ok.keys hk.kOk h1
    exact ⟨st, by simp -implicitDefEqProofs +decide only [varF_ap, cF_ap, opF_ap, opK_ap, bF_ap, boolK_ap, andT_ap, andK_ap, orT_ap, orK_ap, notT_ap, notK_ap, yesT_ap, andV_ap, andVK_ap, orV_ap, orVK_ap, notV_ap, notVK_ap, ifF_ap, ifFK_ap, nilA_ap, consA_ap, consK_ap, consJ_ap, tupA_ap, lstA_ap, newO_ap, dicF_ap, callF_ap, un1_ap, methF_ap, nonO_ap, someO_ap, someK_ap, slF_ap, slK_ap, slJ_ap, itF_ap, itA_ap, nilS_ap, bkS_ap, ctS_ap, seqS_ap, seqK_nx, seqK_rt, seqK_bk, seqK_ct, dropS_ap, dropK_ap, retS_ap, retK_ap, retN_ap, ifS_ap, ifK_ap, setS_ap, setK_ap, asgS_ap, asgK_ap, asgJ_ap, nameG_ap, nilG_ap, consG_ap, consGK_ap, fnF_ap, fnK_nx, fnK_rt, forS_ap, forK_ap, negD_ap, addI_ap, varK_ap, startE, yes2, isN, List.map_cons, List.map_nil, List.length_cons, List.length_nil, List.replicate, List.append_nil, List.cons_append, List.nil_append, List.getElem?_cons_zero, List.getElem?_cons_succ, List.set_cons_zero, List.set_cons_succ, R.bind_ok, R.bind_ex, R.bind_bad, R.noex_ok, if_true, if_false, Bool.false_eq_true, Bool.true_eq_false, ite_true, ite_false, reduceIte, Nat.reduceAdd, Nat.reduceSub, Nat.zero_add, Nat.sub_self, Nat.sub_zero, decide_true, decide_false, Bool.not_true, Bool.not_false, subD_ap, ltD_ap, leD_ap, gtD_ap, geD_ap, mulD_ap, modD_ap, divD_ap, powD_ap, tupK_ok, lstK_ok, methK_ok, tupG_ok, eqS_t, eqS_f, neS_t, neS_f, eqI_ap, neI_ap, inT_nil, inT_hit, inT_miss, ne_eq, not_false_eq_true, f_Net_put, b_Net_put, f3, k1, k2], h, Kp.refl _⟩
  · rw [h2]
    obtain ⟨A, K⟩ := laid_at (w := w) h hab h1
    obtain ⟨s1, s2, hs1, hs2, hs3, e1, e2, a1, a2, K1, K2⟩ := put_writes (nd := nd) (w := w) h hab hz ok
    have nn := net_ne hn h
    obtain ⟨g1, g2, g3⟩ := net_fld (K1 _ _ nn hn)
    obtain ⟨p1, p2, p3⟩ := net_fld (K2 _ _ nn hn)
    obtain ⟨q1, q2, q3⟩ := net_fld (K _ _ nn hn)
    have k1 := kin_new h.d ok hk.kOk h1
    have ok2 : OkS ⟨S.L ++ [nd], S.W ++ [w]⟩ := by have := ok.put (w := w) hk; rw [h2] at this; exact this
    have kx : kget (Sn.kvs ⟨S.L ++ [nd], S.W ++ [w]⟩) nd = some (.int (S.L.length : Nat)) := by
      have := kget_snoc (nd := nd) (xs := S.L) (i := 0) h1
      rw [Nat.zero_add] at this; exact this
    have k2 := kix_at A.d ok2.keys hk.kOk kx
    have ln : lenD [.ref a] st = .ok (.int (S.L.length : Nat)) st := lenD_list (listAt_lst h.l)
    have pp : kputS (callF lenD (consA (un1 (fldK "Net" "laid") (varF 0)) nilA)) (un1 (fldK "Net" "numbers") (varF 0)) (varF 1) [some (.ref n), some nd, some (.int w)] st = .ok (.nx [some (.ref n), some nd, some (.int w)]) s1 := by
      rw [hs1]
      exact kputS_ap (s1 := st) (s2 := st) (s3 := st) (by simp -implicitDefEqProofs +decide only [varF_ap, cF_ap, opF_ap, opK_ap, bF_ap, boolK_ap, andT_ap, andK_ap, orT_ap, orK_ap, notT_ap, notK_ap, yesT_ap, andV_ap, andVK_ap, orV_ap, orVK_ap, notV_ap, notVK_ap, ifF_ap, ifFK_ap, nilA_ap, consA_ap, consK_ap, consJ_ap, tupA_ap, lstA_ap, newO_ap, dicF_ap, callF_ap, un1_ap, methF_ap, nonO_ap, someO_ap, someK_ap, slF_ap, slK_ap, slJ_ap, itF_ap, itA_ap, nilS_ap, bkS_ap, ctS_ap, seqS_ap, seqK_nx, seqK_rt, seqK_bk, seqK_ct, dropS_ap, dropK_ap, retS_ap, retK_ap, retN_ap, ifS_ap, ifK_ap, setS_ap, setK_ap, asgS_ap, asgK_ap, asgJ_ap, nameG_ap, nilG_ap, consG_ap, consGK_ap, fnF_ap, fnK_nx, fnK_rt, forS_ap, forK_ap, negD_ap, addI_ap, varK_ap, startE, yes2, isN, List.map_cons, List.map_nil, List.length_cons, List.length_nil, List.replicate, List.append_nil, List.cons_append, List.nil_append, List.getElem?_cons_zero, List.getElem?_cons_succ, List.set_cons_zero, List.set_cons_succ, R.bind_ok, R.bind_ex, R.bind_bad, R.noex_ok, if_true, if_false, Bool.false_eq_true, Bool.true_eq_false, ite_true, ite_false, reduceIte, Nat.reduceAdd, Nat.reduceSub, Nat.zero_add, Nat.sub_self, Nat.sub_zero, decide_true, decide_false, Bool.not_true, Bool.not_false, subD_ap, ltD_ap, leD_ap, gtD_ap, geD_ap, mulD_ap, modD_ap, divD_ap, powD_ap, tupK_ok, lstK_ok, methK_ok, tupG_ok, eqS_t, eqS_f, neS_t, neS_f, eqI_ap, neI_ap, inT_nil, inT_hit, inT_miss, ne_eq, not_false_eq_true, f1, ln]) (by simp -implicitDefEqProofs +decide only [varF_ap, cF_ap, opF_ap, opK_ap, bF_ap, boolK_ap, andT_ap, andK_ap, orT_ap, orK_ap, notT_ap, notK_ap, yesT_ap, andV_ap, andVK_ap, orV_ap, orVK_ap, notV_ap, notVK_ap, ifF_ap, ifFK_ap, nilA_ap, consA_ap, consK_ap, consJ_ap, tupA_ap, lstA_ap, newO_ap, dicF_ap, callF_ap, un1_ap, methF_ap, nonO_ap, someO_ap, someK_ap, slF_ap, slK_ap, slJ_ap, itF_ap, itA_ap, nilS_ap, bkS_ap, ctS_ap, seqS_ap, seqK_nx, seqK_rt, seqK_bk, seqK_ct, dropS_ap, dropK_ap, retS_ap, retK_ap, retN_ap, ifS_ap, ifK_ap, setS_ap, setK_ap, asgS_ap, asgK_ap, asgJ_ap, nameG_ap, nilG_ap, consG_ap, consGK_ap, fnF_ap, fnK_nx, fnK_rt, forS_ap, forK_ap, negD_ap, addI_ap, varK_ap, startE, yes2, isN, List.map_cons, List.map_nil, List.length_cons, List.length_nil, List.replicate, List.append_nil, List.cons_append, List.nil_append, List.getElem?_cons_zero, List.getElem?_cons_succ, List.set_cons_zero, List.set_cons_succ, R.bind_ok, R.bind_ex, R.bind_bad, R.noex_ok, if_true, if_false, Bool.false_eq_true, Bool.true_eq_false, ite_true, ite_false, reduceIte, Nat.reduceAdd, Nat.reduceSub, Nat.zero_add, Nat.sub_self, Nat.sub_zero, decide_true, decide_false, Bool.not_true, Bool.not_false, subD_ap, ltD_ap, leD_ap, gtD_ap, geD_ap, mulD_ap, modD_ap, divD_ap, powD_ap, tupK_ok, lstK_ok, methK_ok, tupG_ok, eqS_t, eqS_f, neS_t, neS_f, eqI_ap, neI_ap, inT_nil, inT_hit, inT_miss, ne_eq, not_false_eq_true, f3]) (by simp -implicitDefEqProofs +decide only [varF_ap, cF_ap, opF_ap, opK_ap, bF_ap, boolK_ap, andT_ap, andK_ap, orT_ap, orK_ap, notT_ap, notK_ap, yesT_ap, andV_ap, andVK_ap, orV_ap, orVK_ap, notV_ap, notVK_ap, ifF_ap, ifFK_ap, nilA_ap, consA_ap, consK_ap, consJ_ap, tupA_ap, lstA_ap, newO_ap, dicF_ap, callF_ap, un1_ap, methF_ap, nonO_ap, someO_ap, someK_ap, slF_ap, slK_ap, slJ_ap, itF_ap, itA_ap, nilS_ap, bkS_ap, ctS_ap, seqS_ap, seqK_nx, seqK_rt, seqK_bk, seqK_ct, dropS_ap, dropK_ap, retS_ap, retK_ap, retN_ap, ifS_ap, ifK_ap, setS_ap, setK_ap, asgS_ap, asgK_ap, asgJ_ap, nameG_ap, nilG_ap, consG_ap, consGK_ap, fnF_ap, fnK_nx, fnK_rt, forS_ap, forK_ap, negD_ap, addI_ap, varK_ap, startE, yes2, isN, List.map_cons, List.map_nil, List.length_cons, List.length_nil, List.replicate, List.append_nil, List.cons_append, List.nil_append, List.getElem?_cons_zero, List.getElem?_cons_succ, List.set_cons_zero, List.set_cons_succ, R.bind_ok, R.bind_ex, R.bind_bad, R.noex_ok, if_true, if_false, Bool.false_eq_true, Bool.true_eq_false, ite_true, ite_false, reduceIte, Nat.reduceAdd, Nat.reduceSub, Nat.zero_add, Nat.sub_self, Nat.sub_zero, decide_true, decide_false, Bool.not_true, Bool.not_false, subD_ap, ltD_ap, leD_ap, gtD_ap, geD_ap, mulD_ap, modD_ap, divD_ap, powD_ap, tupK_ok, lstK_ok, methK_ok, tupG_ok, eqS_t, eqS_f, neS_t, neS_f, eqI_ap, neI_ap, inT_nil, inT_hit, inT_miss, ne_eq, not_false_eq_true]) h.d ok.keys hk.kOk (by rw [Sn.kvs, kvsF_len]; exact hz)
    have t1 : tyD "list" (VL.D.ref a) s1 := tyD_list (listAt_lst e1)
    have t2 : tyD "list" (VL.D.ref b) s2 := tyD_list (listAt_lst e2)
    exact ⟨_, by simp -implicitDefEqProofs +decide only [varF_ap, cF_ap, opF_ap, opK_ap, bF_ap, boolK_ap, andT_ap, andK_ap, orT_ap, orK_ap, notT_ap, notK_ap, yesT_ap, andV_ap, andVK_ap, orV_ap, orVK_ap, notV_ap, notVK_ap, ifF_ap, ifFK_ap, nilA_ap, consA_ap, consK_ap, consJ_ap, tupA_ap, lstA_ap, newO_ap, dicF_ap, callF_ap, un1_ap, methF_ap, nonO_ap, someO_ap, someK_ap, slF_ap, slK_ap, slJ_ap, itF_ap, itA_ap, nilS_ap, bkS_ap, ctS_ap, seqS_ap, seqK_nx, seqK_rt, seqK_bk, seqK_ct, dropS_ap, dropK_ap, retS_ap, retK_ap, retN_ap, ifS_ap, ifK_ap, setS_ap, setK_ap, asgS_ap, asgK_ap, asgJ_ap, nameG_ap, nilG_ap, consG_ap, consGK_ap, fnF_ap, fnK_nx, fnK_rt, forS_ap, forK_ap, negD_ap, addI_ap, varK_ap, startE, yes2, isN, List.map_cons, List.map_nil, List.length_cons, List.length_nil, List.replicate, List.append_nil, List.cons_append, List.nil_append, List.getElem?_cons_zero, List.getElem?_cons_succ, List.set_cons_zero, List.set_cons_succ, R.bind_ok, R.bind_ex, R.bind_bad, R.noex_ok, if_true, if_false, Bool.false_eq_true, Bool.true_eq_false, ite_true, ite_false, reduceIte, Nat.reduceAdd, Nat.reduceSub, Nat.zero_add, Nat.sub_self, Nat.sub_zero, decide_true, decide_false, Bool.not_true, Bool.not_false, subD_ap, ltD_ap, leD_ap, gtD_ap, geD_ap, mulD_ap, modD_ap, divD_ap, powD_ap, tupK_ok, lstK_ok, methK_ok, tupG_ok, eqS_t, eqS_f, neS_t, neS_f, eqI_ap, neI_ap, inT_nil, inT_hit, inT_miss, ne_eq, not_false_eq_true, f_Net_put, b_Net_put, f3, k1, pp, g1, t1, a1, p2, t2, a2, q3, k2], A, K⟩
end Law
namespace Law
open PySem L2 VL
def cs (s : Str) : List Nat := s.cps.toList
def S (l : List Nat) : Str := ⟨l.toArray⟩
theorem cs_S (l : List Nat) : cs (S l) = l := List.toList_toArray
theorem S_cs (s : Str) : S (cs s) = s := by cases s; rfl
theorem cs_inj {a b : Str} (h : cs a = cs b) : a = b := by rw [← S_cs a, h, S_cs]
theorem cs_app (a b : Str) : cs (a ++ b) = cs a ++ cs b := by show (a.cps ++ b.cps).toList = _; rw [Array.toList_append]; rfl
theorem S_app (a b : List Nat) : S a ++ S b = S (a ++ b) := cs_inj (by rw [cs_app, cs_S, cs_S, cs_S])
theorem S_len (l : List Nat) : (S l).length = l.length := by show l.toArray.size = _; rw [List.size_toArray]
/-- signs c written as z -/
def rp (c : Nat) (z : List Nat) : List Nat → List Nat
  | [] => []
  | k :: r => (if k = c then z else [k]) ++ rp c z r
/-- split at c -/
def sp (c : Nat) : List Nat → List (List Nat)
  | [] => [[]]
  | k :: r => if k = c then [] :: sp c r else match sp c r with
    | p :: ps => (k :: p) :: ps
    | [] => [[k]]
/-- the words of a text -/
def tk (l : List Nat) : List (List Nat) := sp 32 (rp 41 [32, 41] (rp 40 [40, 32] l))
/-- words with blanks between -/
def jn : List (List Nat) → List Nat
  | [] => []
  | a :: r => a ++ r.flatMap fun x => 32 :: x
/-- brackets around words -/
def bk (ws : List (List Nat)) : List Nat := 40 :: (jn ws ++ [41])
end Law
namespace Law
open PySem L2 VL
theorem sz {n : Nat} (h : n ≤ 100) : (n ≤ sizeLine) = True := eq_true (by rw [sizeLine_eq']; omega)
def fnC (fn : Fn) (n : Nat) (ds : List VL.D) (s : Sto) : R VL.D := fn (.ref n :: ds) s
def fnNC (fn : Fn) (n : Nat) (ds : List VL.D) (s : Sto) : R VL.D := (fn (.ref n :: ds) s).noex
theorem fnC_ap {fn : Fn} {n : Nat} {ds : List VL.D} {s : Sto} : fnC fn n ds s = fn (.ref n :: ds) s := rfl
theorem fnNC_ap {fn : Fn} {n : Nat} {ds : List VL.D} {s : Sto} : fnNC fn n ds s = (fn (.ref n :: ds) s).noex := rfl
def callNK (fn : Fn) (ds : List VL.D) (s : Sto) : R VL.D := (fn ds s).noex
theorem callN_ap {fn : Fn} {fa : AF} {env : EnvD} {st : Sto} : callN fn fa env st = (fa env st).bind (callNK fn) := rfl
theorem callNK_ap {fn : Fn} {ds : List VL.D} {s : Sto} : callNK fn ds s = (fn ds s).noex := rfl
theorem exS_ap {c : Str} {env : EnvD} {st : Sto} : exS c env st = .ex c st := rfl
theorem fld_ok {c f : Str} {n : Nat} {fs : List (Str × VL.D)} {v : VL.D} {st : Sto} (h : st[n]? = some (.ins c fs)) (hl : fs.lookup f = some v) : fldK c f (.ref n) st = .ok v st := by
  simp only [fldK, insAt_ins h, Option.bind_some, hl]
theorem methO_at {c m : Str} {fn : Fn} {fo : EF} {fa : AF} {env : EnvD} {st : Sto} {n : Nat} {fs : List (Str × VL.D)} (ho : fo env st = .ok (.ref n) st) (h : st[n]? = some (.ins c fs)) (hm : (fs.lookup m).isNone = true) : methO c m fn fo fa env st = (fa env st).bind (fnC fn n) := by
  unfold methO
  rw [ho, R.bind_ok]
  simp only [insAt_ins h, hm, if_true]
  rfl
theorem methN_at {c m : Str} {fn : Fn} {fo : EF} {fa : AF} {env : EnvD} {st : Sto} {n : Nat} {fs : List (Str × VL.D)} (ho : fo env st = .ok (.ref n) st) (h : st[n]? = some (.ins c fs)) (hm : (fs.lookup m).isNone = true) : methN c m fn fo fa env st = (fa env st).bind (fnNC fn n) := by
  unfold methN
  rw [ho, R.bind_ok]
  simp only [insAt_ins h, hm, if_true]
  rfl
def KO : VL.O := .ins "Keeper" [("machine", .ref 2), ("spots", .ref 9), ("wides", .ref 10), ("sizes", .ref 11), ("texts", .ref 12), ("trees", .ref 13), ("news", .ref 14), ("pours", .ref 15)]
def MO : VL.O := .ins "Machine" [("net", .ref 3), ("parts", .ref 7), ("bags", .ref 8)]
/-- a table: its name, its width, its bag, its news -/
structure Ent where
  n : Str
  w : Int
  b : Nat
  s : Nat
def tnd (nm : Str) (w : Int) : VL.D := .tup [.str "table", .tup [.str nm, .int w], .tup []]
theorem tnd_nd {nm : Str} {w : Int} : Nd (tnd nm w) := ⟨.tup (Nat.le_of_ble_eq_true rfl) (Pl.allC .str (Pl.allC (.tup (Nat.le_of_ble_eq_true rfl) (Pl.allC .str (Pl.allC .int Pl.all0))) (Pl.allC (.tup (Nat.zero_le _) Pl.all0) Pl.all0))), _, rfl⟩
def spD : Nat → List Ent → List (VL.D × VL.D)
  | _, [] => []
  | i, e :: r => (.str e.n, .int (i : Nat)) :: spD (i + 1) r
def mpD (f : Ent → VL.D) (es : List Ent) : List (VL.D × VL.D) := es.map fun e => (.str e.n, f e)
def snE (es : List Ent) : Sn := ⟨es.map fun e => tnd e.n e.w, es.map (·.w)⟩
structure KX (o : VL.O) (es : List Ent) (st : Sto) : Prop where
  k : st[1]? = some KO
  m : st[2]? = some MO
  n : st[3]? = some (NET 4 5 6)
  at_ : At 4 5 6 (snE es) st
  pa : st[7]? = some (.lst (es.map fun _ => .non))
  bg : st[8]? = some (.lst (es.map fun e => .ref e.b))
  sp : st[9]? = some o
  wd : st[10]? = some (.dic (mpD (fun e => .int e.w) es))
  sz : st[11]? = some (.dic (mpD (fun _ => .int 1) es))
  tx : st[12]? = some (.dic [])
  tr : st[13]? = some (.dic [])
  nw : st[14]? = some (.dic (mpD (fun e => .ref e.s) es))
  pr : st[15]? = some (.lst [])
  bs : ∀ e ∈ es, (16 ≤ e.b ∧ st[e.b]? = some (.dic [])) ∧ (16 ≤ e.s ∧ st[e.s]? = some (.dic []))
abbrev KS (es : List Ent) (st : Sto) : Prop := KX (.dic (spD 0 es)) es st
theorem KX.kp {o : VL.O} {es : List Ent} {st S : Sto} {ms : List Nat} (h : KX o es st) (q : Kp ms st S) (hm : ∀ x ∈ ms, 16 ≤ x) (he : ∀ e ∈ es, e.b ∉ ms ∧ e.s ∉ ms) : KX o es S := by
  have g : ∀ {i : Nat} {u : VL.O}, i < 16 → st[i]? = some u → S[i]? = some u := fun hi e => q _ _ (fun z => by have := hm _ z; omega) e
  exact ⟨g (by decide) h.k, g (by decide) h.m, g (by decide) h.n, ⟨g (by decide) h.at_.l, g (by decide) h.at_.w, g (by decide) h.at_.d⟩, g (by decide) h.pa, g (by decide) h.bg, g (by decide) h.sp, g (by decide) h.wd, g (by decide) h.sz, g (by decide) h.tx, g (by decide) h.tr, g (by decide) h.nw, g (by decide) h.pr,
    fun e hx => ⟨⟨(h.bs e hx).1.1, q _ _ (he e hx).1 (h.bs e hx).1.2⟩, (h.bs e hx).2.1, q _ _ (he e hx).2 (h.bs e hx).2.2⟩⟩
theorem KX.kp0 {o : VL.O} {es : List Ent} {st S : Sto} (h : KX o es st) (q : Kp [] st S) : KX o es S := h.kp q (by simp) (by simp)
theorem KX.le {o : VL.O} {es : List Ent} {st S : Sto} (h : KX o es st) (l : Le st S) : KX o es S := h.kp0 (Kp.le l)
theorem KX.lt {o : VL.O} {es : List Ent} {st : Sto} (h : KX o es st) {e : Ent} (he : e ∈ es) : e.b < st.length ∧ e.s < st.length := ⟨(List.getElem?_eq_some_iff.mp (h.bs e he).1.2).1, (List.getElem?_eq_some_iff.mp (h.bs e he).2.2).1⟩
theorem spD_len : ∀ {es : List Ent} {i : Nat}, (spD i es).length = es.length
  | [], _ => rfl
  | _ :: r, i => by rw [spD, List.length_cons, List.length_cons, spD_len]
theorem mpD_len {f : Ent → VL.D} {es : List Ent} : (mpD f es).length = es.length := List.length_map _
theorem spD_keys : ∀ {es : List Ent} {i : Nat}, keysOk (spD i es) = true
  | [], _ => rfl
  | e :: r, i => by
    unfold keysOk
    rw [spD, List.all_cons]
    exact spD_keys (es := r) (i := i + 1)
theorem mpD_keys {f : Ent → VL.D} : ∀ {es : List Ent}, keysOk (mpD f es) = true
  | [] => rfl
  | e :: r => by
    unfold keysOk mpD
    rw [List.map_cons, List.all_cons]
    exact mpD_keys (f := f) (es := r)
theorem spD_app {e : Ent} : ∀ {es : List Ent} {i : Nat}, spD i (es ++ [e]) = spD i es ++ [(.str e.n, .int ((i + es.length : Nat) : Int))]
  | [], i => rfl
  | y :: es, i => by rw [List.cons_append, spD, spD, spD_app, List.cons_append, List.length_cons, show i + 1 + es.length = i + (es.length + 1) by omega]
theorem mpD_app {f : Ent → VL.D} {e : Ent} {es : List Ent} : mpD f (es ++ [e]) = mpD f es ++ [(.str e.n, f e)] := by unfold mpD; rw [List.map_append]; rfl
theorem keyQ_str {a b : Str} : keyQ (.str a) (.str b) = decide (a = b) := rfl
/-- a name looked for -/
theorem look_es (n : Str) : ∀ (es : List Ent) (i : Nat),
    ((∀ e ∈ es, e.n ≠ n) ∧ (∀ f, dget (mpD f es) (.str n) = none) ∧ dget (spD i es) (.str n) = none) ∨
    ∃ j e, es[j]? = some e ∧ e.n = n ∧ (∀ m z, m < j → es[m]? = some z → z.n ≠ n) ∧ (∀ f, dget (mpD f es) (.str n) = some (f e)) ∧ dget (spD i es) (.str n) = some (.int ((i + j : Nat) : Int))
  | [], i => .inl ⟨fun e h => (nomatch h), fun _ => rfl, rfl⟩
  | e :: r, i => by
    by_cases h : e.n = n
    · refine .inr ⟨0, e, rfl, h, (fun m z hm => absurd hm (Nat.not_lt_zero _)), fun f => ?_, ?_⟩
      · unfold dget mpD
        rw [List.map_cons, List.find?_cons, keyQ_str, decide_eq_true h]; rfl
      · unfold dget
        rw [spD, List.find?_cons, keyQ_str, decide_eq_true h]; rfl
    · have q : keyQ (.str e.n) (.str n) = false := by rw [keyQ_str, decide_eq_false h]
      rcases look_es n r (i + 1) with ⟨h1, h2, h3⟩ | ⟨j, z, h1, h2, h3, h4, h5⟩
      · refine .inl ⟨fun x hx => ?_, fun f => ?_, ?_⟩
        · rcases List.mem_cons.mp hx with rfl | hx
          · exact h
          · exact h1 x hx
        · have := h2 f
          unfold dget mpD at this ⊢
          rw [List.map_cons, List.find?_cons, q]; exact this
        · unfold dget at h3 ⊢
          rw [spD, List.find?_cons, q]; exact h3
      · refine .inr ⟨j + 1, z, h1, h2, fun m x hm hx => ?_, fun f => ?_, ?_⟩
        · cases m with
          | zero => cases hx; exact h
          | succ m => exact h3 m x (by omega) hx
        · have := h4 f
          unfold dget mpD at this ⊢
          rw [List.map_cons, List.find?_cons, q]; exact this
        · unfold dget at h5 ⊢
          rw [spD, List.find?_cons, q, show i + (j + 1) = i + 1 + j by omega]; exact h5
section
variable {n : Nat} {kvs : List (VL.D × VL.D)} {k v : VL.D} {st : Sto}
theorem din_yes (h : st[n]? = some (.dic kvs)) (hk : keysOk kvs = true) (hi : isKD k = true) (hd : dget kvs k = some v) : dinD false k (.ref n) st = .ok (.bl true) st ∧ dinD true k (.ref n) st = .ok (.bl false) st := by
  constructor <;> simp only [dinD, h, hk, hi, Bool.and_self, if_true, hd] <;> rfl
theorem din_no (h : st[n]? = some (.dic kvs)) (hk : keysOk kvs = true) (hi : isKD k = true) (hd : dget kvs k = none) : dinD false k (.ref n) st = .ok (.bl false) st ∧ dinD true k (.ref n) st = .ok (.bl true) st := by
  constructor <;> simp only [dinD, h, hk, hi, Bool.and_self, if_true, hd] <;> rfl
theorem dix_ok (h : st[n]? = some (.dic kvs)) (hk : keysOk kvs = true) (hi : isKD k = true) (hd : dget kvs k = some v) : dixD (.ref n) k st = .ok v st := by
  simp only [dixD, h, hk, hi, Bool.and_self, if_true, hd]
theorem dputS_ap {fv fo fk : EF} {env : EnvD} {st s1 s2 s3 : Sto} {v k : VL.D} {n : Nat} {kvs : List (VL.D × VL.D)} (h1 : fv env st = .ok v s1) (h2 : fo env s1 = .ok (.ref n) s2) (h3 : fk env s2 = .ok k s3) (h4 : s3[n]? = some (.dic kvs)) (h5 : keysOk kvs = true) (h6 : isKD k = true) (h7 : kvs.length < sizeLine) : dputS fv fo fk env st = .ok (.nx env) (s3.set n (.dic (dput kvs k v))) := by
  unfold dputS
  rw [h1, R.bind_ok, h2, R.bind_ok, h3, R.bind_ok]
  simp only [h4, h5, h6, decide_eq_true h7, Bool.and_self, if_true]
theorem dput_new (hd : dget kvs k = none) : dput kvs k v = kvs ++ [(k, v)] := by
  unfold dput
  rw [if_neg]
  intro z
  unfold dget at hd
  rw [Option.map_eq_none_iff, List.find?_eq_none] at hd
  obtain ⟨p, hp, hq⟩ := List.any_eq_true.mp z
  exact hd p hp hq
end
theorem set_back {st : Sto} {n : Nat} {o u : VL.O} (h : st[n]? = some o) : (st.set n u).set n o = st := by
  rw [List.set_set]
  refine List.ext_getElem? fun i => ?_
  by_cases e : n = i
  · subst e; rw [List.getElem?_set_self (List.getElem?_eq_some_iff.mp h).1, h]
  · rw [List.getElem?_set_ne e]
theorem lock_go {n : Nat} {kvs : List (VL.D × VL.D)} {fo f : EF} {env : EnvD} {st j : Sto} {d : VL.D} (hn : fo env st = .ok (.ref n) st) (h : st[n]? = some (.dic kvs)) (hk : keysOk kvs = true) (hf : f env (st.set n (.fd kvs)) = .ok d ((st.set n (.fd kvs)) ++ j)) :
    lockE fo f env st = .ok d (st ++ j) := by
  have e : lkN fo env st = some n := by unfold lkN; rw [hn]
  have hl := (List.getElem?_eq_some_iff.mp h).1
  have g : ((st.set n (.fd kvs)) ++ j)[n]? = some (.fd kvs) := get_app (List.getElem?_set_self hl)
  unfold lockE
  rw [e]
  show lkE n f env st = _
  simp only [lkE, h, hk, if_true, hf, R.bind_ok, unlK, g]
  rw [List.set_append_left _ _ (by rw [List.length_set]; exact hl), set_back h]
theorem lockS_go {n : Nat} {kvs : List (VL.D × VL.D)} {fo : EF} {f : SF} {env : EnvD} {st j : Sto} {d : Fl} (hn : fo env st = .ok (.ref n) st) (h : st[n]? = some (.dic kvs)) (hk : keysOk kvs = true) (hf : f env (st.set n (.fd kvs)) = .ok d ((st.set n (.fd kvs)) ++ j)) :
    lockS fo f env st = .ok d (st ++ j) := by
  have e : lkN fo env st = some n := by unfold lkN; rw [hn]
  have hl := (List.getElem?_eq_some_iff.mp h).1
  have g : ((st.set n (.fd kvs)) ++ j)[n]? = some (.fd kvs) := get_app (List.getElem?_set_self hl)
  unfold lockS
  rw [e]
  show lkS n f env st = _
  simp only [lkS, h, hk, if_true, hf, R.bind_ok, unlK, g]
  rw [List.set_append_left _ _ (by rw [List.length_set]; exact hl), set_back h]
theorem told_ok {n : Nat} {st : Sto} (h : st[n]? = some (.dic [])) : f_told [.ref n] st = .ok (.ref (st.length + 1)) (st ++ [.lst [], .lst []]) := by
  have hl := (List.getElem?_eq_some_iff.mp h).1
  have q : q0_told [some (.ref n), none, none] (st.set n (.fd [])) = .ok (.ref st.length) ((st.set n (.fd [])) ++ [.lst []]) := by
    have g : (st.set n (.fd []))[n]? = some (.fd []) := List.getElem?_set_self hl
    have it : itmF (varF 0) [some (.ref n), none, none] (st.set n (.fd [])) = .ok ([], []) (st.set n (.fd [])) := by
      unfold itmF
      rw [varF_ap]
      show itmD (.ref n) _ = _
      simp only [itmD, g]; rfl
    unfold q0_told lcF
    rw [it, R.bind_ok]
    simp only []
    rw [lcL_nil ChkOk.nil, R.bind_ok, List.length_set]
  have lk := lock_go (fo := varF 0) (env := [some (.ref n), none, none]) rfl h rfl q
  have s0 : sort0 (.ref st.length) (.glb "rank") (st ++ [.lst []]) = .ok (.ref (st.length + 1)) (st ++ [.lst [], .lst []]) := by
    simp only [sort0, listAt_last]
    rw [newO_ap, List.length_append, List.append_assoc]; rfl
  simp -implicitDefEqProofs +decide only [varF_ap, cF_ap, opF_ap, opK_ap, bF_ap, boolK_ap, andT_ap, andK_ap, orT_ap, orK_ap, notT_ap, notK_ap, yesT_ap, andV_ap, andVK_ap, orV_ap, orVK_ap, notV_ap, notVK_ap, ifF_ap, ifFK_ap, nilA_ap, consA_ap, consK_ap, consJ_ap, tupA_ap, lstA_ap, newO_ap, dicF_ap, callF_ap, un1_ap, methF_ap, nonO_ap, someO_ap, someK_ap, slF_ap, slK_ap, slJ_ap, itF_ap, itA_ap, nilS_ap, bkS_ap, ctS_ap, seqS_ap, seqK_nx, seqK_rt, seqK_bk, seqK_ct, dropS_ap, dropK_ap, retS_ap, retK_ap, retN_ap, ifS_ap, ifK_ap, setS_ap, setK_ap, asgS_ap, asgK_ap, asgJ_ap, nameG_ap, nilG_ap, consG_ap, consGK_ap, fnF_ap, fnK_nx, fnK_rt, forS_ap, forK_ap, negD_ap, addI_ap, varK_ap, startE, yes2, isN, List.map_cons, List.map_nil, List.length_cons, List.length_nil, List.replicate, List.append_nil, List.cons_append, List.nil_append, List.getElem?_cons_zero, List.getElem?_cons_succ, List.set_cons_zero, List.set_cons_succ, R.bind_ok, R.bind_ex, R.bind_bad, R.noex_ok, if_true, if_false, Bool.false_eq_true, Bool.true_eq_false, ite_true, ite_false, reduceIte, Nat.reduceAdd, Nat.reduceSub, Nat.zero_add, Nat.sub_self, Nat.sub_zero, decide_true, decide_false, Bool.not_true, Bool.not_false, subD_ap, ltD_ap, leD_ap, gtD_ap, geD_ap, mulD_ap, modD_ap, divD_ap, powD_ap, tupK_ok, lstK_ok, methK_ok, tupG_ok, eqS_t, eqS_f, neS_t, neS_f, eqI_ap, neI_ap, inT_nil, inT_hit, inT_miss, ne_eq, not_false_eq_true, f_told, b_told, lk, s0]
end Law
namespace Law
open PySem L2 VL
/-- whatever the store, it is asked whether d is a name: b -/
def Asks (d : VL.D) (b : Bool) (st : Sto) : Prop := ∀ S, Kp [] st S → ∃ S', f_is_name [d] S = .ok (.bl b) S' ∧ Le S S'
theorem Asks.kp {d : VL.D} {b : Bool} {st S : Sto} (h : Asks d b st) (q : Kp [] st S) : Asks d b S := fun T k => h T (q.trans k)
theorem asks_str {s : Str} {st : Sto} (h : s.length ≤ 100000) : Asks (.str s) (isNm s) st := fun S _ => is_name_ok h
section
variable {o : VL.O} {es : List Ent} {st : Sto}
theorem KX.fM (h : KX o es st) : fldK "Keeper" "machine" (.ref 1) st = .ok (.ref 2) st := fld_ok h.k rfl
theorem KX.fsp (h : KX o es st) : fldK "Keeper" "spots" (.ref 1) st = .ok (.ref 9) st := fld_ok h.k rfl
theorem KX.fwd (h : KX o es st) : fldK "Keeper" "wides" (.ref 1) st = .ok (.ref 10) st := fld_ok h.k rfl
theorem KX.fsz (h : KX o es st) : fldK "Keeper" "sizes" (.ref 1) st = .ok (.ref 11) st := fld_ok h.k rfl
theorem KX.ftx (h : KX o es st) : fldK "Keeper" "texts" (.ref 1) st = .ok (.ref 12) st := fld_ok h.k rfl
theorem KX.ftr (h : KX o es st) : fldK "Keeper" "trees" (.ref 1) st = .ok (.ref 13) st := fld_ok h.k rfl
theorem KX.fnw (h : KX o es st) : fldK "Keeper" "news" (.ref 1) st = .ok (.ref 14) st := fld_ok h.k rfl
theorem KX.fpr (h : KX o es st) : fldK "Keeper" "pours" (.ref 1) st = .ok (.ref 15) st := fld_ok h.k rfl
theorem KX.fnet (h : KX o es st) : fldK "Machine" "net" (.ref 2) st = .ok (.ref 3) st := fld_ok h.m rfl
theorem KX.fpa (h : KX o es st) : fldK "Machine" "parts" (.ref 2) st = .ok (.ref 7) st := fld_ok h.m rfl
theorem KX.fbg (h : KX o es st) : fldK "Machine" "bags" (.ref 2) st = .ok (.ref 8) st := fld_ok h.m rfl
theorem KX.mK (h : KX o es st) {m : Str} (hm : (List.lookup m [(Str.ofString "machine", VL.D.ref 2), ("spots", .ref 9), ("wides", .ref 10), ("sizes", .ref 11), ("texts", .ref 12), ("trees", .ref 13), ("news", .ref 14), ("pours", .ref 15)]).isNone = true) (fn : Fn) (fa : AF) (e : EnvD) :
    methO "Keeper" m fn (varF 0) fa (some (.ref 1) :: e) st = (fa (some (.ref 1) :: e) st).bind (fnC fn 1) ∧ methN "Keeper" m fn (varF 0) fa (some (.ref 1) :: e) st = (fa (some (.ref 1) :: e) st).bind (fnNC fn 1) :=
  ⟨methO_at rfl h.k hm, methN_at rfl h.k hm⟩
theorem KX.mM (h : KX o es st) {m : Str} (hm : (List.lookup m [(Str.ofString "net", VL.D.ref 3), ("parts", .ref 7), ("bags", .ref 8)]).isNone = true) (fn : Fn) (fa : AF) (e : EnvD) :
    methO "Machine" m fn (un1 (fldK "Keeper" "machine") (varF 0)) fa (some (.ref 1) :: e) st = (fa (some (.ref 1) :: e) st).bind (fnC fn 2) ∧ methN "Machine" m fn (un1 (fldK "Keeper" "machine") (varF 0)) fa (some (.ref 1) :: e) st = (fa (some (.ref 1) :: e) st).bind (fnNC fn 2) :=
  ⟨methO_at h.fM h.m hm, methN_at h.fM h.m hm⟩
theorem rows_ok (h : KX o es st) {j : Nat} {e : Ent} (he : es[j]? = some e) : f_Machine_rows_of [.ref 2, .int (j : Nat)] st = .ok (.ref st.length) (st ++ [.dic []]) := by
  have ix : ixD (.ref 8) (.int (j : Nat)) st = .ok (.ref e.b) st := ixD_list (listAt_lst h.bg) (by rw [List.getElem?_map, he]; rfl)
  have dd : dictD [.ref e.b] st = .ok (.ref st.length) (st ++ [.dic []]) := by
    simp only [dictD, (h.bs e (List.mem_of_getElem? he)).1.2]; rfl
  have f := h.fbg
  simp -implicitDefEqProofs +decide only [varF_ap, cF_ap, opF_ap, opK_ap, bF_ap, boolK_ap, andT_ap, andK_ap, orT_ap, orK_ap, notT_ap, notK_ap, yesT_ap, andV_ap, andVK_ap, orV_ap, orVK_ap, notV_ap, notVK_ap, ifF_ap, ifFK_ap, nilA_ap, consA_ap, consK_ap, consJ_ap, tupA_ap, lstA_ap, newO_ap, dicF_ap, callF_ap, un1_ap, methF_ap, nonO_ap, someO_ap, someK_ap, slF_ap, slK_ap, slJ_ap, itF_ap, itA_ap, nilS_ap, bkS_ap, ctS_ap, seqS_ap, seqK_nx, seqK_rt, seqK_bk, seqK_ct, dropS_ap, dropK_ap, retS_ap, retK_ap, retN_ap, ifS_ap, ifK_ap, setS_ap, setK_ap, asgS_ap, asgK_ap, asgJ_ap, nameG_ap, nilG_ap, consG_ap, consGK_ap, fnF_ap, fnK_nx, fnK_rt, forS_ap, forK_ap, negD_ap, addI_ap, varK_ap, startE, yes2, isN, List.map_cons, List.map_nil, List.length_cons, List.length_nil, List.replicate, List.append_nil, List.cons_append, List.nil_append, List.getElem?_cons_zero, List.getElem?_cons_succ, List.set_cons_zero, List.set_cons_succ, R.bind_ok, R.bind_ex, R.bind_bad, R.noex_ok, if_true, if_false, Bool.false_eq_true, Bool.true_eq_false, ite_true, ite_false, reduceIte, Nat.reduceAdd, Nat.reduceSub, Nat.zero_add, Nat.sub_self, Nat.sub_zero, decide_true, decide_false, Bool.not_true, Bool.not_false, subD_ap, ltD_ap, leD_ap, gtD_ap, geD_ap, mulD_ap, modD_ap, divD_ap, powD_ap, tupK_ok, lstK_ok, methK_ok, tupG_ok, eqS_t, eqS_f, neS_t, neS_f, eqI_ap, neI_ap, inT_nil, inT_hit, inT_miss, ne_eq, not_false_eq_true, f_Machine_rows_of, b_Machine_rows_of, f, ix, dd]
/-- refused -/
def Rf (d : VL.D) (st : Sto) : Prop := ∀ S, Kp [] st S → ∃ S', f_Keeper_node [.ref 1, d] S = .ex "NoName" S' ∧ Kp [] S S'
/-- found -/
def Fd (n : Str) (j : Nat) (st : Sto) : Prop := ∀ S, Kp [] st S → ∃ S', f_Keeper_node [.ref 1, .str n] S = .ok (.int (j : Nat)) S' ∧ Kp [] S S'
theorem rf_no {d : VL.D} (h : KS es st) (a : Asks d false st) : Rf d st := fun S q => by
  obtain ⟨S', e, l⟩ := a S q
  have hS := h.kp0 q
  exact ⟨S', by simp -implicitDefEqProofs +decide only [varF_ap, cF_ap, opF_ap, opK_ap, bF_ap, boolK_ap, andT_ap, andK_ap, orT_ap, orK_ap, notT_ap, notK_ap, yesT_ap, andV_ap, andVK_ap, orV_ap, orVK_ap, notV_ap, notVK_ap, ifF_ap, ifFK_ap, nilA_ap, consA_ap, consK_ap, consJ_ap, tupA_ap, lstA_ap, newO_ap, dicF_ap, callF_ap, un1_ap, methF_ap, nonO_ap, someO_ap, someK_ap, slF_ap, slK_ap, slJ_ap, itF_ap, itA_ap, nilS_ap, bkS_ap, ctS_ap, seqS_ap, seqK_nx, seqK_rt, seqK_bk, seqK_ct, dropS_ap, dropK_ap, retS_ap, retK_ap, retN_ap, ifS_ap, ifK_ap, setS_ap, setK_ap, asgS_ap, asgK_ap, asgJ_ap, nameG_ap, nilG_ap, consG_ap, consGK_ap, fnF_ap, fnK_nx, fnK_rt, forS_ap, forK_ap, negD_ap, addI_ap, varK_ap, startE, yes2, isN, List.map_cons, List.map_nil, List.length_cons, List.length_nil, List.replicate, List.append_nil, List.cons_append, List.nil_append, List.getElem?_cons_zero, List.getElem?_cons_succ, List.set_cons_zero, List.set_cons_succ, R.bind_ok, R.bind_ex, R.bind_bad, R.noex_ok, if_true, if_false, Bool.false_eq_true, Bool.true_eq_false, ite_true, ite_false, reduceIte, Nat.reduceAdd, Nat.reduceSub, Nat.zero_add, Nat.sub_self, Nat.sub_zero, decide_true, decide_false, Bool.not_true, Bool.not_false, subD_ap, ltD_ap, leD_ap, gtD_ap, geD_ap, mulD_ap, modD_ap, divD_ap, powD_ap, tupK_ok, lstK_ok, methK_ok, tupG_ok, eqS_t, eqS_f, neS_t, neS_f, eqI_ap, neI_ap, inT_nil, inT_hit, inT_miss, ne_eq, not_false_eq_true, f_Keeper_node, b_Keeper_node, callN_ap, callNK_ap, e, exS_ap], Kp.le l⟩
theorem rf_miss {n : Str} (h : KS es st) (hn : isNm n = true) (hl : n.length ≤ 100000) (hm : dget (spD 0 es) (.str n) = none) : Rf (.str n) st := fun S q => by
  obtain ⟨S', e, l⟩ := asks_str (s := n) (st := st) hl S q
  rw [hn] at e
  have hS := (h.kp0 q).le l
  have f := hS.fsp
  have dn := (din_no hS.sp spD_keys (k := .str n) rfl hm).2
  exact ⟨S', by simp -implicitDefEqProofs +decide only [varF_ap, cF_ap, opF_ap, opK_ap, bF_ap, boolK_ap, andT_ap, andK_ap, orT_ap, orK_ap, notT_ap, notK_ap, yesT_ap, andV_ap, andVK_ap, orV_ap, orVK_ap, notV_ap, notVK_ap, ifF_ap, ifFK_ap, nilA_ap, consA_ap, consK_ap, consJ_ap, tupA_ap, lstA_ap, newO_ap, dicF_ap, callF_ap, un1_ap, methF_ap, nonO_ap, someO_ap, someK_ap, slF_ap, slK_ap, slJ_ap, itF_ap, itA_ap, nilS_ap, bkS_ap, ctS_ap, seqS_ap, seqK_nx, seqK_rt, seqK_bk, seqK_ct, dropS_ap, dropK_ap, retS_ap, retK_ap, retN_ap, ifS_ap, ifK_ap, setS_ap, setK_ap, asgS_ap, asgK_ap, asgJ_ap, nameG_ap, nilG_ap, consG_ap, consGK_ap, fnF_ap, fnK_nx, fnK_rt, forS_ap, forK_ap, negD_ap, addI_ap, varK_ap, startE, yes2, isN, List.map_cons, List.map_nil, List.length_cons, List.length_nil, List.replicate, List.append_nil, List.cons_append, List.nil_append, List.getElem?_cons_zero, List.getElem?_cons_succ, List.set_cons_zero, List.set_cons_succ, R.bind_ok, R.bind_ex, R.bind_bad, R.noex_ok, if_true, if_false, Bool.false_eq_true, Bool.true_eq_false, ite_true, ite_false, reduceIte, Nat.reduceAdd, Nat.reduceSub, Nat.zero_add, Nat.sub_self, Nat.sub_zero, decide_true, decide_false, Bool.not_true, Bool.not_false, subD_ap, ltD_ap, leD_ap, gtD_ap, geD_ap, mulD_ap, modD_ap, divD_ap, powD_ap, tupK_ok, lstK_ok, methK_ok, tupG_ok, eqS_t, eqS_f, neS_t, neS_f, eqI_ap, neI_ap, inT_nil, inT_hit, inT_miss, ne_eq, not_false_eq_true, f_Keeper_node, b_Keeper_node, callN_ap, callNK_ap, e, f, dn, exS_ap], Kp.le l⟩
theorem fd_ok {n : Str} {j : Nat} (h : KS es st) (hn : isNm n = true) (hl : n.length ≤ 100000) (hm : dget (spD 0 es) (.str n) = some (.int (j : Nat))) : Fd n j st := fun S q => by
  obtain ⟨S', e, l⟩ := asks_str (s := n) (st := st) hl S q
  rw [hn] at e
  have hS := (h.kp0 q).le l
  have f := hS.fsp
  have dn := (din_yes hS.sp spD_keys (k := .str n) rfl hm).2
  have dx := dix_ok hS.sp spD_keys (k := .str n) rfl hm
  exact ⟨S', by simp -implicitDefEqProofs +decide only [varF_ap, cF_ap, opF_ap, opK_ap, bF_ap, boolK_ap, andT_ap, andK_ap, orT_ap, orK_ap, notT_ap, notK_ap, yesT_ap, andV_ap, andVK_ap, orV_ap, orVK_ap, notV_ap, notVK_ap, ifF_ap, ifFK_ap, nilA_ap, consA_ap, consK_ap, consJ_ap, tupA_ap, lstA_ap, newO_ap, dicF_ap, callF_ap, un1_ap, methF_ap, nonO_ap, someO_ap, someK_ap, slF_ap, slK_ap, slJ_ap, itF_ap, itA_ap, nilS_ap, bkS_ap, ctS_ap, seqS_ap, seqK_nx, seqK_rt, seqK_bk, seqK_ct, dropS_ap, dropK_ap, retS_ap, retK_ap, retN_ap, ifS_ap, ifK_ap, setS_ap, setK_ap, asgS_ap, asgK_ap, asgJ_ap, nameG_ap, nilG_ap, consG_ap, consGK_ap, fnF_ap, fnK_nx, fnK_rt, forS_ap, forK_ap, negD_ap, addI_ap, varK_ap, startE, yes2, isN, List.map_cons, List.map_nil, List.length_cons, List.length_nil, List.replicate, List.append_nil, List.cons_append, List.nil_append, List.getElem?_cons_zero, List.getElem?_cons_succ, List.set_cons_zero, List.set_cons_succ, R.bind_ok, R.bind_ex, R.bind_bad, R.noex_ok, if_true, if_false, Bool.false_eq_true, Bool.true_eq_false, ite_true, ite_false, reduceIte, Nat.reduceAdd, Nat.reduceSub, Nat.zero_add, Nat.sub_self, Nat.sub_zero, decide_true, decide_false, Bool.not_true, Bool.not_false, subD_ap, ltD_ap, leD_ap, gtD_ap, geD_ap, mulD_ap, modD_ap, divD_ap, powD_ap, tupK_ok, lstK_ok, methK_ok, tupG_ok, eqS_t, eqS_f, neS_t, neS_f, eqI_ap, neI_ap, inT_nil, inT_hit, inT_miss, ne_eq, not_false_eq_true, f_Keeper_node, b_Keeper_node, callN_ap, callNK_ap, e, f, dn, dx], Kp.le l⟩
section
variable {d : VL.D}
theorem rf_ask (h : KX o es st) (r : Rf d st) : ∃ S', f_Keeper_ask [.ref 1, d] st = .ex "NoName" S' ∧ Kp [] st S' := by
  obtain ⟨S', e, q⟩ := r st (Kp.refl _)
  have m1 := fun fa e => (h.mM (m := "rows_of") (by decide) f_Machine_rows_of fa e).2
  have m2 := fun fa e => (h.mK (m := "node") (by decide) f_Keeper_node fa e).1
  exact ⟨S', by simp -implicitDefEqProofs +decide only [varF_ap, cF_ap, opF_ap, opK_ap, bF_ap, boolK_ap, andT_ap, andK_ap, orT_ap, orK_ap, notT_ap, notK_ap, yesT_ap, andV_ap, andVK_ap, orV_ap, orVK_ap, notV_ap, notVK_ap, ifF_ap, ifFK_ap, nilA_ap, consA_ap, consK_ap, consJ_ap, tupA_ap, lstA_ap, newO_ap, dicF_ap, callF_ap, un1_ap, methF_ap, nonO_ap, someO_ap, someK_ap, slF_ap, slK_ap, slJ_ap, itF_ap, itA_ap, nilS_ap, bkS_ap, ctS_ap, seqS_ap, seqK_nx, seqK_rt, seqK_bk, seqK_ct, dropS_ap, dropK_ap, retS_ap, retK_ap, retN_ap, ifS_ap, ifK_ap, setS_ap, setK_ap, asgS_ap, asgK_ap, asgJ_ap, nameG_ap, nilG_ap, consG_ap, consGK_ap, fnF_ap, fnK_nx, fnK_rt, forS_ap, forK_ap, negD_ap, addI_ap, varK_ap, startE, yes2, isN, List.map_cons, List.map_nil, List.length_cons, List.length_nil, List.replicate, List.append_nil, List.cons_append, List.nil_append, List.getElem?_cons_zero, List.getElem?_cons_succ, List.set_cons_zero, List.set_cons_succ, R.bind_ok, R.bind_ex, R.bind_bad, R.noex_ok, if_true, if_false, Bool.false_eq_true, Bool.true_eq_false, ite_true, ite_false, reduceIte, Nat.reduceAdd, Nat.reduceSub, Nat.zero_add, Nat.sub_self, Nat.sub_zero, decide_true, decide_false, Bool.not_true, Bool.not_false, subD_ap, ltD_ap, leD_ap, gtD_ap, geD_ap, mulD_ap, modD_ap, divD_ap, powD_ap, tupK_ok, lstK_ok, methK_ok, tupG_ok, eqS_t, eqS_f, neS_t, neS_f, eqI_ap, neI_ap, inT_nil, inT_hit, inT_miss, ne_eq, not_false_eq_true, f_Keeper_ask, b_Keeper_ask, callN_ap, m1, m2, fnC_ap, e], q⟩
theorem rf_told (h : KX o es st) (r : Rf d st) : ∃ S', f_Keeper_told [.ref 1, d] st = .ex "NoName" S' ∧ Kp [] st S' := by
  obtain ⟨S', e, q⟩ := r st (Kp.refl _)
  have m2 := fun fa e => (h.mK (m := "node") (by decide) f_Keeper_node fa e).1
  exact ⟨S', by simp -implicitDefEqProofs +decide only [varF_ap, cF_ap, opF_ap, opK_ap, bF_ap, boolK_ap, andT_ap, andK_ap, orT_ap, orK_ap, notT_ap, notK_ap, yesT_ap, andV_ap, andVK_ap, orV_ap, orVK_ap, notV_ap, notVK_ap, ifF_ap, ifFK_ap, nilA_ap, consA_ap, consK_ap, consJ_ap, tupA_ap, lstA_ap, newO_ap, dicF_ap, callF_ap, un1_ap, methF_ap, nonO_ap, someO_ap, someK_ap, slF_ap, slK_ap, slJ_ap, itF_ap, itA_ap, nilS_ap, bkS_ap, ctS_ap, seqS_ap, seqK_nx, seqK_rt, seqK_bk, seqK_ct, dropS_ap, dropK_ap, retS_ap, retK_ap, retN_ap, ifS_ap, ifK_ap, setS_ap, setK_ap, asgS_ap, asgK_ap, asgJ_ap, nameG_ap, nilG_ap, consG_ap, consGK_ap, fnF_ap, fnK_nx, fnK_rt, forS_ap, forK_ap, negD_ap, addI_ap, varK_ap, startE, yes2, isN, List.map_cons, List.map_nil, List.length_cons, List.length_nil, List.replicate, List.append_nil, List.cons_append, List.nil_append, List.getElem?_cons_zero, List.getElem?_cons_succ, List.set_cons_zero, List.set_cons_succ, R.bind_ok, R.bind_ex, R.bind_bad, R.noex_ok, if_true, if_false, Bool.false_eq_true, Bool.true_eq_false, ite_true, ite_false, reduceIte, Nat.reduceAdd, Nat.reduceSub, Nat.zero_add, Nat.sub_self, Nat.sub_zero, decide_true, decide_false, Bool.not_true, Bool.not_false, subD_ap, ltD_ap, leD_ap, gtD_ap, geD_ap, mulD_ap, modD_ap, divD_ap, powD_ap, tupK_ok, lstK_ok, methK_ok, tupG_ok, eqS_t, eqS_f, neS_t, neS_f, eqI_ap, neI_ap, inT_nil, inT_hit, inT_miss, ne_eq, not_false_eq_true, f_Keeper_told, b_Keeper_told, m2, fnC_ap, e], q⟩
theorem rf_plainly (h : KX o es st) (r : Rf d st) : ∃ S', f_Keeper_plainly [.ref 1, d] st = .ex "NoName" S' ∧ Kp [] st S' := by
  obtain ⟨S', e, q⟩ := r st (Kp.refl _)
  have m2 := fun fa e => (h.mK (m := "node") (by decide) f_Keeper_node fa e).1
  exact ⟨S', by simp -implicitDefEqProofs +decide only [varF_ap, cF_ap, opF_ap, opK_ap, bF_ap, boolK_ap, andT_ap, andK_ap, orT_ap, orK_ap, notT_ap, notK_ap, yesT_ap, andV_ap, andVK_ap, orV_ap, orVK_ap, notV_ap, notVK_ap, ifF_ap, ifFK_ap, nilA_ap, consA_ap, consK_ap, consJ_ap, tupA_ap, lstA_ap, newO_ap, dicF_ap, callF_ap, un1_ap, methF_ap, nonO_ap, someO_ap, someK_ap, slF_ap, slK_ap, slJ_ap, itF_ap, itA_ap, nilS_ap, bkS_ap, ctS_ap, seqS_ap, seqK_nx, seqK_rt, seqK_bk, seqK_ct, dropS_ap, dropK_ap, retS_ap, retK_ap, retN_ap, ifS_ap, ifK_ap, setS_ap, setK_ap, asgS_ap, asgK_ap, asgJ_ap, nameG_ap, nilG_ap, consG_ap, consGK_ap, fnF_ap, fnK_nx, fnK_rt, forS_ap, forK_ap, negD_ap, addI_ap, varK_ap, startE, yes2, isN, List.map_cons, List.map_nil, List.length_cons, List.length_nil, List.replicate, List.append_nil, List.cons_append, List.nil_append, List.getElem?_cons_zero, List.getElem?_cons_succ, List.set_cons_zero, List.set_cons_succ, R.bind_ok, R.bind_ex, R.bind_bad, R.noex_ok, if_true, if_false, Bool.false_eq_true, Bool.true_eq_false, ite_true, ite_false, reduceIte, Nat.reduceAdd, Nat.reduceSub, Nat.zero_add, Nat.sub_self, Nat.sub_zero, decide_true, decide_false, Bool.not_true, Bool.not_false, subD_ap, ltD_ap, leD_ap, gtD_ap, geD_ap, mulD_ap, modD_ap, divD_ap, powD_ap, tupK_ok, lstK_ok, methK_ok, tupG_ok, eqS_t, eqS_f, neS_t, neS_f, eqI_ap, neI_ap, inT_nil, inT_hit, inT_miss, ne_eq, not_false_eq_true, f_Keeper_plainly, b_Keeper_plainly, m2, fnC_ap, e], q⟩
theorem rf_width (h : KX o es st) (r : Rf d st) : ∃ S', f_Keeper_width [.ref 1, d] st = .ex "NoName" S' ∧ Kp [] st S' := by
  obtain ⟨S', e, q⟩ := r st (Kp.refl _)
  have m2 := fun fa e => (h.mK (m := "node") (by decide) f_Keeper_node fa e).1
  exact ⟨S', by simp -implicitDefEqProofs +decide only [varF_ap, cF_ap, opF_ap, opK_ap, bF_ap, boolK_ap, andT_ap, andK_ap, orT_ap, orK_ap, notT_ap, notK_ap, yesT_ap, andV_ap, andVK_ap, orV_ap, orVK_ap, notV_ap, notVK_ap, ifF_ap, ifFK_ap, nilA_ap, consA_ap, consK_ap, consJ_ap, tupA_ap, lstA_ap, newO_ap, dicF_ap, callF_ap, un1_ap, methF_ap, nonO_ap, someO_ap, someK_ap, slF_ap, slK_ap, slJ_ap, itF_ap, itA_ap, nilS_ap, bkS_ap, ctS_ap, seqS_ap, seqK_nx, seqK_rt, seqK_bk, seqK_ct, dropS_ap, dropK_ap, retS_ap, retK_ap, retN_ap, ifS_ap, ifK_ap, setS_ap, setK_ap, asgS_ap, asgK_ap, asgJ_ap, nameG_ap, nilG_ap, consG_ap, consGK_ap, fnF_ap, fnK_nx, fnK_rt, forS_ap, forK_ap, negD_ap, addI_ap, varK_ap, startE, yes2, isN, List.map_cons, List.map_nil, List.length_cons, List.length_nil, List.replicate, List.append_nil, List.cons_append, List.nil_append, List.getElem?_cons_zero, List.getElem?_cons_succ, List.set_cons_zero, List.set_cons_succ, R.bind_ok, R.bind_ex, R.bind_bad, R.noex_ok, if_true, if_false, Bool.false_eq_true, Bool.true_eq_false, ite_true, ite_false, reduceIte, Nat.reduceAdd, Nat.reduceSub, Nat.zero_add, Nat.sub_self, Nat.sub_zero, decide_true, decide_false, Bool.not_true, Bool.not_false, subD_ap, ltD_ap, leD_ap, gtD_ap, geD_ap, mulD_ap, modD_ap, divD_ap, powD_ap, tupK_ok, lstK_ok, methK_ok, tupG_ok, eqS_t, eqS_f, neS_t, neS_f, eqI_ap, neI_ap, inT_nil, inT_hit, inT_miss, ne_eq, not_false_eq_true, f_Keeper_width, b_Keeper_width, m2, fnC_ap, e], q⟩
theorem rf_size (h : KX o es st) (r : Rf d st) : ∃ S', f_Keeper_size [.ref 1, d] st = .ex "NoName" S' ∧ Kp [] st S' := by
  obtain ⟨S', e, q⟩ := r st (Kp.refl _)
  have m2 := fun fa e => (h.mK (m := "node") (by decide) f_Keeper_node fa e).1
  exact ⟨S', by simp -implicitDefEqProofs +decide only [varF_ap, cF_ap, opF_ap, opK_ap, bF_ap, boolK_ap, andT_ap, andK_ap, orT_ap, orK_ap, notT_ap, notK_ap, yesT_ap, andV_ap, andVK_ap, orV_ap, orVK_ap, notV_ap, notVK_ap, ifF_ap, ifFK_ap, nilA_ap, consA_ap, consK_ap, consJ_ap, tupA_ap, lstA_ap, newO_ap, dicF_ap, callF_ap, un1_ap, methF_ap, nonO_ap, someO_ap, someK_ap, slF_ap, slK_ap, slJ_ap, itF_ap, itA_ap, nilS_ap, bkS_ap, ctS_ap, seqS_ap, seqK_nx, seqK_rt, seqK_bk, seqK_ct, dropS_ap, dropK_ap, retS_ap, retK_ap, retN_ap, ifS_ap, ifK_ap, setS_ap, setK_ap, asgS_ap, asgK_ap, asgJ_ap, nameG_ap, nilG_ap, consG_ap, consGK_ap, fnF_ap, fnK_nx, fnK_rt, forS_ap, forK_ap, negD_ap, addI_ap, varK_ap, startE, yes2, isN, List.map_cons, List.map_nil, List.length_cons, List.length_nil, List.replicate, List.append_nil, List.cons_append, List.nil_append, List.getElem?_cons_zero, List.getElem?_cons_succ, List.set_cons_zero, List.set_cons_succ, R.bind_ok, R.bind_ex, R.bind_bad, R.noex_ok, if_true, if_false, Bool.false_eq_true, Bool.true_eq_false, ite_true, ite_false, reduceIte, Nat.reduceAdd, Nat.reduceSub, Nat.zero_add, Nat.sub_self, Nat.sub_zero, decide_true, decide_false, Bool.not_true, Bool.not_false, subD_ap, ltD_ap, leD_ap, gtD_ap, geD_ap, mulD_ap, modD_ap, divD_ap, powD_ap, tupK_ok, lstK_ok, methK_ok, tupG_ok, eqS_t, eqS_f, neS_t, neS_f, eqI_ap, neI_ap, inT_nil, inT_hit, inT_miss, ne_eq, not_false_eq_true, f_Keeper_size, b_Keeper_size, m2, fnC_ap, e], q⟩
end
section
variable {n : Str} {j : Nat} {e : Ent}
theorem fd_ask (h : KS es st) (f : Fd n j st) (he : es[j]? = some e) : ∃ r S', f_Keeper_ask [.ref 1, .str n] st = .ok (.ref r) S' ∧ S'[r]? = some (.lst []) ∧ Kp [] st S' ∧ st.length ≤ r := by
  obtain ⟨S1, e1, q⟩ := f st (Kp.refl _)
  have h1 := h.kp0 q
  have m1 := fun fa e => (h.mM (m := "rows_of") (by decide) f_Machine_rows_of fa e).2
  have m2 := fun fa e => (h.mK (m := "node") (by decide) f_Keeper_node fa e).1
  have rw_ := rows_ok h1 he
  have tl := told_ok (n := S1.length) (st := S1 ++ [.dic []]) get_last
  have ll : st.length ≤ S1.length := by
    rcases Nat.lt_or_ge S1.length st.length with z | z
    · exfalso
      have := (List.getElem?_eq_some_iff.mp (q S1.length _ (by simp) (List.getElem?_eq_getElem z))).1
      omega
    · exact z
  refine ⟨(S1 ++ [VL.O.dic []]).length + 1, S1 ++ [.dic []] ++ [.lst [], .lst []], by simp -implicitDefEqProofs +decide only [varF_ap, cF_ap, opF_ap, opK_ap, bF_ap, boolK_ap, andT_ap, andK_ap, orT_ap, orK_ap, notT_ap, notK_ap, yesT_ap, andV_ap, andVK_ap, orV_ap, orVK_ap, notV_ap, notVK_ap, ifF_ap, ifFK_ap, nilA_ap, consA_ap, consK_ap, consJ_ap, tupA_ap, lstA_ap, newO_ap, dicF_ap, callF_ap, un1_ap, methF_ap, nonO_ap, someO_ap, someK_ap, slF_ap, slK_ap, slJ_ap, itF_ap, itA_ap, nilS_ap, bkS_ap, ctS_ap, seqS_ap, seqK_nx, seqK_rt, seqK_bk, seqK_ct, dropS_ap, dropK_ap, retS_ap, retK_ap, retN_ap, ifS_ap, ifK_ap, setS_ap, setK_ap, asgS_ap, asgK_ap, asgJ_ap, nameG_ap, nilG_ap, consG_ap, consGK_ap, fnF_ap, fnK_nx, fnK_rt, forS_ap, forK_ap, negD_ap, addI_ap, varK_ap, startE, yes2, isN, List.map_cons, List.map_nil, List.length_cons, List.length_nil, List.replicate, List.append_nil, List.cons_append, List.nil_append, List.getElem?_cons_zero, List.getElem?_cons_succ, List.set_cons_zero, List.set_cons_succ, R.bind_ok, R.bind_ex, R.bind_bad, R.noex_ok, if_true, if_false, Bool.false_eq_true, Bool.true_eq_false, ite_true, ite_false, reduceIte, Nat.reduceAdd, Nat.reduceSub, Nat.zero_add, Nat.sub_self, Nat.sub_zero, decide_true, decide_false, Bool.not_true, Bool.not_false, subD_ap, ltD_ap, leD_ap, gtD_ap, geD_ap, mulD_ap, modD_ap, divD_ap, powD_ap, tupK_ok, lstK_ok, methK_ok, tupG_ok, eqS_t, eqS_f, neS_t, neS_f, eqI_ap, neI_ap, inT_nil, inT_hit, inT_miss, ne_eq, not_false_eq_true, f_Keeper_ask, b_Keeper_ask, callN_ap, callNK_ap, m1, m2, fnC_ap, fnNC_ap, e1, rw_, tl], ?_, q.trans (Kp.le ((Le.app _ _).trans (Le.app _ _))), by rw [List.length_append]; omega⟩
  rw [List.getElem?_append_right (by rw [List.length_append]; simp), List.length_append]
  simp
theorem fd_told (h : KS es st) (f : Fd n j st) (he : es[j]? = some e) (hg : ∀ f, dget (mpD f es) (.str n) = some (f e)) : ∃ r S', f_Keeper_told [.ref 1, .str n] st = .ok (.ref r) S' ∧ S'[r]? = some (.lst []) ∧ Kp [] st S' := by
  obtain ⟨S1, e1, q⟩ := f st (Kp.refl _)
  have h1 := h.kp0 q
  have m2 := fun fa e => (h.mK (m := "node") (by decide) f_Keeper_node fa e).1
  have fn := h1.fnw
  have dx := dix_ok h1.nw mpD_keys (k := .str n) rfl (hg _)
  have tl := told_ok (h1.bs e (List.mem_of_getElem? he)).2.2
  refine ⟨S1.length + 1, S1 ++ [.lst [], .lst []], by simp -implicitDefEqProofs +decide only [varF_ap, cF_ap, opF_ap, opK_ap, bF_ap, boolK_ap, andT_ap, andK_ap, orT_ap, orK_ap, notT_ap, notK_ap, yesT_ap, andV_ap, andVK_ap, orV_ap, orVK_ap, notV_ap, notVK_ap, ifF_ap, ifFK_ap, nilA_ap, consA_ap, consK_ap, consJ_ap, tupA_ap, lstA_ap, newO_ap, dicF_ap, callF_ap, un1_ap, methF_ap, nonO_ap, someO_ap, someK_ap, slF_ap, slK_ap, slJ_ap, itF_ap, itA_ap, nilS_ap, bkS_ap, ctS_ap, seqS_ap, seqK_nx, seqK_rt, seqK_bk, seqK_ct, dropS_ap, dropK_ap, retS_ap, retK_ap, retN_ap, ifS_ap, ifK_ap, setS_ap, setK_ap, asgS_ap, asgK_ap, asgJ_ap, nameG_ap, nilG_ap, consG_ap, consGK_ap, fnF_ap, fnK_nx, fnK_rt, forS_ap, forK_ap, negD_ap, addI_ap, varK_ap, startE, yes2, isN, List.map_cons, List.map_nil, List.length_cons, List.length_nil, List.replicate, List.append_nil, List.cons_append, List.nil_append, List.getElem?_cons_zero, List.getElem?_cons_succ, List.set_cons_zero, List.set_cons_succ, R.bind_ok, R.bind_ex, R.bind_bad, R.noex_ok, if_true, if_false, Bool.false_eq_true, Bool.true_eq_false, ite_true, ite_false, reduceIte, Nat.reduceAdd, Nat.reduceSub, Nat.zero_add, Nat.sub_self, Nat.sub_zero, decide_true, decide_false, Bool.not_true, Bool.not_false, subD_ap, ltD_ap, leD_ap, gtD_ap, geD_ap, mulD_ap, modD_ap, divD_ap, powD_ap, tupK_ok, lstK_ok, methK_ok, tupG_ok, eqS_t, eqS_f, neS_t, neS_f, eqI_ap, neI_ap, inT_nil, inT_hit, inT_miss, ne_eq, not_false_eq_true, f_Keeper_told, b_Keeper_told, callN_ap, callNK_ap, m2, fnC_ap, e1, fn, dx, tl], ?_, q.trans (Kp.le (Le.app _ _))⟩
  rw [List.getElem?_append_right (by omega)]
  simp
theorem fd_width (h : KS es st) (f : Fd n j st) (hg : ∀ f, dget (mpD f es) (.str n) = some (f e)) : ∃ S', f_Keeper_width [.ref 1, .str n] st = .ok (.int e.w) S' ∧ Kp [] st S' := by
  obtain ⟨S1, e1, q⟩ := f st (Kp.refl _)
  have h1 := h.kp0 q
  have m2 := fun fa e => (h.mK (m := "node") (by decide) f_Keeper_node fa e).1
  have fn := h1.fwd
  have dx := dix_ok h1.wd mpD_keys (k := .str n) rfl (hg _)
  exact ⟨S1, by simp -implicitDefEqProofs +decide only [varF_ap, cF_ap, opF_ap, opK_ap, bF_ap, boolK_ap, andT_ap, andK_ap, orT_ap, orK_ap, notT_ap, notK_ap, yesT_ap, andV_ap, andVK_ap, orV_ap, orVK_ap, notV_ap, notVK_ap, ifF_ap, ifFK_ap, nilA_ap, consA_ap, consK_ap, consJ_ap, tupA_ap, lstA_ap, newO_ap, dicF_ap, callF_ap, un1_ap, methF_ap, nonO_ap, someO_ap, someK_ap, slF_ap, slK_ap, slJ_ap, itF_ap, itA_ap, nilS_ap, bkS_ap, ctS_ap, seqS_ap, seqK_nx, seqK_rt, seqK_bk, seqK_ct, dropS_ap, dropK_ap, retS_ap, retK_ap, retN_ap, ifS_ap, ifK_ap, setS_ap, setK_ap, asgS_ap, asgK_ap, asgJ_ap, nameG_ap, nilG_ap, consG_ap, consGK_ap, fnF_ap, fnK_nx, fnK_rt, forS_ap, forK_ap, negD_ap, addI_ap, varK_ap, startE, yes2, isN, List.map_cons, List.map_nil, List.length_cons, List.length_nil, List.replicate, List.append_nil, List.cons_append, List.nil_append, List.getElem?_cons_zero, List.getElem?_cons_succ, List.set_cons_zero, List.set_cons_succ, R.bind_ok, R.bind_ex, R.bind_bad, R.noex_ok, if_true, if_false, Bool.false_eq_true, Bool.true_eq_false, ite_true, ite_false, reduceIte, Nat.reduceAdd, Nat.reduceSub, Nat.zero_add, Nat.sub_self, Nat.sub_zero, decide_true, decide_false, Bool.not_true, Bool.not_false, subD_ap, ltD_ap, leD_ap, gtD_ap, geD_ap, mulD_ap, modD_ap, divD_ap, powD_ap, tupK_ok, lstK_ok, methK_ok, tupG_ok, eqS_t, eqS_f, neS_t, neS_f, eqI_ap, neI_ap, inT_nil, inT_hit, inT_miss, ne_eq, not_false_eq_true, f_Keeper_width, b_Keeper_width, m2, fnC_ap, e1, fn, dx], q⟩
theorem fd_size (h : KS es st) (f : Fd n j st) (hg : ∀ f, dget (mpD f es) (.str n) = some (f e)) : ∃ S', f_Keeper_size [.ref 1, .str n] st = .ok (.int 1) S' ∧ Kp [] st S' := by
  obtain ⟨S1, e1, q⟩ := f st (Kp.refl _)
  have h1 := h.kp0 q
  have m2 := fun fa e => (h.mK (m := "node") (by decide) f_Keeper_node fa e).1
  have fn := h1.fsz
  have dx := dix_ok h1.sz mpD_keys (k := .str n) rfl (hg _)
  exact ⟨S1, by simp -implicitDefEqProofs +decide only [varF_ap, cF_ap, opF_ap, opK_ap, bF_ap, boolK_ap, andT_ap, andK_ap, orT_ap, orK_ap, notT_ap, notK_ap, yesT_ap, andV_ap, andVK_ap, orV_ap, orVK_ap, notV_ap, notVK_ap, ifF_ap, ifFK_ap, nilA_ap, consA_ap, consK_ap, consJ_ap, tupA_ap, lstA_ap, newO_ap, dicF_ap, callF_ap, un1_ap, methF_ap, nonO_ap, someO_ap, someK_ap, slF_ap, slK_ap, slJ_ap, itF_ap, itA_ap, nilS_ap, bkS_ap, ctS_ap, seqS_ap, seqK_nx, seqK_rt, seqK_bk, seqK_ct, dropS_ap, dropK_ap, retS_ap, retK_ap, retN_ap, ifS_ap, ifK_ap, setS_ap, setK_ap, asgS_ap, asgK_ap, asgJ_ap, nameG_ap, nilG_ap, consG_ap, consGK_ap, fnF_ap, fnK_nx, fnK_rt, forS_ap, forK_ap, negD_ap, addI_ap, varK_ap, startE, yes2, isN, List.map_cons, List.map_nil, List.length_cons, List.length_nil, List.replicate, List.append_nil, List.cons_append, List.nil_append, List.getElem?_cons_zero, List.getElem?_cons_succ, List.set_cons_zero, List.set_cons_succ, R.bind_ok, R.bind_ex, R.bind_bad, R.noex_ok, if_true, if_false, Bool.false_eq_true, Bool.true_eq_false, ite_true, ite_false, reduceIte, Nat.reduceAdd, Nat.reduceSub, Nat.zero_add, Nat.sub_self, Nat.sub_zero, decide_true, decide_false, Bool.not_true, Bool.not_false, subD_ap, ltD_ap, leD_ap, gtD_ap, geD_ap, mulD_ap, modD_ap, divD_ap, powD_ap, tupK_ok, lstK_ok, methK_ok, tupG_ok, eqS_t, eqS_f, neS_t, neS_f, eqI_ap, neI_ap, inT_nil, inT_hit, inT_miss, ne_eq, not_false_eq_true, f_Keeper_size, b_Keeper_size, m2, fnC_ap, e1, fn, dx], q⟩
end
theorem nodes_ok (h : KX o es st) : f_Keeper_nodes [.ref 1] st = .ok (.ref st.length) (st ++ [.lst (es.map fun e => tnd e.n e.w)]) := by
  have m1 := (h.mM (m := "nodes") (by decide) f_Machine_nodes nilA []).1
  have m2 : methO "Net" "nodes" f_Net_nodes (un1 (fldK "Machine" "net") (varF 0)) nilA [some (.ref 2)] st = (nilA [some (.ref 2)] st).bind (fnC f_Net_nodes 3) := methO_at h.fnet h.n (by decide)
  obtain ⟨f1, _, _⟩ := net_fld h.n
  have ls : listD [.ref 4] st = .ok (.ref st.length) (st ++ [.lst (es.map fun e => tnd e.n e.w)]) := by
    simp only [listD, listAt_lst h.at_.l]; rfl
  have n1 : f_Net_nodes [.ref 3] st = .ok (.ref st.length) (st ++ [.lst (es.map fun e => tnd e.n e.w)]) := by simp -implicitDefEqProofs +decide only [varF_ap, cF_ap, opF_ap, opK_ap, bF_ap, boolK_ap, andT_ap, andK_ap, orT_ap, orK_ap, notT_ap, notK_ap, yesT_ap, andV_ap, andVK_ap, orV_ap, orVK_ap, notV_ap, notVK_ap, ifF_ap, ifFK_ap, nilA_ap, consA_ap, consK_ap, consJ_ap, tupA_ap, lstA_ap, newO_ap, dicF_ap, callF_ap, un1_ap, methF_ap, nonO_ap, someO_ap, someK_ap, slF_ap, slK_ap, slJ_ap, itF_ap, itA_ap, nilS_ap, bkS_ap, ctS_ap, seqS_ap, seqK_nx, seqK_rt, seqK_bk, seqK_ct, dropS_ap, dropK_ap, retS_ap, retK_ap, retN_ap, ifS_ap, ifK_ap, setS_ap, setK_ap, asgS_ap, asgK_ap, asgJ_ap, nameG_ap, nilG_ap, consG_ap, consGK_ap, fnF_ap, fnK_nx, fnK_rt, forS_ap, forK_ap, negD_ap, addI_ap, varK_ap, startE, yes2, isN, List.map_cons, List.map_nil, List.length_cons, List.length_nil, List.replicate, List.append_nil, List.cons_append, List.nil_append, List.getElem?_cons_zero, List.getElem?_cons_succ, List.set_cons_zero, List.set_cons_succ, R.bind_ok, R.bind_ex, R.bind_bad, R.noex_ok, if_true, if_false, Bool.false_eq_true, Bool.true_eq_false, ite_true, ite_false, reduceIte, Nat.reduceAdd, Nat.reduceSub, Nat.zero_add, Nat.sub_self, Nat.sub_zero, decide_true, decide_false, Bool.not_true, Bool.not_false, subD_ap, ltD_ap, leD_ap, gtD_ap, geD_ap, mulD_ap, modD_ap, divD_ap, powD_ap, tupK_ok, lstK_ok, methK_ok, tupG_ok, eqS_t, eqS_f, neS_t, neS_f, eqI_ap, neI_ap, inT_nil, inT_hit, inT_miss, ne_eq, not_false_eq_true, f_Net_nodes, b_Net_nodes, f1, ls]
  have n2 : f_Machine_nodes [.ref 2] st = .ok (.ref st.length) (st ++ [.lst (es.map fun e => tnd e.n e.w)]) := by simp -implicitDefEqProofs +decide only [varF_ap, cF_ap, opF_ap, opK_ap, bF_ap, boolK_ap, andT_ap, andK_ap, orT_ap, orK_ap, notT_ap, notK_ap, yesT_ap, andV_ap, andVK_ap, orV_ap, orVK_ap, notV_ap, notVK_ap, ifF_ap, ifFK_ap, nilA_ap, consA_ap, consK_ap, consJ_ap, tupA_ap, lstA_ap, newO_ap, dicF_ap, callF_ap, un1_ap, methF_ap, nonO_ap, someO_ap, someK_ap, slF_ap, slK_ap, slJ_ap, itF_ap, itA_ap, nilS_ap, bkS_ap, ctS_ap, seqS_ap, seqK_nx, seqK_rt, seqK_bk, seqK_ct, dropS_ap, dropK_ap, retS_ap, retK_ap, retN_ap, ifS_ap, ifK_ap, setS_ap, setK_ap, asgS_ap, asgK_ap, asgJ_ap, nameG_ap, nilG_ap, consG_ap, consGK_ap, fnF_ap, fnK_nx, fnK_rt, forS_ap, forK_ap, negD_ap, addI_ap, varK_ap, startE, yes2, isN, List.map_cons, List.map_nil, List.length_cons, List.length_nil, List.replicate, List.append_nil, List.cons_append, List.nil_append, List.getElem?_cons_zero, List.getElem?_cons_succ, List.set_cons_zero, List.set_cons_succ, R.bind_ok, R.bind_ex, R.bind_bad, R.noex_ok, if_true, if_false, Bool.false_eq_true, Bool.true_eq_false, ite_true, ite_false, reduceIte, Nat.reduceAdd, Nat.reduceSub, Nat.zero_add, Nat.sub_self, Nat.sub_zero, decide_true, decide_false, Bool.not_true, Bool.not_false, subD_ap, ltD_ap, leD_ap, gtD_ap, geD_ap, mulD_ap, modD_ap, divD_ap, powD_ap, tupK_ok, lstK_ok, methK_ok, tupG_ok, eqS_t, eqS_f, neS_t, neS_f, eqI_ap, neI_ap, inT_nil, inT_hit, inT_miss, ne_eq, not_false_eq_true, f_Machine_nodes, b_Machine_nodes, m2, fnC_ap, n1]
  simp -implicitDefEqProofs +decide only [varF_ap, cF_ap, opF_ap, opK_ap, bF_ap, boolK_ap, andT_ap, andK_ap, orT_ap, orK_ap, notT_ap, notK_ap, yesT_ap, andV_ap, andVK_ap, orV_ap, orVK_ap, notV_ap, notVK_ap, ifF_ap, ifFK_ap, nilA_ap, consA_ap, consK_ap, consJ_ap, tupA_ap, lstA_ap, newO_ap, dicF_ap, callF_ap, un1_ap, methF_ap, nonO_ap, someO_ap, someK_ap, slF_ap, slK_ap, slJ_ap, itF_ap, itA_ap, nilS_ap, bkS_ap, ctS_ap, seqS_ap, seqK_nx, seqK_rt, seqK_bk, seqK_ct, dropS_ap, dropK_ap, retS_ap, retK_ap, retN_ap, ifS_ap, ifK_ap, setS_ap, setK_ap, asgS_ap, asgK_ap, asgJ_ap, nameG_ap, nilG_ap, consG_ap, consGK_ap, fnF_ap, fnK_nx, fnK_rt, forS_ap, forK_ap, negD_ap, addI_ap, varK_ap, startE, yes2, isN, List.map_cons, List.map_nil, List.length_cons, List.length_nil, List.replicate, List.append_nil, List.cons_append, List.nil_append, List.getElem?_cons_zero, List.getElem?_cons_succ, List.set_cons_zero, List.set_cons_succ, R.bind_ok, R.bind_ex, R.bind_bad, R.noex_ok, if_true, if_false, Bool.false_eq_true, Bool.true_eq_false, ite_true, ite_false, reduceIte, Nat.reduceAdd, Nat.reduceSub, Nat.zero_add, Nat.sub_self, Nat.sub_zero, decide_true, decide_false, Bool.not_true, Bool.not_false, subD_ap, ltD_ap, leD_ap, gtD_ap, geD_ap, mulD_ap, modD_ap, divD_ap, powD_ap, tupK_ok, lstK_ok, methK_ok, tupG_ok, eqS_t, eqS_f, neS_t, neS_f, eqI_ap, neI_ap, inT_nil, inT_hit, inT_miss, ne_eq, not_false_eq_true, f_Keeper_nodes, b_Keeper_nodes, m1, fnC_ap, n2]
theorem depth_ok (h : KX o es st) : f_Keeper_depth [.ref 1] st = .ok (.int 0) st := by
  have f := h.fpr
  have ln : lenD [.ref 15] st = .ok (.int 0) st := lenD_list (listAt_lst h.pr)
  simp -implicitDefEqProofs +decide only [varF_ap, cF_ap, opF_ap, opK_ap, bF_ap, boolK_ap, andT_ap, andK_ap, orT_ap, orK_ap, notT_ap, notK_ap, yesT_ap, andV_ap, andVK_ap, orV_ap, orVK_ap, notV_ap, notVK_ap, ifF_ap, ifFK_ap, nilA_ap, consA_ap, consK_ap, consJ_ap, tupA_ap, lstA_ap, newO_ap, dicF_ap, callF_ap, un1_ap, methF_ap, nonO_ap, someO_ap, someK_ap, slF_ap, slK_ap, slJ_ap, itF_ap, itA_ap, nilS_ap, bkS_ap, ctS_ap, seqS_ap, seqK_nx, seqK_rt, seqK_bk, seqK_ct, dropS_ap, dropK_ap, retS_ap, retK_ap, retN_ap, ifS_ap, ifK_ap, setS_ap, setK_ap, asgS_ap, asgK_ap, asgJ_ap, nameG_ap, nilG_ap, consG_ap, consGK_ap, fnF_ap, fnK_nx, fnK_rt, forS_ap, forK_ap, negD_ap, addI_ap, varK_ap, startE, yes2, isN, List.map_cons, List.map_nil, List.length_cons, List.length_nil, List.replicate, List.append_nil, List.cons_append, List.nil_append, List.getElem?_cons_zero, List.getElem?_cons_succ, List.set_cons_zero, List.set_cons_succ, R.bind_ok, R.bind_ex, R.bind_bad, R.noex_ok, if_true, if_false, Bool.false_eq_true, Bool.true_eq_false, ite_true, ite_false, reduceIte, Nat.reduceAdd, Nat.reduceSub, Nat.zero_add, Nat.sub_self, Nat.sub_zero, decide_true, decide_false, Bool.not_true, Bool.not_false, subD_ap, ltD_ap, leD_ap, gtD_ap, geD_ap, mulD_ap, modD_ap, divD_ap, powD_ap, tupK_ok, lstK_ok, methK_ok, tupG_ok, eqS_t, eqS_f, neS_t, neS_f, eqI_ap, neI_ap, inT_nil, inT_hit, inT_miss, ne_eq, not_false_eq_true, f_Keeper_depth, b_Keeper_depth, f, ln]
theorem memory_ok (h : KX o es st) {j : Nat} {e : Ent} (he : es[j]? = some e) : f_Keeper_memory [.ref 1, .int (j : Nat)] st = .ok (.ref st.length) (st ++ [.lst []]) := by
  have m1 := fun fa e => (h.mM (m := "memory") (by decide) f_Machine_memory fa e).1
  have f := h.fpa
  have ix : ixD (.ref 7) (.int (j : Nat)) st = .ok .non st := ixD_list (listAt_lst h.pa) (by rw [List.getElem?_map, he]; rfl)
  have nn : isN false .non .non st = .ok (.bl true) st := isN_f
  have n2 : f_Machine_memory [.ref 2, .int (j : Nat)] st = .ok (.ref st.length) (st ++ [.lst []]) := by simp -implicitDefEqProofs +decide only [varF_ap, cF_ap, opF_ap, opK_ap, bF_ap, boolK_ap, andT_ap, andK_ap, orT_ap, orK_ap, notT_ap, notK_ap, yesT_ap, andV_ap, andVK_ap, orV_ap, orVK_ap, notV_ap, notVK_ap, ifF_ap, ifFK_ap, nilA_ap, consA_ap, consK_ap, consJ_ap, tupA_ap, lstA_ap, newO_ap, dicF_ap, callF_ap, un1_ap, methF_ap, nonO_ap, someO_ap, someK_ap, slF_ap, slK_ap, slJ_ap, itF_ap, itA_ap, nilS_ap, bkS_ap, ctS_ap, seqS_ap, seqK_nx, seqK_rt, seqK_bk, seqK_ct, dropS_ap, dropK_ap, retS_ap, retK_ap, retN_ap, ifS_ap, ifK_ap, setS_ap, setK_ap, asgS_ap, asgK_ap, asgJ_ap, nameG_ap, nilG_ap, consG_ap, consGK_ap, fnF_ap, fnK_nx, fnK_rt, forS_ap, forK_ap, negD_ap, addI_ap, varK_ap, startE, yes2, isN, List.map_cons, List.map_nil, List.length_cons, List.length_nil, List.replicate, List.append_nil, List.cons_append, List.nil_append, List.getElem?_cons_zero, List.getElem?_cons_succ, List.set_cons_zero, List.set_cons_succ, R.bind_ok, R.bind_ex, R.bind_bad, R.noex_ok, if_true, if_false, Bool.false_eq_true, Bool.true_eq_false, ite_true, ite_false, reduceIte, Nat.reduceAdd, Nat.reduceSub, Nat.zero_add, Nat.sub_self, Nat.sub_zero, decide_true, decide_false, Bool.not_true, Bool.not_false, subD_ap, ltD_ap, leD_ap, gtD_ap, geD_ap, mulD_ap, modD_ap, divD_ap, powD_ap, tupK_ok, lstK_ok, methK_ok, tupG_ok, eqS_t, eqS_f, neS_t, neS_f, eqI_ap, neI_ap, inT_nil, inT_hit, inT_miss, ne_eq, not_false_eq_true, f_Machine_memory, b_Machine_memory, f, ix, nn, sz (by decide : 0 ≤ 100)]
  simp -implicitDefEqProofs +decide only [varF_ap, cF_ap, opF_ap, opK_ap, bF_ap, boolK_ap, andT_ap, andK_ap, orT_ap, orK_ap, notT_ap, notK_ap, yesT_ap, andV_ap, andVK_ap, orV_ap, orVK_ap, notV_ap, notVK_ap, ifF_ap, ifFK_ap, nilA_ap, consA_ap, consK_ap, consJ_ap, tupA_ap, lstA_ap, newO_ap, dicF_ap, callF_ap, un1_ap, methF_ap, nonO_ap, someO_ap, someK_ap, slF_ap, slK_ap, slJ_ap, itF_ap, itA_ap, nilS_ap, bkS_ap, ctS_ap, seqS_ap, seqK_nx, seqK_rt, seqK_bk, seqK_ct, dropS_ap, dropK_ap, retS_ap, retK_ap, retN_ap, ifS_ap, ifK_ap, setS_ap, setK_ap, asgS_ap, asgK_ap, asgJ_ap, nameG_ap, nilG_ap, consG_ap, consGK_ap, fnF_ap, fnK_nx, fnK_rt, forS_ap, forK_ap, negD_ap, addI_ap, varK_ap, startE, yes2, isN, List.map_cons, List.map_nil, List.length_cons, List.length_nil, List.replicate, List.append_nil, List.cons_append, List.nil_append, List.getElem?_cons_zero, List.getElem?_cons_succ, List.set_cons_zero, List.set_cons_succ, R.bind_ok, R.bind_ex, R.bind_bad, R.noex_ok, if_true, if_false, Bool.false_eq_true, Bool.true_eq_false, ite_true, ite_false, reduceIte, Nat.reduceAdd, Nat.reduceSub, Nat.zero_add, Nat.sub_self, Nat.sub_zero, decide_true, decide_false, Bool.not_true, Bool.not_false, subD_ap, ltD_ap, leD_ap, gtD_ap, geD_ap, mulD_ap, modD_ap, divD_ap, powD_ap, tupK_ok, lstK_ok, methK_ok, tupG_ok, eqS_t, eqS_f, neS_t, neS_f, eqI_ap, neI_ap, inT_nil, inT_hit, inT_miss, ne_eq, not_false_eq_true, f_Keeper_memory, b_Keeper_memory, m1, fnC_ap, n2]
end
end Law
namespace Law
open PySem L2 VL
theorem spD_get : ∀ {es : List Ent} {i j : Nat} {e : Ent}, es[j]? = some e → (spD i es)[j]? = some (.str e.n, .int ((i + j : Nat) : Int))
  | z :: r, i, 0, e, h => by cases h; rfl
  | z :: r, i, j + 1, e, h => by
    rw [spD, show i + (j + 1) = i + 1 + j by omega]
    exact spD_get (es := r) (i := i + 1) (j := j) h
theorem dget_put {kvs : List (VL.D × VL.D)} {n : Str} {v : VL.D} : dget (dput kvs (.str n) v) (.str n) = some v := by
  unfold dput
  by_cases h : (kvs.any fun p => keyQ p.1 (.str n)) = true
  · rw [if_pos h]
    unfold dget
    induction kvs with
    | nil => cases h
    | cons p r ih =>
      rw [List.map_cons, List.find?_cons]
      cases q : keyQ p.1 (.str n) with
      | true =>
        rw [if_pos rfl]
        show (match keyQ p.1 (.str n) with | true => _ | false => _ : Option _).map _ = _
        rw [q]; rfl
      | false =>
        rw [if_neg Bool.false_ne_true, q]
        rw [List.any_cons, q, Bool.false_or] at h
        exact ih h
  · rw [if_neg h]
    unfold dget
    rw [List.find?_append]
    have : kvs.find? (fun p => keyQ p.1 (.str n)) = none := by
      rw [List.find?_eq_none]
      intro x hx hq
      exact h (List.any_eq_true.mpr ⟨x, hx, hq⟩)
    rw [this, Option.none_or, List.find?_cons, keyQ_str, decide_eq_true rfl]; rfl
theorem dput_keys {kvs : List (VL.D × VL.D)} {n : Str} {v : VL.D} (h : keysOk kvs = true) : keysOk (dput kvs (.str n) v) = true := by
  unfold keysOk at h ⊢
  rw [List.all_eq_true] at h ⊢
  intro x hx
  unfold dput at hx
  split at hx
  · obtain ⟨p, hp, rfl⟩ := List.mem_map.mp hx
    have := h p hp
    split <;> exact this
  · rcases List.mem_append.mp hx with hx | hx
    · exact h x hx
    · obtain rfl := List.mem_singleton.mp hx
      rfl
theorem dput_len {kvs : List (VL.D × VL.D)} {k v : VL.D} : (dput kvs k v).length ≤ kvs.length + 1 := by
  unfold dput
  split
  · rw [List.length_map]; omega
  · rw [List.length_append]; exact Nat.le_refl _
theorem kp_len {ms : List Nat} {a b : Sto} (q : Kp ms a b) {n : Nat} (h : n < a.length) (hm : n ∉ ms) : n < b.length := (List.getElem?_eq_some_iff.mp (q n _ hm (List.getElem?_eq_getElem h))).1
section
variable {o : VL.O} {es : List Ent} {L : Sto} {n : Str} {a b : Nat}
theorem plain_loop (h : KX o es L) (ha : L.length = b + 1) (hb : b = a + 1) (ha16 : 16 ≤ a) (fr : ∀ e ∈ es, e.b < a ∧ e.s < a) (hl : es.length ≤ 1000) : ∀ (r pre : List Ent), es = pre ++ r → (∃ e ∈ r, e.n = n) → ∀ (S : Sto) (A W : List (VL.D × VL.D)) (z4 z5 : Option VL.D), Kp [a, b] L S → S[a]? = some (.dic A) → keysOk A = true → A.length ≤ pre.length → S[b]? = some (.dic W) → keysOk W = true → W.length ≤ pre.length →
    ∃ S' r', forL [] (tupG 2 (consG (nameG 4) (consG (nameG 5) nilG))) l0_Keeper_plainly ((spD pre.length r).map prK) [some (.ref 1), some (.str n), some (.ref a), some (.ref b), z4, z5] S = .ok (.rt (.ref r')) S' ∧ Kp [a, b] L S' ∧ S'[r']? = some (.lst []) ∧ L.length ≤ r'
  | [], pre, _, hx => by obtain ⟨e, he, _⟩ := hx; cases he
  | e :: r, pre, hes, hx => by
    intro S A W z4 z5 q gA kA lA gW kW lW
    have hi : es[pre.length]? = some e := by rw [hes, List.getElem?_append_right (Nat.le_refl _), Nat.sub_self]; rfl
    have pl : pre.length < es.length := (List.getElem?_eq_some_iff.mp hi).1
    have hS := h.kp q (by simp; omega) (fun e he => by have := fr e he; simp; omega)
    have dn := (din_no hS.tr (kvs := []) (k := .str e.n) rfl rfl rfl).1
    have ft := hS.ftr
    have fw := hS.fwd
    have la := (List.getElem?_eq_some_iff.mp gA).1
    have lb := (List.getElem?_eq_some_iff.mp gW).1
    have m1 := fun fa e => (hS.mM (m := "rows_of") (by decide) f_Machine_rows_of fa e).2
    have rw_ := rows_ok hS hi
    obtain ⟨S1, hS1⟩ : ∃ T, T = S ++ [VL.O.dic []] := ⟨_, rfl⟩
    obtain ⟨S2, hS2⟩ : ∃ T, T = S1.set a (.dic (dput A (.str e.n) (.ref S.length))) := ⟨_, rfl⟩
    have L1 : Le S S1 := hS1 ▸ Le.app _ _
    have ne : b ≠ a := by omega
    have LS : L.length ≤ S.length := by omega
    have put1 : dputS (methN "Machine" "rows_of" f_Machine_rows_of (un1 (fldK "Keeper" "machine") (varF 0)) (consA (varF 5) nilA)) (varF 2) (varF 4) [some (.ref 1), some (.str n), some (.ref a), some (.ref b), some (.str e.n), some (.int (pre.length : Nat))] S = .ok (.nx [some (.ref 1), some (.str n), some (.ref a), some (.ref b), some (.str e.n), some (.int (pre.length : Nat))]) S2 := by
      rw [hS2]
      exact dputS_ap (s1 := S1) (s2 := S1) (s3 := S1) (v := .ref S.length) (by rw [m1]; simp -implicitDefEqProofs +decide only [varF_ap, cF_ap, opF_ap, opK_ap, bF_ap, boolK_ap, andT_ap, andK_ap, orT_ap, orK_ap, notT_ap, notK_ap, yesT_ap, andV_ap, andVK_ap, orV_ap, orVK_ap, notV_ap, notVK_ap, ifF_ap, ifFK_ap, nilA_ap, consA_ap, consK_ap, consJ_ap, tupA_ap, lstA_ap, newO_ap, dicF_ap, callF_ap, un1_ap, methF_ap, nonO_ap, someO_ap, someK_ap, slF_ap, slK_ap, slJ_ap, itF_ap, itA_ap, nilS_ap, bkS_ap, ctS_ap, seqS_ap, seqK_nx, seqK_rt, seqK_bk, seqK_ct, dropS_ap, dropK_ap, retS_ap, retK_ap, retN_ap, ifS_ap, ifK_ap, setS_ap, setK_ap, asgS_ap, asgK_ap, asgJ_ap, nameG_ap, nilG_ap, consG_ap, consGK_ap, fnF_ap, fnK_nx, fnK_rt, forS_ap, forK_ap, negD_ap, addI_ap, varK_ap, startE, yes2, isN, List.map_cons, List.map_nil, List.length_cons, List.length_nil, List.replicate, List.append_nil, List.cons_append, List.nil_append, List.getElem?_cons_zero, List.getElem?_cons_succ, List.set_cons_zero, List.set_cons_succ, R.bind_ok, R.bind_ex, R.bind_bad, R.noex_ok, if_true, if_false, Bool.false_eq_true, Bool.true_eq_false, ite_true, ite_false, reduceIte, Nat.reduceAdd, Nat.reduceSub, Nat.zero_add, Nat.sub_self, Nat.sub_zero, decide_true, decide_false, Bool.not_true, Bool.not_false, subD_ap, ltD_ap, leD_ap, gtD_ap, geD_ap, mulD_ap, modD_ap, divD_ap, powD_ap, tupK_ok, lstK_ok, methK_ok, tupG_ok, eqS_t, eqS_f, neS_t, neS_f, eqI_ap, neI_ap, inT_nil, inT_hit, inT_miss, ne_eq, not_false_eq_true, fnNC_ap, rw_, ← hS1]) rfl rfl (L1.get gA) kA rfl (by rw [sizeLine_eq']; omega)
    have q1 : Kp [a, b] L S2 := (q.trans (Kp.le L1)).trans (hS2 ▸ Kp.set (by simp))
    have hS2' := h.kp q1 (by simp; omega) (fun e he => by have := fr e he; simp; omega)
    have gA2 : S2[a]? = some (.dic (dput A (.str e.n) (.ref S.length))) := by rw [hS2, List.getElem?_set_self (by rw [hS1, List.length_append]; omega)]
    have gW2 : S2[b]? = some (.dic W) := by rw [hS2, List.getElem?_set_ne (Ne.symm ne)]; exact L1.get gW
    have gN : S2[S.length]? = some (.dic []) := by rw [hS2, List.getElem?_set_ne (by omega), hS1]; exact get_last
    rw [spD, List.map_cons, forL_cons ChkOk.nil]
    have g : tupG 2 (consG (nameG 4) (consG (nameG 5) nilG)) (prK (.str e.n, .int (pre.length : Nat))) [some (.ref 1), some (.str n), some (.ref a), some (.ref b), z4, z5] S = .ok [some (.ref 1), some (.str n), some (.ref a), some (.ref b), some (.str e.n), some (.int (pre.length : Nat))] S := rfl
    rw [g, R.bind_ok]
    by_cases hn : e.n = n
    · have eq : eqD (.str e.n) (.str n) S2 = .ok (.bl true) S2 := by rw [hn]; exact eqS_t
      have dx := dix_ok gA2 (dput_keys kA) (k := .str n) rfl (by rw [hn]; exact dget_put)
      have tl := told_ok gN
      have bd : l0_Keeper_plainly [some (.ref 1), some (.str n), some (.ref a), some (.ref b), some (.str e.n), some (.int (pre.length : Nat))] S = .ok (.rt (.ref (S2.length + 1))) (S2 ++ [.lst [], .lst []]) := by
        simp -implicitDefEqProofs +decide only [varF_ap, cF_ap, opF_ap, opK_ap, bF_ap, boolK_ap, andT_ap, andK_ap, orT_ap, orK_ap, notT_ap, notK_ap, yesT_ap, andV_ap, andVK_ap, orV_ap, orVK_ap, notV_ap, notVK_ap, ifF_ap, ifFK_ap, nilA_ap, consA_ap, consK_ap, consJ_ap, tupA_ap, lstA_ap, newO_ap, dicF_ap, callF_ap, un1_ap, methF_ap, nonO_ap, someO_ap, someK_ap, slF_ap, slK_ap, slJ_ap, itF_ap, itA_ap, nilS_ap, bkS_ap, ctS_ap, seqS_ap, seqK_nx, seqK_rt, seqK_bk, seqK_ct, dropS_ap, dropK_ap, retS_ap, retK_ap, retN_ap, ifS_ap, ifK_ap, setS_ap, setK_ap, asgS_ap, asgK_ap, asgJ_ap, nameG_ap, nilG_ap, consG_ap, consGK_ap, fnF_ap, fnK_nx, fnK_rt, forS_ap, forK_ap, negD_ap, addI_ap, varK_ap, startE, yes2, isN, List.map_cons, List.map_nil, List.length_cons, List.length_nil, List.replicate, List.append_nil, List.cons_append, List.nil_append, List.getElem?_cons_zero, List.getElem?_cons_succ, List.set_cons_zero, List.set_cons_succ, R.bind_ok, R.bind_ex, R.bind_bad, R.noex_ok, if_true, if_false, Bool.false_eq_true, Bool.true_eq_false, ite_true, ite_false, reduceIte, Nat.reduceAdd, Nat.reduceSub, Nat.zero_add, Nat.sub_self, Nat.sub_zero, decide_true, decide_false, Bool.not_true, Bool.not_false, subD_ap, ltD_ap, leD_ap, gtD_ap, geD_ap, mulD_ap, modD_ap, divD_ap, powD_ap, tupK_ok, lstK_ok, methK_ok, tupG_ok, eqS_t, eqS_f, neS_t, neS_f, eqI_ap, neI_ap, inT_nil, inT_hit, inT_miss, ne_eq, not_false_eq_true, l0_Keeper_plainly, ft, dn, ↓put1, eq, callN_ap, callNK_ap, dx, tl]
      rw [bd, R.bind_ok]
      have sl : S2.length = S.length + 1 := by rw [hS2, List.length_set, hS1, List.length_append]; rfl
      refine ⟨_, _, rfl, q1.trans (Kp.le (Le.app _ _)), ?_, by omega⟩
      rw [List.getElem?_append_right (by omega)]
      simp
    · have eq : eqD (.str e.n) (.str n) S2 = .ok (.bl false) S2 := eqS_f hn
      have hg : dget (mpD (fun e => .int e.w) es) (.str e.n) ≠ none := fun z => by
        rcases look_es e.n es 0 with ⟨h1, _⟩ | ⟨_, x, _, _, _, h4, _⟩
        · exact h1 e (List.mem_of_getElem? hi) rfl
        · rw [h4] at z; cases z
      obtain ⟨v, hv⟩ := Option.ne_none_iff_exists'.mp hg
      have dx := dix_ok hS2'.wd mpD_keys (k := .str e.n) rfl hv
      have fw2 := hS2'.fwd
      obtain ⟨S3, hS3⟩ : ∃ T, T = S2.set b (.dic (dput W (.str e.n) v)) := ⟨_, rfl⟩
      have put2 : dputS (opF dixD (un1 (fldK "Keeper" "wides") (varF 0)) (varF 4)) (varF 3) (varF 4) [some (.ref 1), some (.str n), some (.ref a), some (.ref b), some (.str e.n), some (.int (pre.length : Nat))] S2 = .ok (.nx [some (.ref 1), some (.str n), some (.ref a), some (.ref b), some (.str e.n), some (.int (pre.length : Nat))]) S3 := by
        rw [hS3]
        exact dputS_ap (s1 := S2) (s2 := S2) (s3 := S2) (v := v) (by simp -implicitDefEqProofs +decide only [varF_ap, cF_ap, opF_ap, opK_ap, bF_ap, boolK_ap, andT_ap, andK_ap, orT_ap, orK_ap, notT_ap, notK_ap, yesT_ap, andV_ap, andVK_ap, orV_ap, orVK_ap, notV_ap, notVK_ap, ifF_ap, ifFK_ap, nilA_ap, consA_ap, consK_ap, consJ_ap, tupA_ap, lstA_ap, newO_ap, dicF_ap, callF_ap, un1_ap, methF_ap, nonO_ap, someO_ap, someK_ap, slF_ap, slK_ap, slJ_ap, itF_ap, itA_ap, nilS_ap, bkS_ap, ctS_ap, seqS_ap, seqK_nx, seqK_rt, seqK_bk, seqK_ct, dropS_ap, dropK_ap, retS_ap, retK_ap, retN_ap, ifS_ap, ifK_ap, setS_ap, setK_ap, asgS_ap, asgK_ap, asgJ_ap, nameG_ap, nilG_ap, consG_ap, consGK_ap, fnF_ap, fnK_nx, fnK_rt, forS_ap, forK_ap, negD_ap, addI_ap, varK_ap, startE, yes2, isN, List.map_cons, List.map_nil, List.length_cons, List.length_nil, List.replicate, List.append_nil, List.cons_append, List.nil_append, List.getElem?_cons_zero, List.getElem?_cons_succ, List.set_cons_zero, List.set_cons_succ, R.bind_ok, R.bind_ex, R.bind_bad, R.noex_ok, if_true, if_false, Bool.false_eq_true, Bool.true_eq_false, ite_true, ite_false, reduceIte, Nat.reduceAdd, Nat.reduceSub, Nat.zero_add, Nat.sub_self, Nat.sub_zero, decide_true, decide_false, Bool.not_true, Bool.not_false, subD_ap, ltD_ap, leD_ap, gtD_ap, geD_ap, mulD_ap, modD_ap, divD_ap, powD_ap, tupK_ok, lstK_ok, methK_ok, tupG_ok, eqS_t, eqS_f, neS_t, neS_f, eqI_ap, neI_ap, inT_nil, inT_hit, inT_miss, ne_eq, not_false_eq_true, fw2, dx]) rfl rfl gW2 kW rfl (by rw [sizeLine_eq']; omega)
      have bd : l0_Keeper_plainly [some (.ref 1), some (.str n), some (.ref a), some (.ref b), some (.str e.n), some (.int (pre.length : Nat))] S = .ok (.nx [some (.ref 1), some (.str n), some (.ref a), some (.ref b), some (.str e.n), some (.int (pre.length : Nat))]) S3 := by
        simp -implicitDefEqProofs +decide only [varF_ap, cF_ap, opF_ap, opK_ap, bF_ap, boolK_ap, andT_ap, andK_ap, orT_ap, orK_ap, notT_ap, notK_ap, yesT_ap, andV_ap, andVK_ap, orV_ap, orVK_ap, notV_ap, notVK_ap, ifF_ap, ifFK_ap, nilA_ap, consA_ap, consK_ap, consJ_ap, tupA_ap, lstA_ap, newO_ap, dicF_ap, callF_ap, un1_ap, methF_ap, nonO_ap, someO_ap, someK_ap, slF_ap, slK_ap, slJ_ap, itF_ap, itA_ap, nilS_ap, bkS_ap, ctS_ap, seqS_ap, seqK_nx, seqK_rt, seqK_bk, seqK_ct, dropS_ap, dropK_ap, retS_ap, retK_ap, retN_ap, ifS_ap, ifK_ap, setS_ap, setK_ap, asgS_ap, asgK_ap, asgJ_ap, nameG_ap, nilG_ap, consG_ap, consGK_ap, fnF_ap, fnK_nx, fnK_rt, forS_ap, forK_ap, negD_ap, addI_ap, varK_ap, startE, yes2, isN, List.map_cons, List.map_nil, List.length_cons, List.length_nil, List.replicate, List.append_nil, List.cons_append, List.nil_append, List.getElem?_cons_zero, List.getElem?_cons_succ, List.set_cons_zero, List.set_cons_succ, R.bind_ok, R.bind_ex, R.bind_bad, R.noex_ok, if_true, if_false, Bool.false_eq_true, Bool.true_eq_false, ite_true, ite_false, reduceIte, Nat.reduceAdd, Nat.reduceSub, Nat.zero_add, Nat.sub_self, Nat.sub_zero, decide_true, decide_false, Bool.not_true, Bool.not_false, subD_ap, ltD_ap, leD_ap, gtD_ap, geD_ap, mulD_ap, modD_ap, divD_ap, powD_ap, tupK_ok, lstK_ok, methK_ok, tupG_ok, eqS_t, eqS_f, neS_t, neS_f, eqI_ap, neI_ap, inT_nil, inT_hit, inT_miss, ne_eq, not_false_eq_true, l0_Keeper_plainly, ft, dn, ↓put1, eq, ↓put2]
      rw [bd, R.bind_ok]
      have q2 : Kp [a, b] L S3 := q1.trans (hS3 ▸ Kp.set (by simp))
      have gA3 : S3[a]? = some (.dic (dput A (.str e.n) (.ref S.length))) := by rw [hS3, List.getElem?_set_ne ne]; exact gA2
      have gW3 : S3[b]? = some (.dic (dput W (.str e.n) v)) := by rw [hS3, List.getElem?_set_self (List.getElem?_eq_some_iff.mp gW2).1]
      have pl1 : (pre ++ [e]).length = pre.length + 1 := by rw [List.length_append]; rfl
      have hx' : ∃ x ∈ r, x.n = n := by
        obtain ⟨x, hx, hxn⟩ := hx
        rcases List.mem_cons.mp hx with rfl | hx
        · exact absurd hxn hn
        · exact ⟨x, hx, hxn⟩
      have l1 := dput_len (kvs := A) (k := .str e.n) (v := .ref S.length)
      have l2 := dput_len (kvs := W) (k := .str e.n) (v := v)
      have ih := plain_loop h ha hb ha16 fr hl r (pre ++ [e]) (by rw [hes, List.append_assoc]; rfl) hx' S3 _ _ (some (.str e.n)) (some (.int (pre.length : Nat))) q2 gA3 (dput_keys kA) (by omega) gW3 (dput_keys kW) (by omega)
      rw [pl1] at ih
      exact ih
end
theorem fd_plainly {es : List Ent} {st : Sto} {n : Str} {j : Nat} {e : Ent} (h : KS es st) (f : Fd n j st) (he : es[j]? = some e) (hn : e.n = n) (hl : es.length ≤ 1000) : ∃ r S', f_Keeper_plainly [.ref 1, .str n] st = .ok (.ref r) S' ∧ S'[r]? = some (.lst []) ∧ Kp [] st S' := by
  obtain ⟨S1, e1, q⟩ := f st (Kp.refl _)
  have h1 := h.kp0 q
  have m2 := fun fa e => (h.mK (m := "node") (by decide) f_Keeper_node fa e).1
  obtain ⟨S2, hS2⟩ : ∃ T, T = S1 ++ [VL.O.dic []] := ⟨_, rfl⟩
  obtain ⟨S3, hS3⟩ : ∃ T, T = S2 ++ [VL.O.dic []] := ⟨_, rfl⟩
  have L2 : Le S1 S2 := hS2 ▸ Le.app _ _
  have L3 : Le S2 S3 := hS3 ▸ Le.app _ _
  have l2 : S2.length = S1.length + 1 := by rw [hS2, List.length_append]; rfl
  have l3 : S3.length = S2.length + 1 := by rw [hS3, List.length_append]; rfl
  have h3 := h1.le (L2.trans L3)
  have s16 : 16 ≤ S1.length := by
    have := (List.getElem?_eq_some_iff.mp h1.pr).1
    omega
  obtain ⟨L, hL⟩ : ∃ T, T = S3.set 9 (.fd (spD 0 es)) := ⟨_, rfl⟩
  have qL : Kp [9] S3 L := hL ▸ Kp.set (by simp)
  have g9 : L[9]? = some (.fd (spD 0 es)) := by rw [hL, List.getElem?_set_self (by omega)]
  have g' : ∀ {i : Nat} {u : VL.O}, i ≠ 9 → S3[i]? = some u → L[i]? = some u := fun hi e => qL _ _ (by simpa using hi) e
  have hKX : KX (.fd (spD 0 es)) es L := ⟨g' (by decide) h3.k, g' (by decide) h3.m, g' (by decide) h3.n, ⟨g' (by decide) h3.at_.l, g' (by decide) h3.at_.w, g' (by decide) h3.at_.d⟩, g' (by decide) h3.pa, g' (by decide) h3.bg, g9, g' (by decide) h3.wd, g' (by decide) h3.sz, g' (by decide) h3.tx, g' (by decide) h3.tr, g' (by decide) h3.nw, g' (by decide) h3.pr,
    fun e he => ⟨⟨(h3.bs e he).1.1, g' (by have := (h3.bs e he).1.1; omega) (h3.bs e he).1.2⟩, (h3.bs e he).2.1, g' (by have := (h3.bs e he).2.1; omega) (h3.bs e he).2.2⟩⟩
  have lL : L.length = S3.length := by rw [hL, List.length_set]
  have ga : L[S1.length]? = some (.dic []) := g' (by omega) (L3.get (hS2 ▸ get_last))
  have gb : L[S2.length]? = some (.dic []) := g' (by omega) (hS3 ▸ get_last)
  obtain ⟨S4, r, fl, q4, gr, lr⟩ := plain_loop (a := S1.length) (b := S2.length) (n := n) hKX (by omega) l2 s16 (fun e he => by have := h1.lt he; omega) hl es [] rfl ⟨e, List.mem_of_getElem? he, hn⟩ L [] [] none none (Kp.refl _) ga rfl (Nat.le_refl _) gb rfl (Nat.le_refl _)
  have g4 : S4[9]? = some (.fd (spD 0 es)) := q4 _ _ (by simp; omega) g9
  have fs := h3.fsp
  have it : ∀ e, itmF (un1 (fldK "Keeper" "spots") (varF 0)) (some (.ref 1) :: e) L = .ok ((spD 0 es).map prK, []) L := fun e => by
    have f9 := hKX.fsp
    unfold itmF
    show ((un1 (fldK "Keeper" "spots") (varF 0)) (some (.ref 1) :: e) L).bind itmD = _
    simp -implicitDefEqProofs +decide only [varF_ap, cF_ap, opF_ap, opK_ap, bF_ap, boolK_ap, andT_ap, andK_ap, orT_ap, orK_ap, notT_ap, notK_ap, yesT_ap, andV_ap, andVK_ap, orV_ap, orVK_ap, notV_ap, notVK_ap, ifF_ap, ifFK_ap, nilA_ap, consA_ap, consK_ap, consJ_ap, tupA_ap, lstA_ap, newO_ap, dicF_ap, callF_ap, un1_ap, methF_ap, nonO_ap, someO_ap, someK_ap, slF_ap, slK_ap, slJ_ap, itF_ap, itA_ap, nilS_ap, bkS_ap, ctS_ap, seqS_ap, seqK_nx, seqK_rt, seqK_bk, seqK_ct, dropS_ap, dropK_ap, retS_ap, retK_ap, retN_ap, ifS_ap, ifK_ap, setS_ap, setK_ap, asgS_ap, asgK_ap, asgJ_ap, nameG_ap, nilG_ap, consG_ap, consGK_ap, fnF_ap, fnK_nx, fnK_rt, forS_ap, forK_ap, negD_ap, addI_ap, varK_ap, startE, yes2, isN, List.map_cons, List.map_nil, List.length_cons, List.length_nil, List.replicate, List.append_nil, List.cons_append, List.nil_append, List.getElem?_cons_zero, List.getElem?_cons_succ, List.set_cons_zero, List.set_cons_succ, R.bind_ok, R.bind_ex, R.bind_bad, R.noex_ok, if_true, if_false, Bool.false_eq_true, Bool.true_eq_false, ite_true, ite_false, reduceIte, Nat.reduceAdd, Nat.reduceSub, Nat.zero_add, Nat.sub_self, Nat.sub_zero, decide_true, decide_false, Bool.not_true, Bool.not_false, subD_ap, ltD_ap, leD_ap, gtD_ap, geD_ap, mulD_ap, modD_ap, divD_ap, powD_ap, tupK_ok, lstK_ok, methK_ok, tupG_ok, eqS_t, eqS_f, neS_t, neS_f, eqI_ap, neI_ap, inT_nil, inT_hit, inT_miss, ne_eq, not_false_eq_true, f9]
    simp only [itmD, g9]
  have lk : lockS (un1 (fldK "Keeper" "spots") (varF 0)) (forS (itmF (un1 (fldK "Keeper" "spots") (varF 0))) (tupG 2 (consG (nameG 4) (consG (nameG 5) nilG))) l0_Keeper_plainly) [some (.ref 1), some (.str n), some (.ref S1.length), some (.ref S2.length), none, none] S3 = .ok (.rt (.ref r)) (S4.set 9 (.dic (spD 0 es))) := by
    have e1 : lkN (un1 (fldK "Keeper" "spots") (varF 0)) [some (.ref 1), some (.str n), some (.ref S1.length), some (.ref S2.length), none, none] S3 = some 9 := by unfold lkN; simp -implicitDefEqProofs +decide only [varF_ap, cF_ap, opF_ap, opK_ap, bF_ap, boolK_ap, andT_ap, andK_ap, orT_ap, orK_ap, notT_ap, notK_ap, yesT_ap, andV_ap, andVK_ap, orV_ap, orVK_ap, notV_ap, notVK_ap, ifF_ap, ifFK_ap, nilA_ap, consA_ap, consK_ap, consJ_ap, tupA_ap, lstA_ap, newO_ap, dicF_ap, callF_ap, un1_ap, methF_ap, nonO_ap, someO_ap, someK_ap, slF_ap, slK_ap, slJ_ap, itF_ap, itA_ap, nilS_ap, bkS_ap, ctS_ap, seqS_ap, seqK_nx, seqK_rt, seqK_bk, seqK_ct, dropS_ap, dropK_ap, retS_ap, retK_ap, retN_ap, ifS_ap, ifK_ap, setS_ap, setK_ap, asgS_ap, asgK_ap, asgJ_ap, nameG_ap, nilG_ap, consG_ap, consGK_ap, fnF_ap, fnK_nx, fnK_rt, forS_ap, forK_ap, negD_ap, addI_ap, varK_ap, startE, yes2, isN, List.map_cons, List.map_nil, List.length_cons, List.length_nil, List.replicate, List.append_nil, List.cons_append, List.nil_append, List.getElem?_cons_zero, List.getElem?_cons_succ, List.set_cons_zero, List.set_cons_succ, R.bind_ok, R.bind_ex, R.bind_bad, R.noex_ok, if_true, if_false, Bool.false_eq_true, Bool.true_eq_false, ite_true, ite_false, reduceIte, Nat.reduceAdd, Nat.reduceSub, Nat.zero_add, Nat.sub_self, Nat.sub_zero, decide_true, decide_false, Bool.not_true, Bool.not_false, subD_ap, ltD_ap, leD_ap, gtD_ap, geD_ap, mulD_ap, modD_ap, divD_ap, powD_ap, tupK_ok, lstK_ok, methK_ok, tupG_ok, eqS_t, eqS_f, neS_t, neS_f, eqI_ap, neI_ap, inT_nil, inT_hit, inT_miss, ne_eq, not_false_eq_true, fs]
    unfold lockS
    rw [e1]
    show lkS 9 _ _ S3 = _
    have fl' : forS (itmF (un1 (fldK "Keeper" "spots") (varF 0))) (tupG 2 (consG (nameG 4) (consG (nameG 5) nilG))) l0_Keeper_plainly [some (.ref 1), some (.str n), some (.ref S1.length), some (.ref S2.length), none, none] (S3.set 9 (.fd (spD 0 es))) = .ok (.rt (.ref r)) S4 := by
      rw [← hL]
      exact forS_ok (it _) fl
    simp only [lkS, h3.sp, spD_keys, if_true, fl', R.bind_ok, unlK, g4]
  refine ⟨r, S4.set 9 (.dic (spD 0 es)), ?_, ?_, ?_⟩
  · have d1 : dicF [some (.ref 1), some (.str n), none, none, none, none] S1 = .ok (.ref S1.length) S2 := by rw [dicF_ap, hS2]
    have d2 : dicF [some (.ref 1), some (.str n), some (.ref S1.length), none, none, none] S2 = .ok (.ref S2.length) S3 := by rw [dicF_ap, hS3]
    simp -implicitDefEqProofs +decide only [varF_ap, cF_ap, opF_ap, opK_ap, bF_ap, boolK_ap, andT_ap, andK_ap, orT_ap, orK_ap, notT_ap, notK_ap, yesT_ap, andV_ap, andVK_ap, orV_ap, orVK_ap, notV_ap, notVK_ap, ifF_ap, ifFK_ap, nilA_ap, consA_ap, consK_ap, consJ_ap, tupA_ap, lstA_ap, newO_ap, dicF_ap, callF_ap, un1_ap, methF_ap, nonO_ap, someO_ap, someK_ap, slF_ap, slK_ap, slJ_ap, itF_ap, itA_ap, nilS_ap, bkS_ap, ctS_ap, seqS_ap, seqK_nx, seqK_rt, seqK_bk, seqK_ct, dropS_ap, dropK_ap, retS_ap, retK_ap, retN_ap, ifS_ap, ifK_ap, setS_ap, setK_ap, asgS_ap, asgK_ap, asgJ_ap, nameG_ap, nilG_ap, consG_ap, consGK_ap, fnF_ap, fnK_nx, fnK_rt, forS_ap, forK_ap, negD_ap, addI_ap, varK_ap, startE, yes2, isN, List.map_cons, List.map_nil, List.length_cons, List.length_nil, List.replicate, List.append_nil, List.cons_append, List.nil_append, List.getElem?_cons_zero, List.getElem?_cons_succ, List.set_cons_zero, List.set_cons_succ, R.bind_ok, R.bind_ex, R.bind_bad, R.noex_ok, if_true, if_false, Bool.false_eq_true, Bool.true_eq_false, ite_true, ite_false, reduceIte, Nat.reduceAdd, Nat.reduceSub, Nat.zero_add, Nat.sub_self, Nat.sub_zero, decide_true, decide_false, Bool.not_true, Bool.not_false, subD_ap, ltD_ap, leD_ap, gtD_ap, geD_ap, mulD_ap, modD_ap, divD_ap, powD_ap, tupK_ok, lstK_ok, methK_ok, tupG_ok, eqS_t, eqS_f, neS_t, neS_f, eqI_ap, neI_ap, inT_nil, inT_hit, inT_miss, ne_eq, not_false_eq_true, f_Keeper_plainly, b_Keeper_plainly, m2, fnC_ap, e1, ↓d1, ↓d2, ↓lk]
  · rw [List.getElem?_set_ne (by omega)]; exact gr
  · intro i u _ hu
    by_cases hi : i = 9
    · subst hi
      rw [List.getElem?_set_self (List.getElem?_eq_some_iff.mp g4).1]
      have := (h.kp0 q).sp
      have h9 := q _ _ (by simp) hu
      rw [this] at h9
      exact h9
    · rw [List.getElem?_set_ne (Ne.symm hi)]
      have h1' := q _ _ (by simp) hu
      have il := (List.getElem?_eq_some_iff.mp h1').1
      exact q4 _ _ (by simp; omega) (g' hi ((L2.trans L3).get h1'))
end Law
namespace Law
open PySem L2 VL
theorem dget_nd {es : List Ent} (nd : (es.map (·.n)).Nodup) {i : Nat} {e : Ent} (h : es[i]? = some e) (f : Ent → VL.D) : dget (mpD f es) (.str e.n) = some (f e) ∧ dget (spD 0 es) (.str e.n) = some (.int (i : Nat)) := by
  rcases look_es e.n es 0 with ⟨h1, _⟩ | ⟨j, x, h1, h2, h3, h4, h5⟩
  · exact absurd rfl (h1 e (List.mem_of_getElem? h))
  · have hi := (List.getElem?_eq_some_iff.mp h).1
    have hj := (List.getElem?_eq_some_iff.mp h1).1
    have e1 : (es.map (·.n))[i]? = some e.n := by rw [List.getElem?_map, h]; rfl
    have e2 : (es.map (·.n))[j]? = some e.n := by rw [List.getElem?_map, h1, ← h2]; rfl
    have e3 := (List.getElem?_eq_some_iff.mp e1)
    have e4 := (List.getElem?_eq_some_iff.mp e2)
    have : i = j := by
      have pw := List.pairwise_iff_getElem.mp nd
      rcases Nat.lt_trichotomy i j with z | z | z
      · exact absurd (e3.2.trans e4.2.symm) (pw i j e3.1 e4.1 z)
      · exact z
      · exact absurd (e4.2.trans e3.2.symm) (pw j i e4.1 e3.1 z)
    subst this
    rw [h] at h1
    cases h1
    rw [Nat.zero_add] at h5
    exact ⟨h4 f, h5⟩
/-- a table as it is kept -/
def kt (e : Ent) (x : Nat) : VL.D := .tup [.str "table", .str e.n, .int e.w, .ref x]
def KL (es : List Ent) (ds : List VL.D) (S : Sto) : Prop := ds.length = es.length ∧ ∀ (k : Nat) (e : Ent), es[k]? = some e → ∃ x, ds[k]? = some (kt e x) ∧ S[x]? = some (.lst [])
theorem kept_ok {es : List Ent} {st : Sto} (h : KS es st) (nd : (es.map (·.n)).Nodup) (hl : es.length ≤ 1000) : ∃ r ds S', f_Keeper_kept [.ref 1] st = .ok (.ref r) S' ∧ S'[r]? = some (.lst ds) ∧ KL es ds S' ∧ Kp [] st S' ∧ st.length ≤ r := by
  obtain ⟨S1, hS1⟩ : ∃ T, T = st ++ [VL.O.lst []] := ⟨_, rfl⟩
  have L1 : Le st S1 := hS1 ▸ Le.app _ _
  have l1 : S1.length = st.length + 1 := by rw [hS1, List.length_append]; rfl
  have h1 := h.le L1
  have s16 : 16 ≤ st.length := (List.getElem?_eq_some_iff.mp h.pr).1
  obtain ⟨L, hL⟩ : ∃ T, T = S1.set 9 (.fd (spD 0 es)) := ⟨_, rfl⟩
  have qL : Kp [9] S1 L := hL ▸ Kp.set (by simp)
  have g9 : L[9]? = some (.fd (spD 0 es)) := by rw [hL, List.getElem?_set_self (by omega)]
  have g' : ∀ {i : Nat} {u : VL.O}, i ≠ 9 → S1[i]? = some u → L[i]? = some u := fun hi e => qL _ _ (by simpa using hi) e
  have hKX : KX (.fd (spD 0 es)) es L := ⟨g' (by decide) h1.k, g' (by decide) h1.m, g' (by decide) h1.n, ⟨g' (by decide) h1.at_.l, g' (by decide) h1.at_.w, g' (by decide) h1.at_.d⟩, g' (by decide) h1.pa, g' (by decide) h1.bg, g9, g' (by decide) h1.wd, g' (by decide) h1.sz, g' (by decide) h1.tx, g' (by decide) h1.tr, g' (by decide) h1.nw, g' (by decide) h1.pr,
    fun e he => ⟨⟨(h1.bs e he).1.1, g' (by have := (h1.bs e he).1.1; omega) (h1.bs e he).1.2⟩, (h1.bs e he).2.1, g' (by have := (h1.bs e he).2.1; omega) (h1.bs e he).2.2⟩⟩
  have lL : L.length = S1.length := by rw [hL, List.length_set]
  have ga : L[st.length]? = some (.lst []) := g' (by omega) (hS1 ▸ get_last)
  obtain ⟨e', S4, fl, z2, z3, ds, he, q4, gd, ld, hd⟩ := forL_inv (c := []) (gf := tupG 2 (consG (nameG 2) (consG (nameG 3) nilG))) (b := l0_Keeper_kept) (ds := (spD 0 es).map prK) (env := [some (.ref 1), some (.ref st.length), none, none]) (st := L)
    (fun i env S => ∃ z2 z3 ds, env = [some (.ref 1), some (.ref st.length), z2, z3] ∧ Kp [st.length] L S ∧ S[st.length]? = some (.lst ds) ∧ ds.length = i ∧ ∀ (k : Nat) (e : Ent), k < i → es[k]? = some e → ∃ x, ds[k]? = some (kt e x) ∧ S[x]? = some (.lst []) ∧ x ≠ st.length)
    ⟨none, none, [], rfl, Kp.refl _, ga, rfl, fun k e hk => absurd hk (Nat.not_lt_zero _)⟩ (fun _ _ _ _ => ChkOk.nil) fun i x env S hx ⟨z2, z3, ds, he, q, gd, ld, hd⟩ => by
      subst he
      rw [List.getElem?_map] at hx
      obtain ⟨p, hp, rfl⟩ := Option.map_eq_some_iff.mp hx
      have hi : i < es.length := by
        have := (List.getElem?_eq_some_iff.mp hp).1
        rwa [spD_len] at this
      obtain ⟨e, hE⟩ : ∃ e, es[i]? = some e := ⟨_, List.getElem?_eq_getElem hi⟩
      have := spD_get (i := 0) hE
      rw [this, Nat.zero_add] at hp
      cases hp
      have hS := hKX.kp q (by simp; omega) (fun e he => by have := h.lt he; simp; omega)
      have dn := (din_no hS.tx (kvs := []) (k := .str e.n) rfl rfl rfl).1
      have ft := hS.ftx
      have fw := hS.fwd
      have dx := dix_ok hS.wd mpD_keys (k := .str e.n) rfl (dget_nd nd hE _).1
      have m1 := fun fa e => (hS.mM (m := "rows_of") (by decide) f_Machine_rows_of fa e).1
      have rw_ := rows_ok hS hE
      have tl := told_ok (n := S.length) (st := S ++ [.dic []]) get_last
      have ty : tyD "list" (VL.D.ref st.length) S := tyD_list (listAt_lst gd)
      obtain ⟨T, hT⟩ : ∃ T, T = S ++ [VL.O.dic []] ++ [VL.O.lst [], VL.O.lst []] := ⟨_, rfl⟩
      have LT : Le S T := hT ▸ (Le.app _ _).trans (Le.app _ _)
      rw [← hT] at tl
      have sl : (S ++ [VL.O.dic []]).length = S.length + 1 := by rw [List.length_append]; rfl
      rw [sl] at tl
      have ap : appD (.ref st.length) [kt e (S.length + 1 + 1)] T = .ok .non (T.set st.length (.lst (ds ++ [kt e (S.length + 1 + 1)]))) := appD_ok (LT.get gd) (by rw [sizeLine_eq']; omega)
      have kt' : kt e (S.length + 1 + 1) = .tup [.str "table", .str e.n, .int e.w, .ref (S.length + 1 + 1)] := rfl
      rw [kt'] at ap
      have slt : st.length < S.length := (List.getElem?_eq_some_iff.mp gd).1
      have gx : T[S.length + 1 + 1]? = some (.lst []) := by
        rw [hT, List.getElem?_append_right (by rw [sl]; omega), sl]
        simp
      refine ⟨[some (.ref 1), some (.ref st.length), some (.str e.n), some (.int (i : Nat))], S, [some (.ref 1), some (.ref st.length), some (.str e.n), some (.int (i : Nat))], T.set st.length (.lst (ds ++ [kt e (S.length + 1 + 1)])), rfl, ?_, some (.str e.n), some (.int (i : Nat)), ds ++ [kt e (S.length + 1 + 1)], rfl, (q.trans (Kp.le LT)).trans (Kp.set (by simp)), ?_, ?_, ?_⟩
      · rw [kt']
        simp -implicitDefEqProofs +decide only [varF_ap, cF_ap, opF_ap, opK_ap, bF_ap, boolK_ap, andT_ap, andK_ap, orT_ap, orK_ap, notT_ap, notK_ap, yesT_ap, andV_ap, andVK_ap, orV_ap, orVK_ap, notV_ap, notVK_ap, ifF_ap, ifFK_ap, nilA_ap, consA_ap, consK_ap, consJ_ap, tupA_ap, lstA_ap, newO_ap, dicF_ap, callF_ap, un1_ap, methF_ap, nonO_ap, someO_ap, someK_ap, slF_ap, slK_ap, slJ_ap, itF_ap, itA_ap, nilS_ap, bkS_ap, ctS_ap, seqS_ap, seqK_nx, seqK_rt, seqK_bk, seqK_ct, dropS_ap, dropK_ap, retS_ap, retK_ap, retN_ap, ifS_ap, ifK_ap, setS_ap, setK_ap, asgS_ap, asgK_ap, asgJ_ap, nameG_ap, nilG_ap, consG_ap, consGK_ap, fnF_ap, fnK_nx, fnK_rt, forS_ap, forK_ap, negD_ap, addI_ap, varK_ap, startE, yes2, isN, List.map_cons, List.map_nil, List.length_cons, List.length_nil, List.replicate, List.append_nil, List.cons_append, List.nil_append, List.getElem?_cons_zero, List.getElem?_cons_succ, List.set_cons_zero, List.set_cons_succ, R.bind_ok, R.bind_ex, R.bind_bad, R.noex_ok, if_true, if_false, Bool.false_eq_true, Bool.true_eq_false, ite_true, ite_false, reduceIte, Nat.reduceAdd, Nat.reduceSub, Nat.zero_add, Nat.sub_self, Nat.sub_zero, decide_true, decide_false, Bool.not_true, Bool.not_false, subD_ap, ltD_ap, leD_ap, gtD_ap, geD_ap, mulD_ap, modD_ap, divD_ap, powD_ap, tupK_ok, lstK_ok, methK_ok, tupG_ok, eqS_t, eqS_f, neS_t, neS_f, eqI_ap, neI_ap, inT_nil, inT_hit, inT_miss, ne_eq, not_false_eq_true, l0_Keeper_kept, ft, dn, ty, fw, dx, m1, fnC_ap, rw_, tl, sz (by decide : 4 ≤ 100), ap]
      · rw [List.getElem?_set_self (by have := (List.getElem?_eq_some_iff.mp (LT.get gd)).1; exact this)]
      · rw [List.length_append, ld]; rfl
      · intro k y hk hy
        rcases Nat.lt_or_ge k i with hk' | hk'
        · obtain ⟨x, x1, x2, x3⟩ := hd k y hk' hy
          exact ⟨x, by rw [List.getElem?_append_left (by omega)]; exact x1, by rw [List.getElem?_set_ne (Ne.symm x3)]; exact LT.get x2, x3⟩
        · have : k = i := by omega
          subst this
          rw [hE] at hy
          cases hy
          exact ⟨S.length + 1 + 1, by rw [List.getElem?_append_right (by omega), ld, Nat.sub_self]; rfl, by rw [List.getElem?_set_ne (by omega)]; exact gx, by omega⟩
  subst he
  rw [List.length_map, spD_len] at ld hd
  have g4 : S4[9]? = some (.fd (spD 0 es)) := q4 _ _ (by simp; omega) g9
  have fs := h1.fsp
  have it : ∀ e, itmF (un1 (fldK "Keeper" "spots") (varF 0)) (some (.ref 1) :: e) L = .ok ((spD 0 es).map prK, []) L := fun e => by
    have f9 := hKX.fsp
    unfold itmF
    show ((un1 (fldK "Keeper" "spots") (varF 0)) (some (.ref 1) :: e) L).bind itmD = _
    simp -implicitDefEqProofs +decide only [varF_ap, cF_ap, opF_ap, opK_ap, bF_ap, boolK_ap, andT_ap, andK_ap, orT_ap, orK_ap, notT_ap, notK_ap, yesT_ap, andV_ap, andVK_ap, orV_ap, orVK_ap, notV_ap, notVK_ap, ifF_ap, ifFK_ap, nilA_ap, consA_ap, consK_ap, consJ_ap, tupA_ap, lstA_ap, newO_ap, dicF_ap, callF_ap, un1_ap, methF_ap, nonO_ap, someO_ap, someK_ap, slF_ap, slK_ap, slJ_ap, itF_ap, itA_ap, nilS_ap, bkS_ap, ctS_ap, seqS_ap, seqK_nx, seqK_rt, seqK_bk, seqK_ct, dropS_ap, dropK_ap, retS_ap, retK_ap, retN_ap, ifS_ap, ifK_ap, setS_ap, setK_ap, asgS_ap, asgK_ap, asgJ_ap, nameG_ap, nilG_ap, consG_ap, consGK_ap, fnF_ap, fnK_nx, fnK_rt, forS_ap, forK_ap, negD_ap, addI_ap, varK_ap, startE, yes2, isN, List.map_cons, List.map_nil, List.length_cons, List.length_nil, List.replicate, List.append_nil, List.cons_append, List.nil_append, List.getElem?_cons_zero, List.getElem?_cons_succ, List.set_cons_zero, List.set_cons_succ, R.bind_ok, R.bind_ex, R.bind_bad, R.noex_ok, if_true, if_false, Bool.false_eq_true, Bool.true_eq_false, ite_true, ite_false, reduceIte, Nat.reduceAdd, Nat.reduceSub, Nat.zero_add, Nat.sub_self, Nat.sub_zero, decide_true, decide_false, Bool.not_true, Bool.not_false, subD_ap, ltD_ap, leD_ap, gtD_ap, geD_ap, mulD_ap, modD_ap, divD_ap, powD_ap, tupK_ok, lstK_ok, methK_ok, tupG_ok, eqS_t, eqS_f, neS_t, neS_f, eqI_ap, neI_ap, inT_nil, inT_hit, inT_miss, ne_eq, not_false_eq_true, f9]
    simp only [itmD, g9]
  have lk : lockS (un1 (fldK "Keeper" "spots") (varF 0)) (forS (itmF (un1 (fldK "Keeper" "spots") (varF 0))) (tupG 2 (consG (nameG 2) (consG (nameG 3) nilG))) l0_Keeper_kept) [some (.ref 1), some (.ref st.length), none, none] S1 = .ok (.nx [some (.ref 1), some (.ref st.length), z2, z3]) (S4.set 9 (.dic (spD 0 es))) := by
    have e1 : lkN (un1 (fldK "Keeper" "spots") (varF 0)) [some (.ref 1), some (.ref st.length), none, none] S1 = some 9 := by unfold lkN; simp -implicitDefEqProofs +decide only [varF_ap, cF_ap, opF_ap, opK_ap, bF_ap, boolK_ap, andT_ap, andK_ap, orT_ap, orK_ap, notT_ap, notK_ap, yesT_ap, andV_ap, andVK_ap, orV_ap, orVK_ap, notV_ap, notVK_ap, ifF_ap, ifFK_ap, nilA_ap, consA_ap, consK_ap, consJ_ap, tupA_ap, lstA_ap, newO_ap, dicF_ap, callF_ap, un1_ap, methF_ap, nonO_ap, someO_ap, someK_ap, slF_ap, slK_ap, slJ_ap, itF_ap, itA_ap, nilS_ap, bkS_ap, ctS_ap, seqS_ap, seqK_nx, seqK_rt, seqK_bk, seqK_ct, dropS_ap, dropK_ap, retS_ap, retK_ap, retN_ap, ifS_ap, ifK_ap, setS_ap, setK_ap, asgS_ap, asgK_ap, asgJ_ap, nameG_ap, nilG_ap, consG_ap, consGK_ap, fnF_ap, fnK_nx, fnK_rt, forS_ap, forK_ap, negD_ap, addI_ap, varK_ap, startE, yes2, isN, List.map_cons, List.map_nil, List.length_cons, List.length_nil, List.replicate, List.append_nil, List.cons_append, List.nil_append, List.getElem?_cons_zero, List.getElem?_cons_succ, List.set_cons_zero, List.set_cons_succ, R.bind_ok, R.bind_ex, R.bind_bad, R.noex_ok, if_true, if_false, Bool.false_eq_true, Bool.true_eq_false, ite_true, ite_false, reduceIte, Nat.reduceAdd, Nat.reduceSub, Nat.zero_add, Nat.sub_self, Nat.sub_zero, decide_true, decide_false, Bool.not_true, Bool.not_false, subD_ap, ltD_ap, leD_ap, gtD_ap, geD_ap, mulD_ap, modD_ap, divD_ap, powD_ap, tupK_ok, lstK_ok, methK_ok, tupG_ok, eqS_t, eqS_f, neS_t, neS_f, eqI_ap, neI_ap, inT_nil, inT_hit, inT_miss, ne_eq, not_false_eq_true, fs]
    unfold lockS
    rw [e1]
    show lkS 9 _ _ S1 = _
    have fl' : forS (itmF (un1 (fldK "Keeper" "spots") (varF 0))) (tupG 2 (consG (nameG 2) (consG (nameG 3) nilG))) l0_Keeper_kept [some (.ref 1), some (.ref st.length), none, none] (S1.set 9 (.fd (spD 0 es))) = .ok (.nx [some (.ref 1), some (.ref st.length), z2, z3]) S4 := by
      rw [← hL]
      exact forS_ok (it _) fl
    simp only [lkS, h1.sp, spD_keys, if_true, fl', R.bind_ok, unlK, g4]
  refine ⟨st.length, ds, S4.set 9 (.dic (spD 0 es)), ?_, ?_, ⟨ld, fun k e hk => ?_⟩, ?_, Nat.le_refl _⟩
  · simp -implicitDefEqProofs +decide only [varF_ap, cF_ap, opF_ap, opK_ap, bF_ap, boolK_ap, andT_ap, andK_ap, orT_ap, orK_ap, notT_ap, notK_ap, yesT_ap, andV_ap, andVK_ap, orV_ap, orVK_ap, notV_ap, notVK_ap, ifF_ap, ifFK_ap, nilA_ap, consA_ap, consK_ap, consJ_ap, tupA_ap, lstA_ap, newO_ap, dicF_ap, callF_ap, un1_ap, methF_ap, nonO_ap, someO_ap, someK_ap, slF_ap, slK_ap, slJ_ap, itF_ap, itA_ap, nilS_ap, bkS_ap, ctS_ap, seqS_ap, seqK_nx, seqK_rt, seqK_bk, seqK_ct, dropS_ap, dropK_ap, retS_ap, retK_ap, retN_ap, ifS_ap, ifK_ap, setS_ap, setK_ap, asgS_ap, asgK_ap, asgJ_ap, nameG_ap, nilG_ap, consG_ap, consGK_ap, fnF_ap, fnK_nx, fnK_rt, forS_ap, forK_ap, negD_ap, addI_ap, varK_ap, startE, yes2, isN, List.map_cons, List.map_nil, List.length_cons, List.length_nil, List.replicate, List.append_nil, List.cons_append, List.nil_append, List.getElem?_cons_zero, List.getElem?_cons_succ, List.set_cons_zero, List.set_cons_succ, R.bind_ok, R.bind_ex, R.bind_bad, R.noex_ok, if_true, if_false, Bool.false_eq_true, Bool.true_eq_false, ite_true, ite_false, reduceIte, Nat.reduceAdd, Nat.reduceSub, Nat.zero_add, Nat.sub_self, Nat.sub_zero, decide_true, decide_false, Bool.not_true, Bool.not_false, subD_ap, ltD_ap, leD_ap, gtD_ap, geD_ap, mulD_ap, modD_ap, divD_ap, powD_ap, tupK_ok, lstK_ok, methK_ok, tupG_ok, eqS_t, eqS_f, neS_t, neS_f, eqI_ap, neI_ap, inT_nil, inT_hit, inT_miss, ne_eq, not_false_eq_true, f_Keeper_kept, b_Keeper_kept, sz (by decide : 0 ≤ 100), ← hS1, ↓lk]
  · rw [List.getElem?_set_ne (by omega)]; exact gd
  · obtain ⟨x, x1, x2, x3⟩ := hd k e (List.getElem?_eq_some_iff.mp hk).1 hk
    refine ⟨x, x1, ?_⟩
    have : x ≠ 9 := fun z => by rw [z, g4] at x2; cases x2
    rw [List.getElem?_set_ne (Ne.symm this)]; exact x2
  · intro i u _ hu
    by_cases hi : i = 9
    · subst hi
      rw [List.getElem?_set_self (List.getElem?_eq_some_iff.mp g4).1]
      rw [h.sp] at hu
      exact hu
    · rw [List.getElem?_set_ne (Ne.symm hi)]
      have il := (List.getElem?_eq_some_iff.mp hu).1
      exact q4 _ _ (by simp; omega) (g' hi (L1.get hu))
end Law
namespace Law
open PySem L2 VL
theorem which_go {c : Str} {b0 b1 b2 b3 b4 b5 b6 b7 b8 b9 b10 b11 : Bool} {k : Nat}
    (h0 : xtab c "NoName" = some b0) (h1 : xtab c "Twice" = some b1) (h2 : xtab c "NoWidth" = some b2) (h3 : xtab c "NoText" = some b3) (h4 : xtab c "NoPlace" = some b4) (h5 : xtab c "Unlike" = some b5) (h6 : xtab c "Wide" = some b6) (h7 : xtab c "TooLarge" = some b7) (h8 : xtab c "NoRow" = some b8) (h9 : xtab c "NoCount" = some b9) (h10 : xtab c "Short" = some b10) (h11 : xtab c "NoChange" = some b11)
    (hv : xtabT c "ValueError" = some true) (hc : [b0, b1, b2, b3, b4, b5, b6, b7, b8, b9, b10, b11].count true = 1) (hi : ([b0, b1, b2, b3, b4, b5, b6, b7, b8, b9, b10, b11].map VL.D.bl).findIdx? (fun x => eqF x (.bl true)) = some k) :
    ∃ S', f__law_which [.exc c] [] = .ok (.int (k : Nat)) S' := by
  have g : ∀ (C : Str) (b : Bool) (s : Sto), xtab c C = some b → isxD xtab xtabT [.exc c, .glb C] s = .ok (.bl b) s := fun C b s h => by simp only [isxD, h]
  have gv : ∀ s, isxD xtab xtabT [.exc c, .ty "ValueError"] s = .ok (.bl true) s := fun s => by simp only [isxD, hv]
  have e0 := fun s => g _ _ s h0
  have e1 := fun s => g _ _ s h1
  have e2 := fun s => g _ _ s h2
  have e3 := fun s => g _ _ s h3
  have e4 := fun s => g _ _ s h4
  have e5 := fun s => g _ _ s h5
  have e6 := fun s => g _ _ s h6
  have e7 := fun s => g _ _ s h7
  have e8 := fun s => g _ _ s h8
  have e9 := fun s => g _ _ s h9
  have e10 := fun s => g _ _ s h10
  have e11 := fun s => g _ _ s h11
  obtain ⟨S0, hS0⟩ : ∃ T : Sto, T = [] := ⟨_, rfl⟩
  rw [← hS0]
  obtain ⟨S1, hS1⟩ : ∃ T, T = S0 ++ [VL.O.lst [.bl b0, .bl b1, .bl b2, .bl b3]] := ⟨_, rfl⟩
  obtain ⟨S2, hS2⟩ : ∃ T, T = S1 ++ [VL.O.lst [.bl b4, .bl b5, .bl b6, .bl b7]] := ⟨_, rfl⟩
  obtain ⟨S3, hS3⟩ : ∃ T, T = S2 ++ [VL.O.lst [.bl b0, .bl b1, .bl b2, .bl b3, .bl b4, .bl b5, .bl b6, .bl b7]] := ⟨_, rfl⟩
  obtain ⟨S4, hS4⟩ : ∃ T, T = S3 ++ [VL.O.lst [.bl b8, .bl b9, .bl b10, .bl b11]] := ⟨_, rfl⟩
  obtain ⟨S5, hS5⟩ : ∃ T, T = S4 ++ [VL.O.lst ([b0, b1, b2, b3, b4, b5, b6, b7, b8, b9, b10, b11].map VL.D.bl)] := ⟨_, rfl⟩
  have L2 : Le S1 S2 := hS2 ▸ Le.app _ _
  have L4 : Le S3 S4 := hS4 ▸ Le.app _ _
  have a1 : addD (.ref S0.length) (.ref S1.length) S2 = .ok (.ref S2.length) S3 := by
    rw [addD_lst (L2.get (hS1 ▸ get_last)) (hS2 ▸ get_last) (by rw [sizeLine_eq']; exact Nat.le_of_ble_eq_true rfl), hS3]; rfl
  have a2 : addD (.ref S2.length) (.ref S3.length) S4 = .ok (.ref S4.length) S5 := by
    rw [addD_lst (L4.get (hS3 ▸ get_last)) (hS4 ▸ get_last) (by rw [sizeLine_eq']; exact Nat.le_of_ble_eq_true rfl), hS5]; rfl
  have la : listAt S5 S4.length = some ([b0, b1, b2, b3, b4, b5, b6, b7, b8, b9, b10, b11].map VL.D.bl) := hS5 ▸ listAt_last
  have ty : tyD "list" (VL.D.ref S4.length) S5 := tyD_list la
  have cn : cntD (.ref S4.length) [.bl true] S5 = .ok (.int 1) S5 := by
    simp only [cntD, la, Option.bind_some, truO_map, hc]; rfl
  have fl : ([b0, b1, b2, b3, b4, b5, b6, b7, b8, b9, b10, b11].map VL.D.bl).all flatD = true := rfl
  have ix : idxD (.ref S4.length) [.bl true] S5 = .ok (.int (k : Nat)) S5 := by
    simp only [idxD, la]
    rw [if_pos ⟨rfl, fl⟩, hi]
  exact ⟨S5, by simp -implicitDefEqProofs +decide only [varF_ap, cF_ap, opF_ap, opK_ap, bF_ap, boolK_ap, andT_ap, andK_ap, orT_ap, orK_ap, notT_ap, notK_ap, yesT_ap, andV_ap, andVK_ap, orV_ap, orVK_ap, notV_ap, notVK_ap, ifF_ap, ifFK_ap, nilA_ap, consA_ap, consK_ap, consJ_ap, tupA_ap, lstA_ap, newO_ap, dicF_ap, callF_ap, un1_ap, methF_ap, nonO_ap, someO_ap, someK_ap, slF_ap, slK_ap, slJ_ap, itF_ap, itA_ap, nilS_ap, bkS_ap, ctS_ap, seqS_ap, seqK_nx, seqK_rt, seqK_bk, seqK_ct, dropS_ap, dropK_ap, retS_ap, retK_ap, retN_ap, ifS_ap, ifK_ap, setS_ap, setK_ap, asgS_ap, asgK_ap, asgJ_ap, nameG_ap, nilG_ap, consG_ap, consGK_ap, fnF_ap, fnK_nx, fnK_rt, forS_ap, forK_ap, negD_ap, addI_ap, varK_ap, startE, yes2, isN, List.map_cons, List.map_nil, List.length_cons, List.length_nil, List.replicate, List.append_nil, List.cons_append, List.nil_append, List.getElem?_cons_zero, List.getElem?_cons_succ, List.set_cons_zero, List.set_cons_succ, R.bind_ok, R.bind_ex, R.bind_bad, R.noex_ok, if_true, if_false, Bool.false_eq_true, Bool.true_eq_false, ite_true, ite_false, reduceIte, Nat.reduceAdd, Nat.reduceSub, Nat.zero_add, Nat.sub_self, Nat.sub_zero, decide_true, decide_false, Bool.not_true, Bool.not_false, subD_ap, ltD_ap, leD_ap, gtD_ap, geD_ap, mulD_ap, modD_ap, divD_ap, powD_ap, tupK_ok, lstK_ok, methK_ok, tupG_ok, eqS_t, eqS_f, neS_t, neS_f, eqI_ap, neI_ap, inT_nil, inT_hit, inT_miss, ne_eq, not_false_eq_true, f__law_which, b__law_which, e0, e1, e2, e3, e4, e5, e6, e7, e8, e9, e10, e11, gv, sz (by decide : 4 ≤ 100), ← hS1, ← hS2, ← hS4, a1, a2, ty, cn, ix]⟩
theorem which_ok : (∃ S', f__law_which [.exc "NoName"] [] = .ok (.int 0) S') ∧ (∃ S', f__law_which [.exc "Twice"] [] = .ok (.int 1) S') ∧ ∃ S', f__law_which [.exc "NoWidth"] [] = .ok (.int 2) S' := by
  refine ⟨which_go (k := 0) (b0 := true) (b1 := false) (b2 := false) (b3 := false) (b4 := false) (b5 := false) (b6 := false) (b7 := false) (b8 := false) (b9 := false) (b10 := false) (b11 := false) ?_ ?_ ?_ ?_ ?_ ?_ ?_ ?_ ?_ ?_ ?_ ?_ ?_ (by decide) (by decide),
    which_go (k := 1) (b0 := false) (b1 := true) (b2 := false) (b3 := false) (b4 := false) (b5 := false) (b6 := false) (b7 := false) (b8 := false) (b9 := false) (b10 := false) (b11 := false) ?_ ?_ ?_ ?_ ?_ ?_ ?_ ?_ ?_ ?_ ?_ ?_ ?_ (by decide) (by decide),
    which_go (k := 2) (b0 := false) (b1 := false) (b2 := true) (b3 := false) (b4 := false) (b5 := false) (b6 := false) (b7 := false) (b8 := false) (b9 := false) (b10 := false) (b11 := false) ?_ ?_ ?_ ?_ ?_ ?_ ?_ ?_ ?_ ?_ ?_ ?_ ?_ (by decide) (by decide)⟩ <;> decide +kernel
theorem tryX_ok {n ie : Nat} {okc : Str → Bool} {fb fh : SF} {env : EnvD} {st s : Sto} {fl : Fl} (h : fb env st = .ok fl s) : tryX n ie okc fb fh env st = .ok fl s := by
  unfold tryX
  rw [h]
theorem tryX_ex {n ie : Nat} {okc : Str → Bool} {fb fh : SF} {env : EnvD} {st s s' : Sto} {c : Str} {d : VL.D} (h : fb env st = .ex c s) (ho : okc c = true) (hh : fh ((List.replicate n none).set ie (some (.exc c))) [] = .ok (.rt d) s') (hp : plainD d = true) : tryX n ie okc fb fh env st = .ok (.rt d) s := by
  unfold tryX
  rw [h]
  simp only [ho, hh, hp, if_true]
theorem ok_nn : okcX "NoName" = true ∧ okcX "Twice" = true ∧ okcX "NoWidth" = true := by decide +kernel
section
variable {o : VL.O} {es : List Ent} {st : Sto}
def rfD : VL.D := .tup [.str "refused", .int 0]
theorem asked_rf {d : VL.D} {w : Nat} (h : KX o es st) (r : Rf d st) (hw : w < 6) : ∃ S', f__law_asked [.ref 1, d, .int (w : Nat)] st = .ok rfD S' ∧ Kp [] st S' := by
  obtain ⟨Sw, hw0⟩ := which_ok.1
  have hd : ∀ s', f__law_which [.exc "NoName"] [] = .ok (.int 0) s' → (retS (tupA (consA (cF (.str "refused")) (consA (callF f__law_which (consA (varF 3) nilA)) nilA)))) ((List.replicate 4 none).set 3 (some (.exc "NoName"))) [] = .ok (.rt rfD) s' := fun s' e => by
    simp -implicitDefEqProofs +decide only [varF_ap, cF_ap, opF_ap, opK_ap, bF_ap, boolK_ap, andT_ap, andK_ap, orT_ap, orK_ap, notT_ap, notK_ap, yesT_ap, andV_ap, andVK_ap, orV_ap, orVK_ap, notV_ap, notVK_ap, ifF_ap, ifFK_ap, nilA_ap, consA_ap, consK_ap, consJ_ap, tupA_ap, lstA_ap, newO_ap, dicF_ap, callF_ap, un1_ap, methF_ap, nonO_ap, someO_ap, someK_ap, slF_ap, slK_ap, slJ_ap, itF_ap, itA_ap, nilS_ap, bkS_ap, ctS_ap, seqS_ap, seqK_nx, seqK_rt, seqK_bk, seqK_ct, dropS_ap, dropK_ap, retS_ap, retK_ap, retN_ap, ifS_ap, ifK_ap, setS_ap, setK_ap, asgS_ap, asgK_ap, asgJ_ap, nameG_ap, nilG_ap, consG_ap, consGK_ap, fnF_ap, fnK_nx, fnK_rt, forS_ap, forK_ap, negD_ap, addI_ap, varK_ap, startE, yes2, isN, List.map_cons, List.map_nil, List.length_cons, List.length_nil, List.replicate, List.append_nil, List.cons_append, List.nil_append, List.getElem?_cons_zero, List.getElem?_cons_succ, List.set_cons_zero, List.set_cons_succ, R.bind_ok, R.bind_ex, R.bind_bad, R.noex_ok, if_true, if_false, Bool.false_eq_true, Bool.true_eq_false, ite_true, ite_false, reduceIte, Nat.reduceAdd, Nat.reduceSub, Nat.zero_add, Nat.sub_self, Nat.sub_zero, decide_true, decide_false, Bool.not_true, Bool.not_false, subD_ap, ltD_ap, leD_ap, gtD_ap, geD_ap, mulD_ap, modD_ap, divD_ap, powD_ap, tupK_ok, lstK_ok, methK_ok, tupG_ok, eqS_t, eqS_f, neS_t, neS_f, eqI_ap, neI_ap, inT_nil, inT_hit, inT_miss, ne_eq, not_false_eq_true, e, sz (by decide : 2 ≤ 100)]; rfl
  have go : ∀ {S' : Sto} {fb : SF}, fb [some (.ref 1), some d, some (.int (w : Nat)), none] st = .ex "NoName" S' → tryX 4 3 okcX fb (retS (tupA (consA (cF (.str "refused")) (consA (callF f__law_which (consA (varF 3) nilA)) nilA)))) [some (.ref 1), some d, some (.int (w : Nat)), none] st = .ok (.rt rfD) S' := fun e => tryX_ex e ok_nn.1 (hd _ hw0) rfl
  have fin : ∀ {S' : Sto} {t : R Fl}, b__law_asked [some (.ref 1), some d, some (.int (w : Nat)), none] st = .ok (.rt rfD) S' → f__law_asked [.ref 1, d, .int (w : Nat)] st = .ok rfD S' := fun e => by
    simp -implicitDefEqProofs +decide only [varF_ap, cF_ap, opF_ap, opK_ap, bF_ap, boolK_ap, andT_ap, andK_ap, orT_ap, orK_ap, notT_ap, notK_ap, yesT_ap, andV_ap, andVK_ap, orV_ap, orVK_ap, notV_ap, notVK_ap, ifF_ap, ifFK_ap, nilA_ap, consA_ap, consK_ap, consJ_ap, tupA_ap, lstA_ap, newO_ap, dicF_ap, callF_ap, un1_ap, methF_ap, nonO_ap, someO_ap, someK_ap, slF_ap, slK_ap, slJ_ap, itF_ap, itA_ap, nilS_ap, bkS_ap, ctS_ap, seqS_ap, seqK_nx, seqK_rt, seqK_bk, seqK_ct, dropS_ap, dropK_ap, retS_ap, retK_ap, retN_ap, ifS_ap, ifK_ap, setS_ap, setK_ap, asgS_ap, asgK_ap, asgJ_ap, nameG_ap, nilG_ap, consG_ap, consGK_ap, fnF_ap, fnK_nx, fnK_rt, forS_ap, forK_ap, negD_ap, addI_ap, varK_ap, startE, yes2, isN, List.map_cons, List.map_nil, List.length_cons, List.length_nil, List.replicate, List.append_nil, List.cons_append, List.nil_append, List.getElem?_cons_zero, List.getElem?_cons_succ, List.set_cons_zero, List.set_cons_succ, R.bind_ok, R.bind_ex, R.bind_bad, R.noex_ok, if_true, if_false, Bool.false_eq_true, Bool.true_eq_false, ite_true, ite_false, reduceIte, Nat.reduceAdd, Nat.reduceSub, Nat.zero_add, Nat.sub_self, Nat.sub_zero, decide_true, decide_false, Bool.not_true, Bool.not_false, subD_ap, ltD_ap, leD_ap, gtD_ap, geD_ap, mulD_ap, modD_ap, divD_ap, powD_ap, tupK_ok, lstK_ok, methK_ok, tupG_ok, eqS_t, eqS_f, neS_t, neS_f, eqI_ap, neI_ap, inT_nil, inT_hit, inT_miss, ne_eq, not_false_eq_true, f__law_asked, e]
  have c6 : w = 0 ∨ w = 1 ∨ w = 2 ∨ w = 3 ∨ w = 4 ∨ w = 5 := by omega
  rcases c6 with rfl | rfl | rfl | rfl | rfl | rfl
  · obtain ⟨S', e, q⟩ := rf_ask h r
    have m := fun fa e => (h.mK (m := "ask") (by decide) f_Keeper_ask fa e).1
    exact ⟨S', fin (t := .bad) (by unfold b__law_asked; exact go (by simp -implicitDefEqProofs +decide only [varF_ap, cF_ap, opF_ap, opK_ap, bF_ap, boolK_ap, andT_ap, andK_ap, orT_ap, orK_ap, notT_ap, notK_ap, yesT_ap, andV_ap, andVK_ap, orV_ap, orVK_ap, notV_ap, notVK_ap, ifF_ap, ifFK_ap, nilA_ap, consA_ap, consK_ap, consJ_ap, tupA_ap, lstA_ap, newO_ap, dicF_ap, callF_ap, un1_ap, methF_ap, nonO_ap, someO_ap, someK_ap, slF_ap, slK_ap, slJ_ap, itF_ap, itA_ap, nilS_ap, bkS_ap, ctS_ap, seqS_ap, seqK_nx, seqK_rt, seqK_bk, seqK_ct, dropS_ap, dropK_ap, retS_ap, retK_ap, retN_ap, ifS_ap, ifK_ap, setS_ap, setK_ap, asgS_ap, asgK_ap, asgJ_ap, nameG_ap, nilG_ap, consG_ap, consGK_ap, fnF_ap, fnK_nx, fnK_rt, forS_ap, forK_ap, negD_ap, addI_ap, varK_ap, startE, yes2, isN, List.map_cons, List.map_nil, List.length_cons, List.length_nil, List.replicate, List.append_nil, List.cons_append, List.nil_append, List.getElem?_cons_zero, List.getElem?_cons_succ, List.set_cons_zero, List.set_cons_succ, R.bind_ok, R.bind_ex, R.bind_bad, R.noex_ok, if_true, if_false, Bool.false_eq_true, Bool.true_eq_false, ite_true, ite_false, reduceIte, Nat.reduceAdd, Nat.reduceSub, Nat.zero_add, Nat.sub_self, Nat.sub_zero, decide_true, decide_false, Bool.not_true, Bool.not_false, subD_ap, ltD_ap, leD_ap, gtD_ap, geD_ap, mulD_ap, modD_ap, divD_ap, powD_ap, tupK_ok, lstK_ok, methK_ok, tupG_ok, eqS_t, eqS_f, neS_t, neS_f, eqI_ap, neI_ap, inT_nil, inT_hit, inT_miss, ne_eq, not_false_eq_true, m, fnC_ap, e])), q⟩
  · obtain ⟨S', e, q⟩ := rf_told h r
    have m := fun fa e => (h.mK (m := "told") (by decide) f_Keeper_told fa e).1
    exact ⟨S', fin (t := .bad) (by unfold b__law_asked; exact go (by simp -implicitDefEqProofs +decide only [varF_ap, cF_ap, opF_ap, opK_ap, bF_ap, boolK_ap, andT_ap, andK_ap, orT_ap, orK_ap, notT_ap, notK_ap, yesT_ap, andV_ap, andVK_ap, orV_ap, orVK_ap, notV_ap, notVK_ap, ifF_ap, ifFK_ap, nilA_ap, consA_ap, consK_ap, consJ_ap, tupA_ap, lstA_ap, newO_ap, dicF_ap, callF_ap, un1_ap, methF_ap, nonO_ap, someO_ap, someK_ap, slF_ap, slK_ap, slJ_ap, itF_ap, itA_ap, nilS_ap, bkS_ap, ctS_ap, seqS_ap, seqK_nx, seqK_rt, seqK_bk, seqK_ct, dropS_ap, dropK_ap, retS_ap, retK_ap, retN_ap, ifS_ap, ifK_ap, setS_ap, setK_ap, asgS_ap, asgK_ap, asgJ_ap, nameG_ap, nilG_ap, consG_ap, consGK_ap, fnF_ap, fnK_nx, fnK_rt, forS_ap, forK_ap, negD_ap, addI_ap, varK_ap, startE, yes2, isN, List.map_cons, List.map_nil, List.length_cons, List.length_nil, List.replicate, List.append_nil, List.cons_append, List.nil_append, List.getElem?_cons_zero, List.getElem?_cons_succ, List.set_cons_zero, List.set_cons_succ, R.bind_ok, R.bind_ex, R.bind_bad, R.noex_ok, if_true, if_false, Bool.false_eq_true, Bool.true_eq_false, ite_true, ite_false, reduceIte, Nat.reduceAdd, Nat.reduceSub, Nat.zero_add, Nat.sub_self, Nat.sub_zero, decide_true, decide_false, Bool.not_true, Bool.not_false, subD_ap, ltD_ap, leD_ap, gtD_ap, geD_ap, mulD_ap, modD_ap, divD_ap, powD_ap, tupK_ok, lstK_ok, methK_ok, tupG_ok, eqS_t, eqS_f, neS_t, neS_f, eqI_ap, neI_ap, inT_nil, inT_hit, inT_miss, ne_eq, not_false_eq_true, m, fnC_ap, e])), q⟩
  · obtain ⟨S', e, q⟩ := rf_plainly h r
    have m := fun fa e => (h.mK (m := "plainly") (by decide) f_Keeper_plainly fa e).1
    exact ⟨S', fin (t := .bad) (by unfold b__law_asked; exact go (by simp -implicitDefEqProofs +decide only [varF_ap, cF_ap, opF_ap, opK_ap, bF_ap, boolK_ap, andT_ap, andK_ap, orT_ap, orK_ap, notT_ap, notK_ap, yesT_ap, andV_ap, andVK_ap, orV_ap, orVK_ap, notV_ap, notVK_ap, ifF_ap, ifFK_ap, nilA_ap, consA_ap, consK_ap, consJ_ap, tupA_ap, lstA_ap, newO_ap, dicF_ap, callF_ap, un1_ap, methF_ap, nonO_ap, someO_ap, someK_ap, slF_ap, slK_ap, slJ_ap, itF_ap, itA_ap, nilS_ap, bkS_ap, ctS_ap, seqS_ap, seqK_nx, seqK_rt, seqK_bk, seqK_ct, dropS_ap, dropK_ap, retS_ap, retK_ap, retN_ap, ifS_ap, ifK_ap, setS_ap, setK_ap, asgS_ap, asgK_ap, asgJ_ap, nameG_ap, nilG_ap, consG_ap, consGK_ap, fnF_ap, fnK_nx, fnK_rt, forS_ap, forK_ap, negD_ap, addI_ap, varK_ap, startE, yes2, isN, List.map_cons, List.map_nil, List.length_cons, List.length_nil, List.replicate, List.append_nil, List.cons_append, List.nil_append, List.getElem?_cons_zero, List.getElem?_cons_succ, List.set_cons_zero, List.set_cons_succ, R.bind_ok, R.bind_ex, R.bind_bad, R.noex_ok, if_true, if_false, Bool.false_eq_true, Bool.true_eq_false, ite_true, ite_false, reduceIte, Nat.reduceAdd, Nat.reduceSub, Nat.zero_add, Nat.sub_self, Nat.sub_zero, decide_true, decide_false, Bool.not_true, Bool.not_false, subD_ap, ltD_ap, leD_ap, gtD_ap, geD_ap, mulD_ap, modD_ap, divD_ap, powD_ap, tupK_ok, lstK_ok, methK_ok, tupG_ok, eqS_t, eqS_f, neS_t, neS_f, eqI_ap, neI_ap, inT_nil, inT_hit, inT_miss, ne_eq, not_false_eq_true, m, fnC_ap, e])), q⟩
  · obtain ⟨S', e, q⟩ := rf_width h r
    have m := fun fa e => (h.mK (m := "width") (by decide) f_Keeper_width fa e).1
    exact ⟨S', fin (t := .bad) (by unfold b__law_asked; exact go (by simp -implicitDefEqProofs +decide only [varF_ap, cF_ap, opF_ap, opK_ap, bF_ap, boolK_ap, andT_ap, andK_ap, orT_ap, orK_ap, notT_ap, notK_ap, yesT_ap, andV_ap, andVK_ap, orV_ap, orVK_ap, notV_ap, notVK_ap, ifF_ap, ifFK_ap, nilA_ap, consA_ap, consK_ap, consJ_ap, tupA_ap, lstA_ap, newO_ap, dicF_ap, callF_ap, un1_ap, methF_ap, nonO_ap, someO_ap, someK_ap, slF_ap, slK_ap, slJ_ap, itF_ap, itA_ap, nilS_ap, bkS_ap, ctS_ap, seqS_ap, seqK_nx, seqK_rt, seqK_bk, seqK_ct, dropS_ap, dropK_ap, retS_ap, retK_ap, retN_ap, ifS_ap, ifK_ap, setS_ap, setK_ap, asgS_ap, asgK_ap, asgJ_ap, nameG_ap, nilG_ap, consG_ap, consGK_ap, fnF_ap, fnK_nx, fnK_rt, forS_ap, forK_ap, negD_ap, addI_ap, varK_ap, startE, yes2, isN, List.map_cons, List.map_nil, List.length_cons, List.length_nil, List.replicate, List.append_nil, List.cons_append, List.nil_append, List.getElem?_cons_zero, List.getElem?_cons_succ, List.set_cons_zero, List.set_cons_succ, R.bind_ok, R.bind_ex, R.bind_bad, R.noex_ok, if_true, if_false, Bool.false_eq_true, Bool.true_eq_false, ite_true, ite_false, reduceIte, Nat.reduceAdd, Nat.reduceSub, Nat.zero_add, Nat.sub_self, Nat.sub_zero, decide_true, decide_false, Bool.not_true, Bool.not_false, subD_ap, ltD_ap, leD_ap, gtD_ap, geD_ap, mulD_ap, modD_ap, divD_ap, powD_ap, tupK_ok, lstK_ok, methK_ok, tupG_ok, eqS_t, eqS_f, neS_t, neS_f, eqI_ap, neI_ap, inT_nil, inT_hit, inT_miss, ne_eq, not_false_eq_true, m, fnC_ap, e])), q⟩
  · obtain ⟨S', e, q⟩ := rf_size h r
    have m := fun fa e => (h.mK (m := "size") (by decide) f_Keeper_size fa e).1
    exact ⟨S', fin (t := .bad) (by unfold b__law_asked; exact go (by simp -implicitDefEqProofs +decide only [varF_ap, cF_ap, opF_ap, opK_ap, bF_ap, boolK_ap, andT_ap, andK_ap, orT_ap, orK_ap, notT_ap, notK_ap, yesT_ap, andV_ap, andVK_ap, orV_ap, orVK_ap, notV_ap, notVK_ap, ifF_ap, ifFK_ap, nilA_ap, consA_ap, consK_ap, consJ_ap, tupA_ap, lstA_ap, newO_ap, dicF_ap, callF_ap, un1_ap, methF_ap, nonO_ap, someO_ap, someK_ap, slF_ap, slK_ap, slJ_ap, itF_ap, itA_ap, nilS_ap, bkS_ap, ctS_ap, seqS_ap, seqK_nx, seqK_rt, seqK_bk, seqK_ct, dropS_ap, dropK_ap, retS_ap, retK_ap, retN_ap, ifS_ap, ifK_ap, setS_ap, setK_ap, asgS_ap, asgK_ap, asgJ_ap, nameG_ap, nilG_ap, consG_ap, consGK_ap, fnF_ap, fnK_nx, fnK_rt, forS_ap, forK_ap, negD_ap, addI_ap, varK_ap, startE, yes2, isN, List.map_cons, List.map_nil, List.length_cons, List.length_nil, List.replicate, List.append_nil, List.cons_append, List.nil_append, List.getElem?_cons_zero, List.getElem?_cons_succ, List.set_cons_zero, List.set_cons_succ, R.bind_ok, R.bind_ex, R.bind_bad, R.noex_ok, if_true, if_false, Bool.false_eq_true, Bool.true_eq_false, ite_true, ite_false, reduceIte, Nat.reduceAdd, Nat.reduceSub, Nat.zero_add, Nat.sub_self, Nat.sub_zero, decide_true, decide_false, Bool.not_true, Bool.not_false, subD_ap, ltD_ap, leD_ap, gtD_ap, geD_ap, mulD_ap, modD_ap, divD_ap, powD_ap, tupK_ok, lstK_ok, methK_ok, tupG_ok, eqS_t, eqS_f, neS_t, neS_f, eqI_ap, neI_ap, inT_nil, inT_hit, inT_miss, ne_eq, not_false_eq_true, m, fnC_ap, e])), q⟩
  · obtain ⟨S', e, q⟩ := r st (Kp.refl _)
    have m := fun fa e => (h.mK (m := "node") (by decide) f_Keeper_node fa e).1
    exact ⟨S', fin (t := .bad) (by unfold b__law_asked; exact go (by simp -implicitDefEqProofs +decide only [varF_ap, cF_ap, opF_ap, opK_ap, bF_ap, boolK_ap, andT_ap, andK_ap, orT_ap, orK_ap, notT_ap, notK_ap, yesT_ap, andV_ap, andVK_ap, orV_ap, orVK_ap, notV_ap, notVK_ap, ifF_ap, ifFK_ap, nilA_ap, consA_ap, consK_ap, consJ_ap, tupA_ap, lstA_ap, newO_ap, dicF_ap, callF_ap, un1_ap, methF_ap, nonO_ap, someO_ap, someK_ap, slF_ap, slK_ap, slJ_ap, itF_ap, itA_ap, nilS_ap, bkS_ap, ctS_ap, seqS_ap, seqK_nx, seqK_rt, seqK_bk, seqK_ct, dropS_ap, dropK_ap, retS_ap, retK_ap, retN_ap, ifS_ap, ifK_ap, setS_ap, setK_ap, asgS_ap, asgK_ap, asgJ_ap, nameG_ap, nilG_ap, consG_ap, consGK_ap, fnF_ap, fnK_nx, fnK_rt, forS_ap, forK_ap, negD_ap, addI_ap, varK_ap, startE, yes2, isN, List.map_cons, List.map_nil, List.length_cons, List.length_nil, List.replicate, List.append_nil, List.cons_append, List.nil_append, List.getElem?_cons_zero, List.getElem?_cons_succ, List.set_cons_zero, List.set_cons_succ, R.bind_ok, R.bind_ex, R.bind_bad, R.noex_ok, if_true, if_false, Bool.false_eq_true, Bool.true_eq_false, ite_true, ite_false, reduceIte, Nat.reduceAdd, Nat.reduceSub, Nat.zero_add, Nat.sub_self, Nat.sub_zero, decide_true, decide_false, Bool.not_true, Bool.not_false, subD_ap, ltD_ap, leD_ap, gtD_ap, geD_ap, mulD_ap, modD_ap, divD_ap, powD_ap, tupK_ok, lstK_ok, methK_ok, tupG_ok, eqS_t, eqS_f, neS_t, neS_f, eqI_ap, neI_ap, inT_nil, inT_hit, inT_miss, ne_eq, not_false_eq_true, m, fnC_ap, e])), q⟩
/-- what is due of a table -/
def dueD (e : Ent) (j : Nat) : Nat → VL.D → Sto → Prop := fun w d S => if w < 3 then ∃ r, d = .ref r ∧ S[r]? = some (.lst []) else if w = 3 then d = .int e.w else if w = 4 then d = .int 1 else d = .int (j : Nat)
theorem asked_fd {n : Str} {j w : Nat} {e : Ent} (h : KS es st) (f : Fd n j st) (he : es[j]? = some e) (hn : e.n = n) (hg : ∀ f, dget (mpD f es) (.str n) = some (f e)) (hl : es.length ≤ 1000) (hw : w < 6) : ∃ d S', f__law_asked [.ref 1, .str n, .int (w : Nat)] st = .ok d S' ∧ dueD e j w d S' ∧ Kp [] st S' := by
  have fin : ∀ {S' : Sto} {d : VL.D}, b__law_asked [some (.ref 1), some (.str n), some (.int (w : Nat)), none] st = .ok (.rt d) S' → f__law_asked [.ref 1, .str n, .int (w : Nat)] st = .ok d S' := fun e => by
    simp -implicitDefEqProofs +decide only [varF_ap, cF_ap, opF_ap, opK_ap, bF_ap, boolK_ap, andT_ap, andK_ap, orT_ap, orK_ap, notT_ap, notK_ap, yesT_ap, andV_ap, andVK_ap, orV_ap, orVK_ap, notV_ap, notVK_ap, ifF_ap, ifFK_ap, nilA_ap, consA_ap, consK_ap, consJ_ap, tupA_ap, lstA_ap, newO_ap, dicF_ap, callF_ap, un1_ap, methF_ap, nonO_ap, someO_ap, someK_ap, slF_ap, slK_ap, slJ_ap, itF_ap, itA_ap, nilS_ap, bkS_ap, ctS_ap, seqS_ap, seqK_nx, seqK_rt, seqK_bk, seqK_ct, dropS_ap, dropK_ap, retS_ap, retK_ap, retN_ap, ifS_ap, ifK_ap, setS_ap, setK_ap, asgS_ap, asgK_ap, asgJ_ap, nameG_ap, nilG_ap, consG_ap, consGK_ap, fnF_ap, fnK_nx, fnK_rt, forS_ap, forK_ap, negD_ap, addI_ap, varK_ap, startE, yes2, isN, List.map_cons, List.map_nil, List.length_cons, List.length_nil, List.replicate, List.append_nil, List.cons_append, List.nil_append, List.getElem?_cons_zero, List.getElem?_cons_succ, List.set_cons_zero, List.set_cons_succ, R.bind_ok, R.bind_ex, R.bind_bad, R.noex_ok, if_true, if_false, Bool.false_eq_true, Bool.true_eq_false, ite_true, ite_false, reduceIte, Nat.reduceAdd, Nat.reduceSub, Nat.zero_add, Nat.sub_self, Nat.sub_zero, decide_true, decide_false, Bool.not_true, Bool.not_false, subD_ap, ltD_ap, leD_ap, gtD_ap, geD_ap, mulD_ap, modD_ap, divD_ap, powD_ap, tupK_ok, lstK_ok, methK_ok, tupG_ok, eqS_t, eqS_f, neS_t, neS_f, eqI_ap, neI_ap, inT_nil, inT_hit, inT_miss, ne_eq, not_false_eq_true, f__law_asked, e]
  have c6 : w = 0 ∨ w = 1 ∨ w = 2 ∨ w = 3 ∨ w = 4 ∨ w = 5 := by omega
  rcases c6 with rfl | rfl | rfl | rfl | rfl | rfl
  · obtain ⟨r, S', e, g, q, _⟩ := fd_ask h f he
    have m := fun fa e => (h.mK (m := "ask") (by decide) f_Keeper_ask fa e).1
    exact ⟨_, S', fin (by unfold b__law_asked; exact tryX_ok (by simp -implicitDefEqProofs +decide only [varF_ap, cF_ap, opF_ap, opK_ap, bF_ap, boolK_ap, andT_ap, andK_ap, orT_ap, orK_ap, notT_ap, notK_ap, yesT_ap, andV_ap, andVK_ap, orV_ap, orVK_ap, notV_ap, notVK_ap, ifF_ap, ifFK_ap, nilA_ap, consA_ap, consK_ap, consJ_ap, tupA_ap, lstA_ap, newO_ap, dicF_ap, callF_ap, un1_ap, methF_ap, nonO_ap, someO_ap, someK_ap, slF_ap, slK_ap, slJ_ap, itF_ap, itA_ap, nilS_ap, bkS_ap, ctS_ap, seqS_ap, seqK_nx, seqK_rt, seqK_bk, seqK_ct, dropS_ap, dropK_ap, retS_ap, retK_ap, retN_ap, ifS_ap, ifK_ap, setS_ap, setK_ap, asgS_ap, asgK_ap, asgJ_ap, nameG_ap, nilG_ap, consG_ap, consGK_ap, fnF_ap, fnK_nx, fnK_rt, forS_ap, forK_ap, negD_ap, addI_ap, varK_ap, startE, yes2, isN, List.map_cons, List.map_nil, List.length_cons, List.length_nil, List.replicate, List.append_nil, List.cons_append, List.nil_append, List.getElem?_cons_zero, List.getElem?_cons_succ, List.set_cons_zero, List.set_cons_succ, R.bind_ok, R.bind_ex, R.bind_bad, R.noex_ok, if_true, if_false, Bool.false_eq_true, Bool.true_eq_false, ite_true, ite_false, reduceIte, Nat.reduceAdd, Nat.reduceSub, Nat.zero_add, Nat.sub_self, Nat.sub_zero, decide_true, decide_false, Bool.not_true, Bool.not_false, subD_ap, ltD_ap, leD_ap, gtD_ap, geD_ap, mulD_ap, modD_ap, divD_ap, powD_ap, tupK_ok, lstK_ok, methK_ok, tupG_ok, eqS_t, eqS_f, neS_t, neS_f, eqI_ap, neI_ap, inT_nil, inT_hit, inT_miss, ne_eq, not_false_eq_true, m, fnC_ap, e])), ⟨r, rfl, g⟩, q⟩
  · obtain ⟨r, S', e, g, q⟩ := fd_told h f he hg
    have m := fun fa e => (h.mK (m := "told") (by decide) f_Keeper_told fa e).1
    exact ⟨_, S', fin (by unfold b__law_asked; exact tryX_ok (by simp -implicitDefEqProofs +decide only [varF_ap, cF_ap, opF_ap, opK_ap, bF_ap, boolK_ap, andT_ap, andK_ap, orT_ap, orK_ap, notT_ap, notK_ap, yesT_ap, andV_ap, andVK_ap, orV_ap, orVK_ap, notV_ap, notVK_ap, ifF_ap, ifFK_ap, nilA_ap, consA_ap, consK_ap, consJ_ap, tupA_ap, lstA_ap, newO_ap, dicF_ap, callF_ap, un1_ap, methF_ap, nonO_ap, someO_ap, someK_ap, slF_ap, slK_ap, slJ_ap, itF_ap, itA_ap, nilS_ap, bkS_ap, ctS_ap, seqS_ap, seqK_nx, seqK_rt, seqK_bk, seqK_ct, dropS_ap, dropK_ap, retS_ap, retK_ap, retN_ap, ifS_ap, ifK_ap, setS_ap, setK_ap, asgS_ap, asgK_ap, asgJ_ap, nameG_ap, nilG_ap, consG_ap, consGK_ap, fnF_ap, fnK_nx, fnK_rt, forS_ap, forK_ap, negD_ap, addI_ap, varK_ap, startE, yes2, isN, List.map_cons, List.map_nil, List.length_cons, List.length_nil, List.replicate, List.append_nil, List.cons_append, List.nil_append, List.getElem?_cons_zero, List.getElem?_cons_succ, List.set_cons_zero, List.set_cons_succ, R.bind_ok, R.bind_ex, R.bind_bad, R.noex_ok, if_true, if_false, Bool.false_eq_true, Bool.true_eq_false, ite_true, ite_false, reduceIte, Nat.reduceAdd, Nat.reduceSub, Nat.zero_add, Nat.sub_self, Nat.sub_zero, decide_true, decide_false, Bool.not_true, Bool.not_false, subD_ap, ltD_ap, leD_ap, gtD_ap, geD_ap, mulD_ap, modD_ap, divD_ap, powD_ap, tupK_ok, lstK_ok, methK_ok, tupG_ok, eqS_t, eqS_f, neS_t, neS_f, eqI_ap, neI_ap, inT_nil, inT_hit, inT_miss, ne_eq, not_false_eq_true, m, fnC_ap, e])), ⟨r, rfl, g⟩, q⟩
  · obtain ⟨r, S', e, g, q⟩ := fd_plainly h f he hn hl
    have m := fun fa e => (h.mK (m := "plainly") (by decide) f_Keeper_plainly fa e).1
    exact ⟨_, S', fin (by unfold b__law_asked; exact tryX_ok (by simp -implicitDefEqProofs +decide only [varF_ap, cF_ap, opF_ap, opK_ap, bF_ap, boolK_ap, andT_ap, andK_ap, orT_ap, orK_ap, notT_ap, notK_ap, yesT_ap, andV_ap, andVK_ap, orV_ap, orVK_ap, notV_ap, notVK_ap, ifF_ap, ifFK_ap, nilA_ap, consA_ap, consK_ap, consJ_ap, tupA_ap, lstA_ap, newO_ap, dicF_ap, callF_ap, un1_ap, methF_ap, nonO_ap, someO_ap, someK_ap, slF_ap, slK_ap, slJ_ap, itF_ap, itA_ap, nilS_ap, bkS_ap, ctS_ap, seqS_ap, seqK_nx, seqK_rt, seqK_bk, seqK_ct, dropS_ap, dropK_ap, retS_ap, retK_ap, retN_ap, ifS_ap, ifK_ap, setS_ap, setK_ap, asgS_ap, asgK_ap, asgJ_ap, nameG_ap, nilG_ap, consG_ap, consGK_ap, fnF_ap, fnK_nx, fnK_rt, forS_ap, forK_ap, negD_ap, addI_ap, varK_ap, startE, yes2, isN, List.map_cons, List.map_nil, List.length_cons, List.length_nil, List.replicate, List.append_nil, List.cons_append, List.nil_append, List.getElem?_cons_zero, List.getElem?_cons_succ, List.set_cons_zero, List.set_cons_succ, R.bind_ok, R.bind_ex, R.bind_bad, R.noex_ok, if_true, if_false, Bool.false_eq_true, Bool.true_eq_false, ite_true, ite_false, reduceIte, Nat.reduceAdd, Nat.reduceSub, Nat.zero_add, Nat.sub_self, Nat.sub_zero, decide_true, decide_false, Bool.not_true, Bool.not_false, subD_ap, ltD_ap, leD_ap, gtD_ap, geD_ap, mulD_ap, modD_ap, divD_ap, powD_ap, tupK_ok, lstK_ok, methK_ok, tupG_ok, eqS_t, eqS_f, neS_t, neS_f, eqI_ap, neI_ap, inT_nil, inT_hit, inT_miss, ne_eq, not_false_eq_true, m, fnC_ap, e])), ⟨r, rfl, g⟩, q⟩
  · obtain ⟨S', e, q⟩ := fd_width h f hg
    have m := fun fa e => (h.mK (m := "width") (by decide) f_Keeper_width fa e).1
    exact ⟨_, S', fin (by unfold b__law_asked; exact tryX_ok (by simp -implicitDefEqProofs +decide only [varF_ap, cF_ap, opF_ap, opK_ap, bF_ap, boolK_ap, andT_ap, andK_ap, orT_ap, orK_ap, notT_ap, notK_ap, yesT_ap, andV_ap, andVK_ap, orV_ap, orVK_ap, notV_ap, notVK_ap, ifF_ap, ifFK_ap, nilA_ap, consA_ap, consK_ap, consJ_ap, tupA_ap, lstA_ap, newO_ap, dicF_ap, callF_ap, un1_ap, methF_ap, nonO_ap, someO_ap, someK_ap, slF_ap, slK_ap, slJ_ap, itF_ap, itA_ap, nilS_ap, bkS_ap, ctS_ap, seqS_ap, seqK_nx, seqK_rt, seqK_bk, seqK_ct, dropS_ap, dropK_ap, retS_ap, retK_ap, retN_ap, ifS_ap, ifK_ap, setS_ap, setK_ap, asgS_ap, asgK_ap, asgJ_ap, nameG_ap, nilG_ap, consG_ap, consGK_ap, fnF_ap, fnK_nx, fnK_rt, forS_ap, forK_ap, negD_ap, addI_ap, varK_ap, startE, yes2, isN, List.map_cons, List.map_nil, List.length_cons, List.length_nil, List.replicate, List.append_nil, List.cons_append, List.nil_append, List.getElem?_cons_zero, List.getElem?_cons_succ, List.set_cons_zero, List.set_cons_succ, R.bind_ok, R.bind_ex, R.bind_bad, R.noex_ok, if_true, if_false, Bool.false_eq_true, Bool.true_eq_false, ite_true, ite_false, reduceIte, Nat.reduceAdd, Nat.reduceSub, Nat.zero_add, Nat.sub_self, Nat.sub_zero, decide_true, decide_false, Bool.not_true, Bool.not_false, subD_ap, ltD_ap, leD_ap, gtD_ap, geD_ap, mulD_ap, modD_ap, divD_ap, powD_ap, tupK_ok, lstK_ok, methK_ok, tupG_ok, eqS_t, eqS_f, neS_t, neS_f, eqI_ap, neI_ap, inT_nil, inT_hit, inT_miss, ne_eq, not_false_eq_true, m, fnC_ap, e])), rfl, q⟩
  · obtain ⟨S', e, q⟩ := fd_size h f hg
    have m := fun fa e => (h.mK (m := "size") (by decide) f_Keeper_size fa e).1
    exact ⟨_, S', fin (by unfold b__law_asked; exact tryX_ok (by simp -implicitDefEqProofs +decide only [varF_ap, cF_ap, opF_ap, opK_ap, bF_ap, boolK_ap, andT_ap, andK_ap, orT_ap, orK_ap, notT_ap, notK_ap, yesT_ap, andV_ap, andVK_ap, orV_ap, orVK_ap, notV_ap, notVK_ap, ifF_ap, ifFK_ap, nilA_ap, consA_ap, consK_ap, consJ_ap, tupA_ap, lstA_ap, newO_ap, dicF_ap, callF_ap, un1_ap, methF_ap, nonO_ap, someO_ap, someK_ap, slF_ap, slK_ap, slJ_ap, itF_ap, itA_ap, nilS_ap, bkS_ap, ctS_ap, seqS_ap, seqK_nx, seqK_rt, seqK_bk, seqK_ct, dropS_ap, dropK_ap, retS_ap, retK_ap, retN_ap, ifS_ap, ifK_ap, setS_ap, setK_ap, asgS_ap, asgK_ap, asgJ_ap, nameG_ap, nilG_ap, consG_ap, consGK_ap, fnF_ap, fnK_nx, fnK_rt, forS_ap, forK_ap, negD_ap, addI_ap, varK_ap, startE, yes2, isN, List.map_cons, List.map_nil, List.length_cons, List.length_nil, List.replicate, List.append_nil, List.cons_append, List.nil_append, List.getElem?_cons_zero, List.getElem?_cons_succ, List.set_cons_zero, List.set_cons_succ, R.bind_ok, R.bind_ex, R.bind_bad, R.noex_ok, if_true, if_false, Bool.false_eq_true, Bool.true_eq_false, ite_true, ite_false, reduceIte, Nat.reduceAdd, Nat.reduceSub, Nat.zero_add, Nat.sub_self, Nat.sub_zero, decide_true, decide_false, Bool.not_true, Bool.not_false, subD_ap, ltD_ap, leD_ap, gtD_ap, geD_ap, mulD_ap, modD_ap, divD_ap, powD_ap, tupK_ok, lstK_ok, methK_ok, tupG_ok, eqS_t, eqS_f, neS_t, neS_f, eqI_ap, neI_ap, inT_nil, inT_hit, inT_miss, ne_eq, not_false_eq_true, m, fnC_ap, e])), rfl, q⟩
  · obtain ⟨S', e, q⟩ := f st (Kp.refl _)
    have m := fun fa e => (h.mK (m := "node") (by decide) f_Keeper_node fa e).1
    exact ⟨_, S', fin (by unfold b__law_asked; exact tryX_ok (by simp -implicitDefEqProofs +decide only [varF_ap, cF_ap, opF_ap, opK_ap, bF_ap, boolK_ap, andT_ap, andK_ap, orT_ap, orK_ap, notT_ap, notK_ap, yesT_ap, andV_ap, andVK_ap, orV_ap, orVK_ap, notV_ap, notVK_ap, ifF_ap, ifFK_ap, nilA_ap, consA_ap, consK_ap, consJ_ap, tupA_ap, lstA_ap, newO_ap, dicF_ap, callF_ap, un1_ap, methF_ap, nonO_ap, someO_ap, someK_ap, slF_ap, slK_ap, slJ_ap, itF_ap, itA_ap, nilS_ap, bkS_ap, ctS_ap, seqS_ap, seqK_nx, seqK_rt, seqK_bk, seqK_ct, dropS_ap, dropK_ap, retS_ap, retK_ap, retN_ap, ifS_ap, ifK_ap, setS_ap, setK_ap, asgS_ap, asgK_ap, asgJ_ap, nameG_ap, nilG_ap, consG_ap, consGK_ap, fnF_ap, fnK_nx, fnK_rt, forS_ap, forK_ap, negD_ap, addI_ap, varK_ap, startE, yes2, isN, List.map_cons, List.map_nil, List.length_cons, List.length_nil, List.replicate, List.append_nil, List.cons_append, List.nil_append, List.getElem?_cons_zero, List.getElem?_cons_succ, List.set_cons_zero, List.set_cons_succ, R.bind_ok, R.bind_ex, R.bind_bad, R.noex_ok, if_true, if_false, Bool.false_eq_true, Bool.true_eq_false, ite_true, ite_false, reduceIte, Nat.reduceAdd, Nat.reduceSub, Nat.zero_add, Nat.sub_self, Nat.sub_zero, decide_true, decide_false, Bool.not_true, Bool.not_false, subD_ap, ltD_ap, leD_ap, gtD_ap, geD_ap, mulD_ap, modD_ap, divD_ap, powD_ap, tupK_ok, lstK_ok, methK_ok, tupG_ok, eqS_t, eqS_f, neS_t, neS_f, eqI_ap, neI_ap, inT_nil, inT_hit, inT_miss, ne_eq, not_false_eq_true, m, fnC_ap, e])), rfl, q⟩
end
end Law
namespace Law
open PySem L2 VL
theorem tnd_key {a b : Str} {x y : Int} (h : kEq (tnd a x) (tnd b y) = true) : a = b := by
  have h := of_decide_eq_true h
  simp [tnd, nkey, nkeys] at h
  exact h.1
structure KI (es : List Ent) (st : Sto) : Prop where
  ks : KS es st
  ok : OkS (snE es)
  nd : (es.map (·.n)).Nodup
  nm : ∀ e ∈ es, isNm e.n = true ∧ e.n.length ≤ 8
theorem KI.kp {es : List Ent} {st S : Sto} (h : KI es st) (q : Kp [] st S) : KI es S := ⟨h.ks.kp0 q, h.ok, h.nd, h.nm⟩
theorem whole_int {i : Int} {st : Sto} : f_is_whole [.int i] st = .ok (.bl true) st := by
  have g1 : isiD [.int i, .ty "int"] st = .ok (.bl true) st := rfl
  have g2 : isiD [.int i, .ty "bool"] st = .ok (.bl false) st := rfl
  simp -implicitDefEqProofs +decide only [varF_ap, cF_ap, opF_ap, opK_ap, bF_ap, boolK_ap, andT_ap, andK_ap, orT_ap, orK_ap, notT_ap, notK_ap, yesT_ap, andV_ap, andVK_ap, orV_ap, orVK_ap, notV_ap, notVK_ap, ifF_ap, ifFK_ap, nilA_ap, consA_ap, consK_ap, consJ_ap, tupA_ap, lstA_ap, newO_ap, dicF_ap, callF_ap, un1_ap, methF_ap, nonO_ap, someO_ap, someK_ap, slF_ap, slK_ap, slJ_ap, itF_ap, itA_ap, nilS_ap, bkS_ap, ctS_ap, seqS_ap, seqK_nx, seqK_rt, seqK_bk, seqK_ct, dropS_ap, dropK_ap, retS_ap, retK_ap, retN_ap, ifS_ap, ifK_ap, setS_ap, setK_ap, asgS_ap, asgK_ap, asgJ_ap, nameG_ap, nilG_ap, consG_ap, consGK_ap, fnF_ap, fnK_nx, fnK_rt, forS_ap, forK_ap, negD_ap, addI_ap, varK_ap, startE, yes2, isN, List.map_cons, List.map_nil, List.length_cons, List.length_nil, List.replicate, List.append_nil, List.cons_append, List.nil_append, List.getElem?_cons_zero, List.getElem?_cons_succ, List.set_cons_zero, List.set_cons_succ, R.bind_ok, R.bind_ex, R.bind_bad, R.noex_ok, if_true, if_false, Bool.false_eq_true, Bool.true_eq_false, ite_true, ite_false, reduceIte, Nat.reduceAdd, Nat.reduceSub, Nat.zero_add, Nat.sub_self, Nat.sub_zero, decide_true, decide_false, Bool.not_true, Bool.not_false, subD_ap, ltD_ap, leD_ap, gtD_ap, geD_ap, mulD_ap, modD_ap, divD_ap, powD_ap, tupK_ok, lstK_ok, methK_ok, tupG_ok, eqS_t, eqS_f, neS_t, neS_f, eqI_ap, neI_ap, inT_nil, inT_hit, inT_miss, ne_eq, not_false_eq_true, f_is_whole, b_is_whole, g1, g2]
theorem net_table {es : List Ent} {n : Str} {w : Int} {st : Sto} (h : KS es st) (ok : OkS (snE es)) (hn : ∀ e ∈ es, e.n ≠ n) (hl : es.length ≤ 1000) : ∃ S', f_Net_table [.ref 3, .str n, .int w] st = .ok (.int (es.length : Nat)) S' ∧ At 4 5 6 ⟨(snE es).L ++ [tnd n w], (snE es).W ++ [w]⟩ S' ∧ Kp [4, 5, 6] st S' ∧ OkS ⟨(snE es).L ++ [tnd n w], (snE es).W ++ [w]⟩ := by
  have len : (snE es).L.length = es.length := List.length_map _
  obtain ⟨S', h1, h2, h3⟩ := put_ok (nd := tnd n w) (w := w) h.n h.at_ (by decide) ok tnd_nd (by rw [len, sizeLine_eq']; omega)
  have o2 := ok.put (w := w) (nd := tnd n w) tnd_nd
  have pt : (snE es).put (tnd n w) w = ((snE es).L.length, ⟨(snE es).L ++ [tnd n w], (snE es).W ++ [w]⟩) := by
    rcases (snE es).put_cases (tnd n w) w with ⟨j, p, _, _, hp, hk⟩ | ⟨_, e⟩
    · exfalso
      have hp : (es.map fun e => tnd e.n e.w)[j]? = some p := hp
      rw [List.getElem?_map] at hp
      obtain ⟨e, he, rfl⟩ := Option.map_eq_some_iff.mp hp
      exact hn e (List.mem_of_getElem? he) (tnd_key hk)
    · exact e
  rw [pt] at h1 h2 o2
  have m1 : ∀ fa e, methO "Net" "put" f_Net_put (varF 0) fa (some (.ref 3) :: e) st = (fa (some (.ref 3) :: e) st).bind (fnC f_Net_put 3) := fun fa e => methO_at rfl h.n (by decide)
  have nd : tnd n w = .tup [.str "table", .tup [.str n, .int w], .tup []] := rfl
  have h1' := h1
  rw [nd] at h1'
  refine ⟨S', ?_, h2, h3, o2⟩
  have e1 : f_Net_table [.ref 3, .str n, .int w] st = .ok (.int ((snE es).L.length : Nat)) S' := by
    simp -implicitDefEqProofs +decide only [varF_ap, cF_ap, opF_ap, opK_ap, bF_ap, boolK_ap, andT_ap, andK_ap, orT_ap, orK_ap, notT_ap, notK_ap, yesT_ap, andV_ap, andVK_ap, orV_ap, orVK_ap, notV_ap, notVK_ap, ifF_ap, ifFK_ap, nilA_ap, consA_ap, consK_ap, consJ_ap, tupA_ap, lstA_ap, newO_ap, dicF_ap, callF_ap, un1_ap, methF_ap, nonO_ap, someO_ap, someK_ap, slF_ap, slK_ap, slJ_ap, itF_ap, itA_ap, nilS_ap, bkS_ap, ctS_ap, seqS_ap, seqK_nx, seqK_rt, seqK_bk, seqK_ct, dropS_ap, dropK_ap, retS_ap, retK_ap, retN_ap, ifS_ap, ifK_ap, setS_ap, setK_ap, asgS_ap, asgK_ap, asgJ_ap, nameG_ap, nilG_ap, consG_ap, consGK_ap, fnF_ap, fnK_nx, fnK_rt, forS_ap, forK_ap, negD_ap, addI_ap, varK_ap, startE, yes2, isN, List.map_cons, List.map_nil, List.length_cons, List.length_nil, List.replicate, List.append_nil, List.cons_append, List.nil_append, List.getElem?_cons_zero, List.getElem?_cons_succ, List.set_cons_zero, List.set_cons_succ, R.bind_ok, R.bind_ex, R.bind_bad, R.noex_ok, if_true, if_false, Bool.false_eq_true, Bool.true_eq_false, ite_true, ite_false, reduceIte, Nat.reduceAdd, Nat.reduceSub, Nat.zero_add, Nat.sub_self, Nat.sub_zero, decide_true, decide_false, Bool.not_true, Bool.not_false, subD_ap, ltD_ap, leD_ap, gtD_ap, geD_ap, mulD_ap, modD_ap, divD_ap, powD_ap, tupK_ok, lstK_ok, methK_ok, tupG_ok, eqS_t, eqS_f, neS_t, neS_f, eqI_ap, neI_ap, inT_nil, inT_hit, inT_miss, ne_eq, not_false_eq_true, f_Net_table, b_Net_table, m1, fnC_ap, h1', sz (by decide : 0 ≤ 100), sz (by decide : 2 ≤ 100), sz (by decide : 3 ≤ 100)]
  rw [e1, len]
theorem set_get {S : Sto} {i j : Nat} {o u : VL.O} (h : S[j]? = some u) (ne : i ≠ j) : (S.set i o)[j]? = some u := by rw [List.getElem?_set_ne ne]; exact h
theorem set_at_ {S : Sto} {i : Nat} {o u : VL.O} (h : S[i]? = some u) : (S.set i o)[i]? = some o := List.getElem?_set_self (List.getElem?_eq_some_iff.mp h).1
theorem machine_table {es : List Ent} {n : Str} {w : Int} {st : Sto} (h : KS es st) (ok : OkS (snE es)) (hn : ∀ e ∈ es, e.n ≠ n) (hl : es.length ≤ 1000) :
    ∃ b S', f_Machine_table [.ref 2, .str n, .int w] st = .ok (.int (es.length : Nat)) S' ∧ At 4 5 6 ⟨(snE es).L ++ [tnd n w], (snE es).W ++ [w]⟩ S' ∧ Kp [4, 5, 6, 7, 8] st S' ∧ S'[7]? = some (.lst (es.map (fun _ => VL.D.non) ++ [.non])) ∧ S'[8]? = some (.lst (es.map (fun e => VL.D.ref e.b) ++ [.ref b])) ∧ S'[b]? = some (.dic []) ∧ st.length ≤ b ∧ OkS ⟨(snE es).L ++ [tnd n w], (snE es).W ++ [w]⟩ := by
  obtain ⟨A1, e1, at1, q1, ok2⟩ := net_table (w := w) h ok hn hl
  have g2 := q1 _ _ (by decide) h.m
  have p7 := q1 _ _ (by decide) h.pa
  have p8 := q1 _ _ (by decide) h.bg
  obtain ⟨A2, hA2⟩ : ∃ T, T = A1.set 7 (.lst (es.map (fun _ => VL.D.non) ++ [.non])) := ⟨_, rfl⟩
  obtain ⟨A3, hA3⟩ : ∃ T, T = A2 ++ [VL.O.dic []] := ⟨_, rfl⟩
  obtain ⟨A4, hA4⟩ : ∃ T, T = A3.set 8 (.lst (es.map (fun e => VL.D.ref e.b) ++ [.ref A2.length])) := ⟨_, rfl⟩
  have l1 : st.length ≤ A1.length := by
    rcases Nat.lt_or_ge A1.length st.length with z | z
    · exfalso
      have s9 := (List.getElem?_eq_some_iff.mp h.pr).1
      have := kp_len q1 z (by simp; have := (List.getElem?_eq_some_iff.mp (q1 _ _ (by decide) h.pr)).1; omega)
      omega
    · exact z
  have l2 : A2.length = A1.length := by rw [hA2, List.length_set]
  have s16 : 16 ≤ st.length := (List.getElem?_eq_some_iff.mp h.pr).1
  have m2 : A2[2]? = some MO := hA2 ▸ set_get g2 (by decide)
  have m8 : A2[8]? = some (.lst (es.map fun e => VL.D.ref e.b)) := hA2 ▸ set_get p8 (by decide)
  have m3 : ∀ {fa : AF} {e : EnvD}, methO "Net" "table" f_Net_table (un1 (fldK "Machine" "net") (varF 0)) fa (some (.ref 2) :: e) st = (fa (some (.ref 2) :: e) st).bind (fnC f_Net_table 3) := methO_at h.fnet h.n (by decide)
  have f7 : fldK "Machine" "parts" (.ref 2) A1 = .ok (.ref 7) A1 := fld_ok g2 rfl
  have f8 : fldK "Machine" "bags" (.ref 2) A2 = .ok (.ref 8) A2 := fld_ok m2 rfl
  have t7 : tyD "list" (VL.D.ref 7) A1 := tyD_list (listAt_lst p7)
  have t8 : tyD "list" (VL.D.ref 8) A2 := tyD_list (listAt_lst m8)
  have a7 : appD (.ref 7) [.non] A1 = .ok .non A2 := by rw [appD_ok p7 (by rw [List.length_map, sizeLine_eq']; omega), hA2]
  have a8 : appD (.ref 8) [.ref A2.length] A3 = .ok .non A4 := by rw [appD_ok (hA3 ▸ get_app m8) (by rw [List.length_map, sizeLine_eq']; omega), hA4]
  have L3 : Le A2 A3 := hA3 ▸ Le.app _ _
  have dc : ∀ e, dicF e A2 = .ok (.ref A2.length) A3 := fun e => by rw [dicF_ap, hA3]
  have keep : ∀ {i : Nat} {u : VL.O}, i ≠ 7 → i ≠ 8 → A1[i]? = some u → A4[i]? = some u := fun h7 h8 e => hA4 ▸ set_get (L3.get (hA2 ▸ set_get e (Ne.symm h7))) (Ne.symm h8)
  refine ⟨A2.length, A4, ?_, ⟨keep (by decide) (by decide) at1.l, keep (by decide) (by decide) at1.w, keep (by decide) (by decide) at1.d⟩, fun i u hi hu => ?_, ?_, ?_, ?_, by omega, ok2⟩
  · simp -implicitDefEqProofs +decide only [varF_ap, cF_ap, opF_ap, opK_ap, bF_ap, boolK_ap, andT_ap, andK_ap, orT_ap, orK_ap, notT_ap, notK_ap, yesT_ap, andV_ap, andVK_ap, orV_ap, orVK_ap, notV_ap, notVK_ap, ifF_ap, ifFK_ap, nilA_ap, consA_ap, consK_ap, consJ_ap, tupA_ap, lstA_ap, newO_ap, dicF_ap, callF_ap, un1_ap, methF_ap, nonO_ap, someO_ap, someK_ap, slF_ap, slK_ap, slJ_ap, itF_ap, itA_ap, nilS_ap, bkS_ap, ctS_ap, seqS_ap, seqK_nx, seqK_rt, seqK_bk, seqK_ct, dropS_ap, dropK_ap, retS_ap, retK_ap, retN_ap, ifS_ap, ifK_ap, setS_ap, setK_ap, asgS_ap, asgK_ap, asgJ_ap, nameG_ap, nilG_ap, consG_ap, consGK_ap, fnF_ap, fnK_nx, fnK_rt, forS_ap, forK_ap, negD_ap, addI_ap, varK_ap, startE, yes2, isN, List.map_cons, List.map_nil, List.length_cons, List.length_nil, List.replicate, List.append_nil, List.cons_append, List.nil_append, List.getElem?_cons_zero, List.getElem?_cons_succ, List.set_cons_zero, List.set_cons_succ, R.bind_ok, R.bind_ex, R.bind_bad, R.noex_ok, if_true, if_false, Bool.false_eq_true, Bool.true_eq_false, ite_true, ite_false, reduceIte, Nat.reduceAdd, Nat.reduceSub, Nat.zero_add, Nat.sub_self, Nat.sub_zero, decide_true, decide_false, Bool.not_true, Bool.not_false, subD_ap, ltD_ap, leD_ap, gtD_ap, geD_ap, mulD_ap, modD_ap, divD_ap, powD_ap, tupK_ok, lstK_ok, methK_ok, tupG_ok, eqS_t, eqS_f, neS_t, neS_f, eqI_ap, neI_ap, inT_nil, inT_hit, inT_miss, ne_eq, not_false_eq_true, f_Machine_table, b_Machine_table, m3, fnC_ap, e1, f7, t7, a7, f8, t8, ↓dc, a8]
  · simp only [List.mem_cons, List.not_mem_nil, or_false, not_or] at hi
    exact keep hi.2.2.2.1 hi.2.2.2.2 (q1 i u (by simp; omega) hu)
  · exact hA4 ▸ set_get (L3.get (hA2 ▸ set_at_ p7)) (by decide)
  · exact hA4 ▸ set_at_ (L3.get m8)
  · exact hA4 ▸ set_get (hA3 ▸ get_last) (by omega)
theorem put_down {es : List Ent} {n : Str} {w : Int} {b : Nat} {st S : Sto} (h : KS es st) (hn : ∀ e ∈ es, e.n ≠ n) (hl : es.length ≤ 1000) (at_ : At 4 5 6 ⟨(snE es).L ++ [tnd n w], (snE es).W ++ [w]⟩ S) (q : Kp [4, 5, 6, 7, 8] st S)
    (g7 : S[7]? = some (.lst (es.map (fun _ => VL.D.non) ++ [.non]))) (g8 : S[8]? = some (.lst (es.map (fun e => VL.D.ref e.b) ++ [.ref b]))) (gb : S[b]? = some (.dic [])) (hb : st.length ≤ b) :
    ∃ s S', f_Keeper_put_down [.ref 1, .str n, .int (es.length : Nat), .int w, .int 1] S = .ok .non S' ∧ KS (es ++ [⟨n, w, b, s⟩]) S' ∧ Kp [4, 5, 6, 7, 8, 9, 10, 11, 14] st S' ∧ S.length ≤ s := by
  have s16 : 16 ≤ st.length := (List.getElem?_eq_some_iff.mp h.pr).1
  have no : (∀ f, dget (mpD f es) (.str n) = none) ∧ dget (spD 0 es) (.str n) = none := by
    rcases look_es n es 0 with ⟨_, h2, h3⟩ | ⟨j, e, h1, h2, _⟩
    · exact ⟨h2, h3⟩
    · exact absurd h2 (hn e (List.mem_of_getElem? h1))
  have k1 := q _ _ (by decide) h.k
  have g9 := q _ _ (by decide) h.sp
  have g10 := q _ _ (by decide) h.wd
  have g11 := q _ _ (by decide) h.sz
  have g14 := q _ _ (by decide) h.nw
  obtain ⟨B1, hB1⟩ : ∃ T, T = S.set 9 (.dic (spD 0 es ++ [(.str n, .int (es.length : Nat))])) := ⟨_, rfl⟩
  obtain ⟨B2, hB2⟩ : ∃ T, T = B1.set 10 (.dic (mpD (fun e => .int e.w) es ++ [(.str n, .int w)])) := ⟨_, rfl⟩
  obtain ⟨B3, hB3⟩ : ∃ T, T = B2.set 11 (.dic (mpD (fun _ => .int 1) es ++ [(.str n, .int 1)])) := ⟨_, rfl⟩
  obtain ⟨B4, hB4⟩ : ∃ T, T = B3 ++ [VL.O.dic []] := ⟨_, rfl⟩
  obtain ⟨B5, hB5⟩ : ∃ T, T = B4.set 14 (.dic (mpD (fun e => .ref e.s) es ++ [(.str n, .ref B3.length)])) := ⟨_, rfl⟩
  have L4 : Le B3 B4 := hB4 ▸ Le.app _ _
  have lB : B3.length = S.length := by rw [hB3, List.length_set, hB2, List.length_set, hB1, List.length_set]
  have bl : b < S.length := (List.getElem?_eq_some_iff.mp gb).1
  have keep3 : ∀ {i : Nat} {u : VL.O}, i ≠ 9 → i ≠ 10 → i ≠ 11 → S[i]? = some u → B3[i]? = some u := fun a1 a2 a3 e => hB3 ▸ set_get (hB2 ▸ set_get (hB1 ▸ set_get e (Ne.symm a1)) (Ne.symm a2)) (Ne.symm a3)
  have keep : ∀ {i : Nat} {u : VL.O}, i ≠ 9 → i ≠ 10 → i ≠ 11 → i ≠ 14 → S[i]? = some u → B5[i]? = some u := fun a1 a2 a3 a4 e => hB5 ▸ set_get (L4.get (keep3 a1 a2 a3 e)) (Ne.symm a4)
  have f9 : fldK "Keeper" "spots" (.ref 1) S = .ok (.ref 9) S := fld_ok k1 rfl
  have c1 : B1[1]? = some KO := hB1 ▸ set_get k1 (by decide)
  have f10 : fldK "Keeper" "wides" (.ref 1) B1 = .ok (.ref 10) B1 := fld_ok c1 rfl
  have c2 : B2[1]? = some KO := hB2 ▸ set_get c1 (by decide)
  have f11 : fldK "Keeper" "sizes" (.ref 1) B2 = .ok (.ref 11) B2 := fld_ok c2 rfl
  have c3 : B3[1]? = some KO := hB3 ▸ set_get c2 (by decide)
  have f14 : fldK "Keeper" "news" (.ref 1) B4 = .ok (.ref 14) B4 := fld_ok (L4.get c3) rfl
  obtain ⟨env, henv⟩ : ∃ env : EnvD, env = [some (.ref 1), some (.str n), some (.int (es.length : Nat)), some (.int w), some (.int 1)] := ⟨_, rfl⟩
  have b10 : B1[10]? = some (.dic (mpD (fun e => .int e.w) es)) := hB1 ▸ set_get g10 (by decide)
  have b11 : B2[11]? = some (.dic (mpD (fun _ => .int 1) es)) := hB2 ▸ set_get (hB1 ▸ set_get g11 (by decide)) (by decide)
  have b14 : B4[14]? = some (.dic (mpD (fun e => .ref e.s) es)) := L4.get (keep3 (by decide) (by decide) (by decide) g14)
  have d9 : dputS (varF 2) (un1 (fldK "Keeper" "spots") (varF 0)) (varF 1) env S = .ok (.nx env) B1 := by
    rw [henv, hB1, ← dput_new (v := .int (es.length : Nat)) no.2]
    exact dputS_ap (s1 := S) (s2 := S) (s3 := S) rfl (by simp -implicitDefEqProofs +decide only [varF_ap, cF_ap, opF_ap, opK_ap, bF_ap, boolK_ap, andT_ap, andK_ap, orT_ap, orK_ap, notT_ap, notK_ap, yesT_ap, andV_ap, andVK_ap, orV_ap, orVK_ap, notV_ap, notVK_ap, ifF_ap, ifFK_ap, nilA_ap, consA_ap, consK_ap, consJ_ap, tupA_ap, lstA_ap, newO_ap, dicF_ap, callF_ap, un1_ap, methF_ap, nonO_ap, someO_ap, someK_ap, slF_ap, slK_ap, slJ_ap, itF_ap, itA_ap, nilS_ap, bkS_ap, ctS_ap, seqS_ap, seqK_nx, seqK_rt, seqK_bk, seqK_ct, dropS_ap, dropK_ap, retS_ap, retK_ap, retN_ap, ifS_ap, ifK_ap, setS_ap, setK_ap, asgS_ap, asgK_ap, asgJ_ap, nameG_ap, nilG_ap, consG_ap, consGK_ap, fnF_ap, fnK_nx, fnK_rt, forS_ap, forK_ap, negD_ap, addI_ap, varK_ap, startE, yes2, isN, List.map_cons, List.map_nil, List.length_cons, List.length_nil, List.replicate, List.append_nil, List.cons_append, List.nil_append, List.getElem?_cons_zero, List.getElem?_cons_succ, List.set_cons_zero, List.set_cons_succ, R.bind_ok, R.bind_ex, R.bind_bad, R.noex_ok, if_true, if_false, Bool.false_eq_true, Bool.true_eq_false, ite_true, ite_false, reduceIte, Nat.reduceAdd, Nat.reduceSub, Nat.zero_add, Nat.sub_self, Nat.sub_zero, decide_true, decide_false, Bool.not_true, Bool.not_false, subD_ap, ltD_ap, leD_ap, gtD_ap, geD_ap, mulD_ap, modD_ap, divD_ap, powD_ap, tupK_ok, lstK_ok, methK_ok, tupG_ok, eqS_t, eqS_f, neS_t, neS_f, eqI_ap, neI_ap, inT_nil, inT_hit, inT_miss, ne_eq, not_false_eq_true, f9]) rfl g9 spD_keys rfl (by rw [spD_len, sizeLine_eq']; omega)
  have d10 : dputS (varF 3) (un1 (fldK "Keeper" "wides") (varF 0)) (varF 1) env B1 = .ok (.nx env) B2 := by
    rw [henv, hB2, ← dput_new (v := .int w) (no.1 _)]
    exact dputS_ap (s1 := B1) (s2 := B1) (s3 := B1) rfl (by simp -implicitDefEqProofs +decide only [varF_ap, cF_ap, opF_ap, opK_ap, bF_ap, boolK_ap, andT_ap, andK_ap, orT_ap, orK_ap, notT_ap, notK_ap, yesT_ap, andV_ap, andVK_ap, orV_ap, orVK_ap, notV_ap, notVK_ap, ifF_ap, ifFK_ap, nilA_ap, consA_ap, consK_ap, consJ_ap, tupA_ap, lstA_ap, newO_ap, dicF_ap, callF_ap, un1_ap, methF_ap, nonO_ap, someO_ap, someK_ap, slF_ap, slK_ap, slJ_ap, itF_ap, itA_ap, nilS_ap, bkS_ap, ctS_ap, seqS_ap, seqK_nx, seqK_rt, seqK_bk, seqK_ct, dropS_ap, dropK_ap, retS_ap, retK_ap, retN_ap, ifS_ap, ifK_ap, setS_ap, setK_ap, asgS_ap, asgK_ap, asgJ_ap, nameG_ap, nilG_ap, consG_ap, consGK_ap, fnF_ap, fnK_nx, fnK_rt, forS_ap, forK_ap, negD_ap, addI_ap, varK_ap, startE, yes2, isN, List.map_cons, List.map_nil, List.length_cons, List.length_nil, List.replicate, List.append_nil, List.cons_append, List.nil_append, List.getElem?_cons_zero, List.getElem?_cons_succ, List.set_cons_zero, List.set_cons_succ, R.bind_ok, R.bind_ex, R.bind_bad, R.noex_ok, if_true, if_false, Bool.false_eq_true, Bool.true_eq_false, ite_true, ite_false, reduceIte, Nat.reduceAdd, Nat.reduceSub, Nat.zero_add, Nat.sub_self, Nat.sub_zero, decide_true, decide_false, Bool.not_true, Bool.not_false, subD_ap, ltD_ap, leD_ap, gtD_ap, geD_ap, mulD_ap, modD_ap, divD_ap, powD_ap, tupK_ok, lstK_ok, methK_ok, tupG_ok, eqS_t, eqS_f, neS_t, neS_f, eqI_ap, neI_ap, inT_nil, inT_hit, inT_miss, ne_eq, not_false_eq_true, f10]) rfl b10 mpD_keys rfl (by rw [mpD_len, sizeLine_eq']; omega)
  have d11 : dputS (varF 4) (un1 (fldK "Keeper" "sizes") (varF 0)) (varF 1) env B2 = .ok (.nx env) B3 := by
    rw [henv, hB3, ← dput_new (v := .int 1) (no.1 _)]
    exact dputS_ap (s1 := B2) (s2 := B2) (s3 := B2) rfl (by simp -implicitDefEqProofs +decide only [varF_ap, cF_ap, opF_ap, opK_ap, bF_ap, boolK_ap, andT_ap, andK_ap, orT_ap, orK_ap, notT_ap, notK_ap, yesT_ap, andV_ap, andVK_ap, orV_ap, orVK_ap, notV_ap, notVK_ap, ifF_ap, ifFK_ap, nilA_ap, consA_ap, consK_ap, consJ_ap, tupA_ap, lstA_ap, newO_ap, dicF_ap, callF_ap, un1_ap, methF_ap, nonO_ap, someO_ap, someK_ap, slF_ap, slK_ap, slJ_ap, itF_ap, itA_ap, nilS_ap, bkS_ap, ctS_ap, seqS_ap, seqK_nx, seqK_rt, seqK_bk, seqK_ct, dropS_ap, dropK_ap, retS_ap, retK_ap, retN_ap, ifS_ap, ifK_ap, setS_ap, setK_ap, asgS_ap, asgK_ap, asgJ_ap, nameG_ap, nilG_ap, consG_ap, consGK_ap, fnF_ap, fnK_nx, fnK_rt, forS_ap, forK_ap, negD_ap, addI_ap, varK_ap, startE, yes2, isN, List.map_cons, List.map_nil, List.length_cons, List.length_nil, List.replicate, List.append_nil, List.cons_append, List.nil_append, List.getElem?_cons_zero, List.getElem?_cons_succ, List.set_cons_zero, List.set_cons_succ, R.bind_ok, R.bind_ex, R.bind_bad, R.noex_ok, if_true, if_false, Bool.false_eq_true, Bool.true_eq_false, ite_true, ite_false, reduceIte, Nat.reduceAdd, Nat.reduceSub, Nat.zero_add, Nat.sub_self, Nat.sub_zero, decide_true, decide_false, Bool.not_true, Bool.not_false, subD_ap, ltD_ap, leD_ap, gtD_ap, geD_ap, mulD_ap, modD_ap, divD_ap, powD_ap, tupK_ok, lstK_ok, methK_ok, tupG_ok, eqS_t, eqS_f, neS_t, neS_f, eqI_ap, neI_ap, inT_nil, inT_hit, inT_miss, ne_eq, not_false_eq_true, f11]) rfl b11 mpD_keys rfl (by rw [mpD_len, sizeLine_eq']; omega)
  have d14 : dputS dicF (un1 (fldK "Keeper" "news") (varF 0)) (varF 1) env B3 = .ok (.nx env) B5 := by
    rw [henv, hB5, ← dput_new (v := .ref B3.length) (no.1 _)]
    exact dputS_ap (s1 := B4) (s2 := B4) (s3 := B4) (by rw [dicF_ap, hB4]) (by simp -implicitDefEqProofs +decide only [varF_ap, cF_ap, opF_ap, opK_ap, bF_ap, boolK_ap, andT_ap, andK_ap, orT_ap, orK_ap, notT_ap, notK_ap, yesT_ap, andV_ap, andVK_ap, orV_ap, orVK_ap, notV_ap, notVK_ap, ifF_ap, ifFK_ap, nilA_ap, consA_ap, consK_ap, consJ_ap, tupA_ap, lstA_ap, newO_ap, dicF_ap, callF_ap, un1_ap, methF_ap, nonO_ap, someO_ap, someK_ap, slF_ap, slK_ap, slJ_ap, itF_ap, itA_ap, nilS_ap, bkS_ap, ctS_ap, seqS_ap, seqK_nx, seqK_rt, seqK_bk, seqK_ct, dropS_ap, dropK_ap, retS_ap, retK_ap, retN_ap, ifS_ap, ifK_ap, setS_ap, setK_ap, asgS_ap, asgK_ap, asgJ_ap, nameG_ap, nilG_ap, consG_ap, consGK_ap, fnF_ap, fnK_nx, fnK_rt, forS_ap, forK_ap, negD_ap, addI_ap, varK_ap, startE, yes2, isN, List.map_cons, List.map_nil, List.length_cons, List.length_nil, List.replicate, List.append_nil, List.cons_append, List.nil_append, List.getElem?_cons_zero, List.getElem?_cons_succ, List.set_cons_zero, List.set_cons_succ, R.bind_ok, R.bind_ex, R.bind_bad, R.noex_ok, if_true, if_false, Bool.false_eq_true, Bool.true_eq_false, ite_true, ite_false, reduceIte, Nat.reduceAdd, Nat.reduceSub, Nat.zero_add, Nat.sub_self, Nat.sub_zero, decide_true, decide_false, Bool.not_true, Bool.not_false, subD_ap, ltD_ap, leD_ap, gtD_ap, geD_ap, mulD_ap, modD_ap, divD_ap, powD_ap, tupK_ok, lstK_ok, methK_ok, tupG_ok, eqS_t, eqS_f, neS_t, neS_f, eqI_ap, neI_ap, inT_nil, inT_hit, inT_miss, ne_eq, not_false_eq_true, f14]) rfl b14 mpD_keys rfl (by rw [mpD_len, sizeLine_eq']; omega)
  have run : f_Keeper_put_down [.ref 1, .str n, .int (es.length : Nat), .int w, .int 1] S = .ok .non B5 := by
    have e : b_Keeper_put_down env S = .ok (.nx env) B5 := by
      simp -implicitDefEqProofs +decide only [varF_ap, cF_ap, opF_ap, opK_ap, bF_ap, boolK_ap, andT_ap, andK_ap, orT_ap, orK_ap, notT_ap, notK_ap, yesT_ap, andV_ap, andVK_ap, orV_ap, orVK_ap, notV_ap, notVK_ap, ifF_ap, ifFK_ap, nilA_ap, consA_ap, consK_ap, consJ_ap, tupA_ap, lstA_ap, newO_ap, dicF_ap, callF_ap, un1_ap, methF_ap, nonO_ap, someO_ap, someK_ap, slF_ap, slK_ap, slJ_ap, itF_ap, itA_ap, nilS_ap, bkS_ap, ctS_ap, seqS_ap, seqK_nx, seqK_rt, seqK_bk, seqK_ct, dropS_ap, dropK_ap, retS_ap, retK_ap, retN_ap, ifS_ap, ifK_ap, setS_ap, setK_ap, asgS_ap, asgK_ap, asgJ_ap, nameG_ap, nilG_ap, consG_ap, consGK_ap, fnF_ap, fnK_nx, fnK_rt, forS_ap, forK_ap, negD_ap, addI_ap, varK_ap, startE, yes2, isN, List.map_cons, List.map_nil, List.length_cons, List.length_nil, List.replicate, List.append_nil, List.cons_append, List.nil_append, List.getElem?_cons_zero, List.getElem?_cons_succ, List.set_cons_zero, List.set_cons_succ, R.bind_ok, R.bind_ex, R.bind_bad, R.noex_ok, if_true, if_false, Bool.false_eq_true, Bool.true_eq_false, ite_true, ite_false, reduceIte, Nat.reduceAdd, Nat.reduceSub, Nat.zero_add, Nat.sub_self, Nat.sub_zero, decide_true, decide_false, Bool.not_true, Bool.not_false, subD_ap, ltD_ap, leD_ap, gtD_ap, geD_ap, mulD_ap, modD_ap, divD_ap, powD_ap, tupK_ok, lstK_ok, methK_ok, tupG_ok, eqS_t, eqS_f, neS_t, neS_f, eqI_ap, neI_ap, inT_nil, inT_hit, inT_miss, ne_eq, not_false_eq_true, b_Keeper_put_down, ↓d9, ↓d10, ↓d11, ↓d14]
    rw [henv] at e
    simp -implicitDefEqProofs +decide only [varF_ap, cF_ap, opF_ap, opK_ap, bF_ap, boolK_ap, andT_ap, andK_ap, orT_ap, orK_ap, notT_ap, notK_ap, yesT_ap, andV_ap, andVK_ap, orV_ap, orVK_ap, notV_ap, notVK_ap, ifF_ap, ifFK_ap, nilA_ap, consA_ap, consK_ap, consJ_ap, tupA_ap, lstA_ap, newO_ap, dicF_ap, callF_ap, un1_ap, methF_ap, nonO_ap, someO_ap, someK_ap, slF_ap, slK_ap, slJ_ap, itF_ap, itA_ap, nilS_ap, bkS_ap, ctS_ap, seqS_ap, seqK_nx, seqK_rt, seqK_bk, seqK_ct, dropS_ap, dropK_ap, retS_ap, retK_ap, retN_ap, ifS_ap, ifK_ap, setS_ap, setK_ap, asgS_ap, asgK_ap, asgJ_ap, nameG_ap, nilG_ap, consG_ap, consGK_ap, fnF_ap, fnK_nx, fnK_rt, forS_ap, forK_ap, negD_ap, addI_ap, varK_ap, startE, yes2, isN, List.map_cons, List.map_nil, List.length_cons, List.length_nil, List.replicate, List.append_nil, List.cons_append, List.nil_append, List.getElem?_cons_zero, List.getElem?_cons_succ, List.set_cons_zero, List.set_cons_succ, R.bind_ok, R.bind_ex, R.bind_bad, R.noex_ok, if_true, if_false, Bool.false_eq_true, Bool.true_eq_false, ite_true, ite_false, reduceIte, Nat.reduceAdd, Nat.reduceSub, Nat.zero_add, Nat.sub_self, Nat.sub_zero, decide_true, decide_false, Bool.not_true, Bool.not_false, subD_ap, ltD_ap, leD_ap, gtD_ap, geD_ap, mulD_ap, modD_ap, divD_ap, powD_ap, tupK_ok, lstK_ok, methK_ok, tupG_ok, eqS_t, eqS_f, neS_t, neS_f, eqI_ap, neI_ap, inT_nil, inT_hit, inT_miss, ne_eq, not_false_eq_true, f_Keeper_put_down, e]
  have snA : snE (es ++ [⟨n, w, b, B3.length⟩]) = ⟨(snE es).L ++ [tnd n w], (snE es).W ++ [w]⟩ := by
    unfold snE
    rw [List.map_append, List.map_append]; rfl
  refine ⟨B3.length, B5, run, ⟨keep (by decide) (by decide) (by decide) (by decide) k1, keep (by decide) (by decide) (by decide) (by decide) (q _ _ (by decide) h.m), keep (by decide) (by decide) (by decide) (by decide) (q _ _ (by decide) h.n), ?_, ?_, ?_, ?_, ?_, ?_, ?_, ?_, ?_, ?_, ?_⟩, ?_, by omega⟩
  · rw [snA]
    exact ⟨keep (by decide) (by decide) (by decide) (by decide) at_.l, keep (by decide) (by decide) (by decide) (by decide) at_.w, keep (by decide) (by decide) (by decide) (by decide) at_.d⟩
  · rw [List.map_append]; exact keep (by decide) (by decide) (by decide) (by decide) g7
  · rw [List.map_append]; exact keep (by decide) (by decide) (by decide) (by decide) g8
  · rw [spD_app, Nat.zero_add]
    exact hB5 ▸ set_get (L4.get (hB3 ▸ set_get (hB2 ▸ set_get (hB1 ▸ set_at_ g9) (by decide)) (by decide))) (by decide)
  · rw [mpD_app]
    exact hB5 ▸ set_get (L4.get (hB3 ▸ set_get (hB2 ▸ set_at_ b10) (by decide))) (by decide)
  · rw [mpD_app]
    exact hB5 ▸ set_get (L4.get (hB3 ▸ set_at_ b11)) (by decide)
  · exact keep (by decide) (by decide) (by decide) (by decide) (q _ _ (by decide) h.tx)
  · exact keep (by decide) (by decide) (by decide) (by decide) (q _ _ (by decide) h.tr)
  · rw [mpD_app]
    exact hB5 ▸ set_at_ b14
  · exact keep (by decide) (by decide) (by decide) (by decide) (q _ _ (by decide) h.pr)
  · intro e he
    rcases List.mem_append.mp he with he | he
    · obtain ⟨⟨x1, x2⟩, x3, x4⟩ := h.bs e he
      have lt := h.lt he
      exact ⟨⟨x1, keep (by omega) (by omega) (by omega) (by omega) (q _ _ (by simp; omega) x2)⟩, x3, keep (by omega) (by omega) (by omega) (by omega) (q _ _ (by simp; omega) x4)⟩
    · obtain rfl := List.mem_singleton.mp he
      have k1' : B5[b]? = some (.dic []) := keep (i := b) (by omega) (by omega) (by omega) (by omega) gb
      have k2' : B5[B3.length]? = some (.dic []) := hB5 ▸ set_get (hB4 ▸ get_last) (by omega)
      exact ⟨⟨by show 16 ≤ b; omega, k1'⟩, by show 16 ≤ B3.length; omega, k2'⟩
  · intro i u hi hu
    simp only [List.mem_cons, List.not_mem_nil, or_false, not_or] at hi
    exact keep hi.2.2.2.2.2.1 hi.2.2.2.2.2.2.1 hi.2.2.2.2.2.2.2.1 hi.2.2.2.2.2.2.2.2 (q i u (by simp; omega) hu)
end Law
namespace Law
open PySem L2 VL
def BadW (d : VL.D) (st : Sto) : Prop := (∀ S, Kp [] st S → f_is_whole [d] S = .ok (.bl false) S) ∨ ∃ i : Int, d = .int i ∧ (i < 1 ∨ 12 < i)
theorem not_no {es : List Ent} {d : VL.D} {st : Sto} (a : Asks d false st) : ∃ S', f_Keeper_not_taken [.ref 1, d] st = .ex "NoName" S' ∧ Le st S' := by
  obtain ⟨S', e, l⟩ := a st (Kp.refl _)
  exact ⟨S', by simp -implicitDefEqProofs +decide only [varF_ap, cF_ap, opF_ap, opK_ap, bF_ap, boolK_ap, andT_ap, andK_ap, orT_ap, orK_ap, notT_ap, notK_ap, yesT_ap, andV_ap, andVK_ap, orV_ap, orVK_ap, notV_ap, notVK_ap, ifF_ap, ifFK_ap, nilA_ap, consA_ap, consK_ap, consJ_ap, tupA_ap, lstA_ap, newO_ap, dicF_ap, callF_ap, un1_ap, methF_ap, nonO_ap, someO_ap, someK_ap, slF_ap, slK_ap, slJ_ap, itF_ap, itA_ap, nilS_ap, bkS_ap, ctS_ap, seqS_ap, seqK_nx, seqK_rt, seqK_bk, seqK_ct, dropS_ap, dropK_ap, retS_ap, retK_ap, retN_ap, ifS_ap, ifK_ap, setS_ap, setK_ap, asgS_ap, asgK_ap, asgJ_ap, nameG_ap, nilG_ap, consG_ap, consGK_ap, fnF_ap, fnK_nx, fnK_rt, forS_ap, forK_ap, negD_ap, addI_ap, varK_ap, startE, yes2, isN, List.map_cons, List.map_nil, List.length_cons, List.length_nil, List.replicate, List.append_nil, List.cons_append, List.nil_append, List.getElem?_cons_zero, List.getElem?_cons_succ, List.set_cons_zero, List.set_cons_succ, R.bind_ok, R.bind_ex, R.bind_bad, R.noex_ok, if_true, if_false, Bool.false_eq_true, Bool.true_eq_false, ite_true, ite_false, reduceIte, Nat.reduceAdd, Nat.reduceSub, Nat.zero_add, Nat.sub_self, Nat.sub_zero, decide_true, decide_false, Bool.not_true, Bool.not_false, subD_ap, ltD_ap, leD_ap, gtD_ap, geD_ap, mulD_ap, modD_ap, divD_ap, powD_ap, tupK_ok, lstK_ok, methK_ok, tupG_ok, eqS_t, eqS_f, neS_t, neS_f, eqI_ap, neI_ap, inT_nil, inT_hit, inT_miss, ne_eq, not_false_eq_true, f_Keeper_not_taken, b_Keeper_not_taken, callN_ap, callNK_ap, e, exS_ap], l⟩
section
variable {es : List Ent} {st : Sto} {n : Str}
theorem not_twice {v : VL.D} (h : KS es st) (hn : isNm n = true) (hl : n.length ≤ 8) (hm : dget (spD 0 es) (.str n) = some v) : ∃ S', f_Keeper_not_taken [.ref 1, .str n] st = .ex "Twice" S' ∧ Le st S' := by
  obtain ⟨S', e, l⟩ := asks_str (s := n) (st := st) (by omega) st (Kp.refl _)
  rw [hn] at e
  have hS := h.le l
  have f := hS.fsp
  have dn := (din_yes hS.sp spD_keys (k := .str n) rfl hm).1
  exact ⟨S', by simp -implicitDefEqProofs +decide only [varF_ap, cF_ap, opF_ap, opK_ap, bF_ap, boolK_ap, andT_ap, andK_ap, orT_ap, orK_ap, notT_ap, notK_ap, yesT_ap, andV_ap, andVK_ap, orV_ap, orVK_ap, notV_ap, notVK_ap, ifF_ap, ifFK_ap, nilA_ap, consA_ap, consK_ap, consJ_ap, tupA_ap, lstA_ap, newO_ap, dicF_ap, callF_ap, un1_ap, methF_ap, nonO_ap, someO_ap, someK_ap, slF_ap, slK_ap, slJ_ap, itF_ap, itA_ap, nilS_ap, bkS_ap, ctS_ap, seqS_ap, seqK_nx, seqK_rt, seqK_bk, seqK_ct, dropS_ap, dropK_ap, retS_ap, retK_ap, retN_ap, ifS_ap, ifK_ap, setS_ap, setK_ap, asgS_ap, asgK_ap, asgJ_ap, nameG_ap, nilG_ap, consG_ap, consGK_ap, fnF_ap, fnK_nx, fnK_rt, forS_ap, forK_ap, negD_ap, addI_ap, varK_ap, startE, yes2, isN, List.map_cons, List.map_nil, List.length_cons, List.length_nil, List.replicate, List.append_nil, List.cons_append, List.nil_append, List.getElem?_cons_zero, List.getElem?_cons_succ, List.set_cons_zero, List.set_cons_succ, R.bind_ok, R.bind_ex, R.bind_bad, R.noex_ok, if_true, if_false, Bool.false_eq_true, Bool.true_eq_false, ite_true, ite_false, reduceIte, Nat.reduceAdd, Nat.reduceSub, Nat.zero_add, Nat.sub_self, Nat.sub_zero, decide_true, decide_false, Bool.not_true, Bool.not_false, subD_ap, ltD_ap, leD_ap, gtD_ap, geD_ap, mulD_ap, modD_ap, divD_ap, powD_ap, tupK_ok, lstK_ok, methK_ok, tupG_ok, eqS_t, eqS_f, neS_t, neS_f, eqI_ap, neI_ap, inT_nil, inT_hit, inT_miss, ne_eq, not_false_eq_true, f_Keeper_not_taken, b_Keeper_not_taken, callN_ap, callNK_ap, e, f, dn, exS_ap], l⟩
theorem not_new (h : KS es st) (hn : isNm n = true) (hl : n.length ≤ 8) (hm : dget (spD 0 es) (.str n) = none) : ∃ S', f_Keeper_not_taken [.ref 1, .str n] st = .ok .non S' ∧ Le st S' := by
  obtain ⟨S', e, l⟩ := asks_str (s := n) (st := st) (by omega) st (Kp.refl _)
  rw [hn] at e
  have hS := h.le l
  have f := hS.fsp
  have dn := (din_no hS.sp spD_keys (k := .str n) rfl hm).1
  exact ⟨S', by simp -implicitDefEqProofs +decide only [varF_ap, cF_ap, opF_ap, opK_ap, bF_ap, boolK_ap, andT_ap, andK_ap, orT_ap, orK_ap, notT_ap, notK_ap, yesT_ap, andV_ap, andVK_ap, orV_ap, orVK_ap, notV_ap, notVK_ap, ifF_ap, ifFK_ap, nilA_ap, consA_ap, consK_ap, consJ_ap, tupA_ap, lstA_ap, newO_ap, dicF_ap, callF_ap, un1_ap, methF_ap, nonO_ap, someO_ap, someK_ap, slF_ap, slK_ap, slJ_ap, itF_ap, itA_ap, nilS_ap, bkS_ap, ctS_ap, seqS_ap, seqK_nx, seqK_rt, seqK_bk, seqK_ct, dropS_ap, dropK_ap, retS_ap, retK_ap, retN_ap, ifS_ap, ifK_ap, setS_ap, setK_ap, asgS_ap, asgK_ap, asgJ_ap, nameG_ap, nilG_ap, consG_ap, consGK_ap, fnF_ap, fnK_nx, fnK_rt, forS_ap, forK_ap, negD_ap, addI_ap, varK_ap, startE, yes2, isN, List.map_cons, List.map_nil, List.length_cons, List.length_nil, List.replicate, List.append_nil, List.cons_append, List.nil_append, List.getElem?_cons_zero, List.getElem?_cons_succ, List.set_cons_zero, List.set_cons_succ, R.bind_ok, R.bind_ex, R.bind_bad, R.noex_ok, if_true, if_false, Bool.false_eq_true, Bool.true_eq_false, ite_true, ite_false, reduceIte, Nat.reduceAdd, Nat.reduceSub, Nat.zero_add, Nat.sub_self, Nat.sub_zero, decide_true, decide_false, Bool.not_true, Bool.not_false, subD_ap, ltD_ap, leD_ap, gtD_ap, geD_ap, mulD_ap, modD_ap, divD_ap, powD_ap, tupK_ok, lstK_ok, methK_ok, tupG_ok, eqS_t, eqS_f, neS_t, neS_f, eqI_ap, neI_ap, inT_nil, inT_hit, inT_miss, ne_eq, not_false_eq_true, f_Keeper_not_taken, b_Keeper_not_taken, callN_ap, callNK_ap, e, f, dn], l⟩
theorem table_ex {d w : VL.D} {c : Str} {S' : Sto} (h : KS es st) (e : f_Keeper_not_taken [.ref 1, d] st = .ex c S') : f_Keeper_table [.ref 1, d, w] st = .ex c S' := by
  have m := fun fa e => (h.mK (m := "not_taken") (by decide) f_Keeper_not_taken fa e).1
  simp -implicitDefEqProofs +decide only [varF_ap, cF_ap, opF_ap, opK_ap, bF_ap, boolK_ap, andT_ap, andK_ap, orT_ap, orK_ap, notT_ap, notK_ap, yesT_ap, andV_ap, andVK_ap, orV_ap, orVK_ap, notV_ap, notVK_ap, ifF_ap, ifFK_ap, nilA_ap, consA_ap, consK_ap, consJ_ap, tupA_ap, lstA_ap, newO_ap, dicF_ap, callF_ap, un1_ap, methF_ap, nonO_ap, someO_ap, someK_ap, slF_ap, slK_ap, slJ_ap, itF_ap, itA_ap, nilS_ap, bkS_ap, ctS_ap, seqS_ap, seqK_nx, seqK_rt, seqK_bk, seqK_ct, dropS_ap, dropK_ap, retS_ap, retK_ap, retN_ap, ifS_ap, ifK_ap, setS_ap, setK_ap, asgS_ap, asgK_ap, asgJ_ap, nameG_ap, nilG_ap, consG_ap, consGK_ap, fnF_ap, fnK_nx, fnK_rt, forS_ap, forK_ap, negD_ap, addI_ap, varK_ap, startE, yes2, isN, List.map_cons, List.map_nil, List.length_cons, List.length_nil, List.replicate, List.append_nil, List.cons_append, List.nil_append, List.getElem?_cons_zero, List.getElem?_cons_succ, List.set_cons_zero, List.set_cons_succ, R.bind_ok, R.bind_ex, R.bind_bad, R.noex_ok, if_true, if_false, Bool.false_eq_true, Bool.true_eq_false, ite_true, ite_false, reduceIte, Nat.reduceAdd, Nat.reduceSub, Nat.zero_add, Nat.sub_self, Nat.sub_zero, decide_true, decide_false, Bool.not_true, Bool.not_false, subD_ap, ltD_ap, leD_ap, gtD_ap, geD_ap, mulD_ap, modD_ap, divD_ap, powD_ap, tupK_ok, lstK_ok, methK_ok, tupG_ok, eqS_t, eqS_f, neS_t, neS_f, eqI_ap, neI_ap, inT_nil, inT_hit, inT_miss, ne_eq, not_false_eq_true, f_Keeper_table, b_Keeper_table, m, fnC_ap, e]
theorem table_width {w : VL.D} {S' : Sto} (h : KS es st) (e : f_Keeper_not_taken [.ref 1, .str n] st = .ok .non S') (l : Le st S') (bw : BadW w st) : f_Keeper_table [.ref 1, .str n, w] st = .ex "NoWidth" S' := by
  have m := fun fa e => (h.mK (m := "not_taken") (by decide) f_Keeper_not_taken fa e).1
  rcases bw with bw | ⟨i, rfl, hi⟩
  · have b := bw S' (Kp.le l)
    simp -implicitDefEqProofs +decide only [varF_ap, cF_ap, opF_ap, opK_ap, bF_ap, boolK_ap, andT_ap, andK_ap, orT_ap, orK_ap, notT_ap, notK_ap, yesT_ap, andV_ap, andVK_ap, orV_ap, orVK_ap, notV_ap, notVK_ap, ifF_ap, ifFK_ap, nilA_ap, consA_ap, consK_ap, consJ_ap, tupA_ap, lstA_ap, newO_ap, dicF_ap, callF_ap, un1_ap, methF_ap, nonO_ap, someO_ap, someK_ap, slF_ap, slK_ap, slJ_ap, itF_ap, itA_ap, nilS_ap, bkS_ap, ctS_ap, seqS_ap, seqK_nx, seqK_rt, seqK_bk, seqK_ct, dropS_ap, dropK_ap, retS_ap, retK_ap, retN_ap, ifS_ap, ifK_ap, setS_ap, setK_ap, asgS_ap, asgK_ap, asgJ_ap, nameG_ap, nilG_ap, consG_ap, consGK_ap, fnF_ap, fnK_nx, fnK_rt, forS_ap, forK_ap, negD_ap, addI_ap, varK_ap, startE, yes2, isN, List.map_cons, List.map_nil, List.length_cons, List.length_nil, List.replicate, List.append_nil, List.cons_append, List.nil_append, List.getElem?_cons_zero, List.getElem?_cons_succ, List.set_cons_zero, List.set_cons_succ, R.bind_ok, R.bind_ex, R.bind_bad, R.noex_ok, if_true, if_false, Bool.false_eq_true, Bool.true_eq_false, ite_true, ite_false, reduceIte, Nat.reduceAdd, Nat.reduceSub, Nat.zero_add, Nat.sub_self, Nat.sub_zero, decide_true, decide_false, Bool.not_true, Bool.not_false, subD_ap, ltD_ap, leD_ap, gtD_ap, geD_ap, mulD_ap, modD_ap, divD_ap, powD_ap, tupK_ok, lstK_ok, methK_ok, tupG_ok, eqS_t, eqS_f, neS_t, neS_f, eqI_ap, neI_ap, inT_nil, inT_hit, inT_miss, ne_eq, not_false_eq_true, f_Keeper_table, b_Keeper_table, m, fnC_ap, e, callN_ap, callNK_ap, b, exS_ap]
  · have b := whole_int (i := i) (st := S')
    by_cases h1 : i < 1
    · have d1 := decide_eq_true h1
      simp -implicitDefEqProofs +decide only [varF_ap, cF_ap, opF_ap, opK_ap, bF_ap, boolK_ap, andT_ap, andK_ap, orT_ap, orK_ap, notT_ap, notK_ap, yesT_ap, andV_ap, andVK_ap, orV_ap, orVK_ap, notV_ap, notVK_ap, ifF_ap, ifFK_ap, nilA_ap, consA_ap, consK_ap, consJ_ap, tupA_ap, lstA_ap, newO_ap, dicF_ap, callF_ap, un1_ap, methF_ap, nonO_ap, someO_ap, someK_ap, slF_ap, slK_ap, slJ_ap, itF_ap, itA_ap, nilS_ap, bkS_ap, ctS_ap, seqS_ap, seqK_nx, seqK_rt, seqK_bk, seqK_ct, dropS_ap, dropK_ap, retS_ap, retK_ap, retN_ap, ifS_ap, ifK_ap, setS_ap, setK_ap, asgS_ap, asgK_ap, asgJ_ap, nameG_ap, nilG_ap, consG_ap, consGK_ap, fnF_ap, fnK_nx, fnK_rt, forS_ap, forK_ap, negD_ap, addI_ap, varK_ap, startE, yes2, isN, List.map_cons, List.map_nil, List.length_cons, List.length_nil, List.replicate, List.append_nil, List.cons_append, List.nil_append, List.getElem?_cons_zero, List.getElem?_cons_succ, List.set_cons_zero, List.set_cons_succ, R.bind_ok, R.bind_ex, R.bind_bad, R.noex_ok, if_true, if_false, Bool.false_eq_true, Bool.true_eq_false, ite_true, ite_false, reduceIte, Nat.reduceAdd, Nat.reduceSub, Nat.zero_add, Nat.sub_self, Nat.sub_zero, decide_true, decide_false, Bool.not_true, Bool.not_false, subD_ap, ltD_ap, leD_ap, gtD_ap, geD_ap, mulD_ap, modD_ap, divD_ap, powD_ap, tupK_ok, lstK_ok, methK_ok, tupG_ok, eqS_t, eqS_f, neS_t, neS_f, eqI_ap, neI_ap, inT_nil, inT_hit, inT_miss, ne_eq, not_false_eq_true, f_Keeper_table, b_Keeper_table, m, fnC_ap, e, callN_ap, callNK_ap, b, d1, exS_ap]
    · have d1 := decide_eq_false h1
      have gt : gtD (.int i) (.int 12) S' = .ok (.bl true) S' := by rw [gtD_ap, decide_eq_true (by omega)]
      simp -implicitDefEqProofs +decide only [varF_ap, cF_ap, opF_ap, opK_ap, bF_ap, boolK_ap, andT_ap, andK_ap, orT_ap, orK_ap, notT_ap, notK_ap, yesT_ap, andV_ap, andVK_ap, orV_ap, orVK_ap, notV_ap, notVK_ap, ifF_ap, ifFK_ap, nilA_ap, consA_ap, consK_ap, consJ_ap, tupA_ap, lstA_ap, newO_ap, dicF_ap, callF_ap, un1_ap, methF_ap, nonO_ap, someO_ap, someK_ap, slF_ap, slK_ap, slJ_ap, itF_ap, itA_ap, nilS_ap, bkS_ap, ctS_ap, seqS_ap, seqK_nx, seqK_rt, seqK_bk, seqK_ct, dropS_ap, dropK_ap, retS_ap, retK_ap, retN_ap, ifS_ap, ifK_ap, setS_ap, setK_ap, asgS_ap, asgK_ap, asgJ_ap, nameG_ap, nilG_ap, consG_ap, consGK_ap, fnF_ap, fnK_nx, fnK_rt, forS_ap, forK_ap, negD_ap, addI_ap, varK_ap, startE, yes2, isN, List.map_cons, List.map_nil, List.length_cons, List.length_nil, List.replicate, List.append_nil, List.cons_append, List.nil_append, List.getElem?_cons_zero, List.getElem?_cons_succ, List.set_cons_zero, List.set_cons_succ, R.bind_ok, R.bind_ex, R.bind_bad, R.noex_ok, if_true, if_false, Bool.false_eq_true, Bool.true_eq_false, ite_true, ite_false, reduceIte, Nat.reduceAdd, Nat.reduceSub, Nat.zero_add, Nat.sub_self, Nat.sub_zero, decide_true, decide_false, Bool.not_true, Bool.not_false, subD_ap, ltD_ap, leD_ap, gtD_ap, geD_ap, mulD_ap, modD_ap, divD_ap, powD_ap, tupK_ok, lstK_ok, methK_ok, tupG_ok, eqS_t, eqS_f, neS_t, neS_f, eqI_ap, neI_ap, inT_nil, inT_hit, inT_miss, ne_eq, not_false_eq_true, f_Keeper_table, b_Keeper_table, m, fnC_ap, e, callN_ap, callNK_ap, b, d1, gt, exS_ap]
theorem table_new {i : Int} (h : KI es st) (hn : isNm n = true) (hl : n.length ≤ 8) (hm : ∀ e ∈ es, e.n ≠ n) (h1 : 1 ≤ i) (h2 : i ≤ 12) (hz : es.length ≤ 1000) : ∃ b s S', f_Keeper_table [.ref 1, .str n, .int i] st = .ok .non S' ∧ KI (es ++ [⟨n, i, b, s⟩]) S' ∧ Kp [4, 5, 6, 7, 8, 9, 10, 11, 14] st S' ∧ st.length ≤ b ∧ st.length ≤ s := by
  have no : dget (spD 0 es) (.str n) = none := by
    rcases look_es n es 0 with ⟨_, _, h3⟩ | ⟨j, e, h1, h2, _⟩
    · exact h3
    · exact absurd h2 (hm e (List.mem_of_getElem? h1))
  obtain ⟨S1, e1, l1⟩ := not_new h.ks hn hl no
  have k1 := h.ks.le l1
  obtain ⟨b, S2, e2, at2, q2, g7, g8, gb, hb, ok2⟩ := machine_table (w := i) k1 h.ok hm hz
  obtain ⟨s, S3, e3, k3, q3, ls⟩ := put_down (w := i) k1 hm hz at2 q2 g7 g8 gb hb
  have lz := l1.len
  have bl : b < S2.length := (List.getElem?_eq_some_iff.mp gb).1
  have m := fun fa e => (h.ks.mK (m := "not_taken") (by decide) f_Keeper_not_taken fa e).1
  have m2 := fun fa e => (k1.mK (m := "put_down") (by decide) f_Keeper_put_down fa e).2
  have m3 := fun fa e => (k1.mM (m := "table") (by decide) f_Machine_table fa e).2
  have w1 := whole_int (i := i) (st := S1)
  have d1 : decide (i < 1) = false := decide_eq_false (by omega)
  have gt : gtD (.int i) (.int 12) S1 = .ok (.bl false) S1 := by rw [gtD_ap, decide_eq_false (by omega)]
  have sn : snE (es ++ [⟨n, i, b, s⟩]) = ⟨(snE es).L ++ [tnd n i], (snE es).W ++ [i]⟩ := by
    unfold snE
    rw [List.map_append, List.map_append]; rfl
  refine ⟨b, s, S3, by simp -implicitDefEqProofs +decide only [varF_ap, cF_ap, opF_ap, opK_ap, bF_ap, boolK_ap, andT_ap, andK_ap, orT_ap, orK_ap, notT_ap, notK_ap, yesT_ap, andV_ap, andVK_ap, orV_ap, orVK_ap, notV_ap, notVK_ap, ifF_ap, ifFK_ap, nilA_ap, consA_ap, consK_ap, consJ_ap, tupA_ap, lstA_ap, newO_ap, dicF_ap, callF_ap, un1_ap, methF_ap, nonO_ap, someO_ap, someK_ap, slF_ap, slK_ap, slJ_ap, itF_ap, itA_ap, nilS_ap, bkS_ap, ctS_ap, seqS_ap, seqK_nx, seqK_rt, seqK_bk, seqK_ct, dropS_ap, dropK_ap, retS_ap, retK_ap, retN_ap, ifS_ap, ifK_ap, setS_ap, setK_ap, asgS_ap, asgK_ap, asgJ_ap, nameG_ap, nilG_ap, consG_ap, consGK_ap, fnF_ap, fnK_nx, fnK_rt, forS_ap, forK_ap, negD_ap, addI_ap, varK_ap, startE, yes2, isN, List.map_cons, List.map_nil, List.length_cons, List.length_nil, List.replicate, List.append_nil, List.cons_append, List.nil_append, List.getElem?_cons_zero, List.getElem?_cons_succ, List.set_cons_zero, List.set_cons_succ, R.bind_ok, R.bind_ex, R.bind_bad, R.noex_ok, if_true, if_false, Bool.false_eq_true, Bool.true_eq_false, ite_true, ite_false, reduceIte, Nat.reduceAdd, Nat.reduceSub, Nat.zero_add, Nat.sub_self, Nat.sub_zero, decide_true, decide_false, Bool.not_true, Bool.not_false, subD_ap, ltD_ap, leD_ap, gtD_ap, geD_ap, mulD_ap, modD_ap, divD_ap, powD_ap, tupK_ok, lstK_ok, methK_ok, tupG_ok, eqS_t, eqS_f, neS_t, neS_f, eqI_ap, neI_ap, inT_nil, inT_hit, inT_miss, ne_eq, not_false_eq_true, f_Keeper_table, b_Keeper_table, m, fnC_ap, e1, callN_ap, callNK_ap, w1, d1, gt, m2, m3, fnNC_ap, e2, e3], ⟨k3, by rw [sn]; exact ok2, ?_, ?_⟩, (Kp.le l1).trans q3, by omega, by omega⟩
  · rw [List.map_append]
    refine List.nodup_append.mpr ⟨h.nd, by simp, ?_⟩
    intro a ha c hc
    obtain ⟨e, he, rfl⟩ := List.mem_map.mp ha
    have hc : c = n := by simpa using hc
    rw [hc]
    exact hm e he
  · intro e he
    rcases List.mem_append.mp he with he | he
    · exact h.nm e he
    · obtain rfl := List.mem_singleton.mp he
      exact ⟨hn, hl⟩
theorem made_ex {d w : VL.D} {c : Str} {k : Int} {S' Sw : Sto} (h : KS es st) (e : f_Keeper_table [.ref 1, d, w] st = .ex c S') (ho : okcX c = true) (hw : f__law_which [.exc c] [] = .ok (.int k) Sw) : f__law_made [.ref 1, d, w] st = .ok (.int k) S' := by
  have m := fun fa e => (h.mK (m := "table") (by decide) f_Keeper_table fa e).1
  have hd : (retS (callF f__law_which (consA (varF 4) nilA))) ((List.replicate 5 none).set 4 (some (.exc c))) [] = .ok (.rt (.int k)) Sw := by simp -implicitDefEqProofs +decide only [varF_ap, cF_ap, opF_ap, opK_ap, bF_ap, boolK_ap, andT_ap, andK_ap, orT_ap, orK_ap, notT_ap, notK_ap, yesT_ap, andV_ap, andVK_ap, orV_ap, orVK_ap, notV_ap, notVK_ap, ifF_ap, ifFK_ap, nilA_ap, consA_ap, consK_ap, consJ_ap, tupA_ap, lstA_ap, newO_ap, dicF_ap, callF_ap, un1_ap, methF_ap, nonO_ap, someO_ap, someK_ap, slF_ap, slK_ap, slJ_ap, itF_ap, itA_ap, nilS_ap, bkS_ap, ctS_ap, seqS_ap, seqK_nx, seqK_rt, seqK_bk, seqK_ct, dropS_ap, dropK_ap, retS_ap, retK_ap, retN_ap, ifS_ap, ifK_ap, setS_ap, setK_ap, asgS_ap, asgK_ap, asgJ_ap, nameG_ap, nilG_ap, consG_ap, consGK_ap, fnF_ap, fnK_nx, fnK_rt, forS_ap, forK_ap, negD_ap, addI_ap, varK_ap, startE, yes2, isN, List.map_cons, List.map_nil, List.length_cons, List.length_nil, List.replicate, List.append_nil, List.cons_append, List.nil_append, List.getElem?_cons_zero, List.getElem?_cons_succ, List.set_cons_zero, List.set_cons_succ, R.bind_ok, R.bind_ex, R.bind_bad, R.noex_ok, if_true, if_false, Bool.false_eq_true, Bool.true_eq_false, ite_true, ite_false, reduceIte, Nat.reduceAdd, Nat.reduceSub, Nat.zero_add, Nat.sub_self, Nat.sub_zero, decide_true, decide_false, Bool.not_true, Bool.not_false, subD_ap, ltD_ap, leD_ap, gtD_ap, geD_ap, mulD_ap, modD_ap, divD_ap, powD_ap, tupK_ok, lstK_ok, methK_ok, tupG_ok, eqS_t, eqS_f, neS_t, neS_f, eqI_ap, neI_ap, inT_nil, inT_hit, inT_miss, ne_eq, not_false_eq_true, hw]
  have t : tryX 5 4 okcX (setS 3 (methO "Keeper" "table" f_Keeper_table (varF 0) (consA (varF 1) (consA (varF 2) nilA)))) (retS (callF f__law_which (consA (varF 4) nilA))) [some (.ref 1), some d, some w, none, none] st = .ok (.rt (.int k)) S' :=
    tryX_ex (by simp -implicitDefEqProofs +decide only [varF_ap, cF_ap, opF_ap, opK_ap, bF_ap, boolK_ap, andT_ap, andK_ap, orT_ap, orK_ap, notT_ap, notK_ap, yesT_ap, andV_ap, andVK_ap, orV_ap, orVK_ap, notV_ap, notVK_ap, ifF_ap, ifFK_ap, nilA_ap, consA_ap, consK_ap, consJ_ap, tupA_ap, lstA_ap, newO_ap, dicF_ap, callF_ap, un1_ap, methF_ap, nonO_ap, someO_ap, someK_ap, slF_ap, slK_ap, slJ_ap, itF_ap, itA_ap, nilS_ap, bkS_ap, ctS_ap, seqS_ap, seqK_nx, seqK_rt, seqK_bk, seqK_ct, dropS_ap, dropK_ap, retS_ap, retK_ap, retN_ap, ifS_ap, ifK_ap, setS_ap, setK_ap, asgS_ap, asgK_ap, asgJ_ap, nameG_ap, nilG_ap, consG_ap, consGK_ap, fnF_ap, fnK_nx, fnK_rt, forS_ap, forK_ap, negD_ap, addI_ap, varK_ap, startE, yes2, isN, List.map_cons, List.map_nil, List.length_cons, List.length_nil, List.replicate, List.append_nil, List.cons_append, List.nil_append, List.getElem?_cons_zero, List.getElem?_cons_succ, List.set_cons_zero, List.set_cons_succ, R.bind_ok, R.bind_ex, R.bind_bad, R.noex_ok, if_true, if_false, Bool.false_eq_true, Bool.true_eq_false, ite_true, ite_false, reduceIte, Nat.reduceAdd, Nat.reduceSub, Nat.zero_add, Nat.sub_self, Nat.sub_zero, decide_true, decide_false, Bool.not_true, Bool.not_false, subD_ap, ltD_ap, leD_ap, gtD_ap, geD_ap, mulD_ap, modD_ap, divD_ap, powD_ap, tupK_ok, lstK_ok, methK_ok, tupG_ok, eqS_t, eqS_f, neS_t, neS_f, eqI_ap, neI_ap, inT_nil, inT_hit, inT_miss, ne_eq, not_false_eq_true, m, fnC_ap, e]) ho hd rfl
  simp -implicitDefEqProofs +decide only [varF_ap, cF_ap, opF_ap, opK_ap, bF_ap, boolK_ap, andT_ap, andK_ap, orT_ap, orK_ap, notT_ap, notK_ap, yesT_ap, andV_ap, andVK_ap, orV_ap, orVK_ap, notV_ap, notVK_ap, ifF_ap, ifFK_ap, nilA_ap, consA_ap, consK_ap, consJ_ap, tupA_ap, lstA_ap, newO_ap, dicF_ap, callF_ap, un1_ap, methF_ap, nonO_ap, someO_ap, someK_ap, slF_ap, slK_ap, slJ_ap, itF_ap, itA_ap, nilS_ap, bkS_ap, ctS_ap, seqS_ap, seqK_nx, seqK_rt, seqK_bk, seqK_ct, dropS_ap, dropK_ap, retS_ap, retK_ap, retN_ap, ifS_ap, ifK_ap, setS_ap, setK_ap, asgS_ap, asgK_ap, asgJ_ap, nameG_ap, nilG_ap, consG_ap, consGK_ap, fnF_ap, fnK_nx, fnK_rt, forS_ap, forK_ap, negD_ap, addI_ap, varK_ap, startE, yes2, isN, List.map_cons, List.map_nil, List.length_cons, List.length_nil, List.replicate, List.append_nil, List.cons_append, List.nil_append, List.getElem?_cons_zero, List.getElem?_cons_succ, List.set_cons_zero, List.set_cons_succ, R.bind_ok, R.bind_ex, R.bind_bad, R.noex_ok, if_true, if_false, Bool.false_eq_true, Bool.true_eq_false, ite_true, ite_false, reduceIte, Nat.reduceAdd, Nat.reduceSub, Nat.zero_add, Nat.sub_self, Nat.sub_zero, decide_true, decide_false, Bool.not_true, Bool.not_false, subD_ap, ltD_ap, leD_ap, gtD_ap, geD_ap, mulD_ap, modD_ap, divD_ap, powD_ap, tupK_ok, lstK_ok, methK_ok, tupG_ok, eqS_t, eqS_f, neS_t, neS_f, eqI_ap, neI_ap, inT_nil, inT_hit, inT_miss, ne_eq, not_false_eq_true, f__law_made, b__law_made, ↓t]
theorem made_ok {d w : VL.D} {S' : Sto} (h : KS es st) (e : f_Keeper_table [.ref 1, d, w] st = .ok .non S') : f__law_made [.ref 1, d, w] st = .ok (.int (-1)) S' := by
  have m := fun fa e => (h.mK (m := "table") (by decide) f_Keeper_table fa e).1
  have t : tryX 5 4 okcX (setS 3 (methO "Keeper" "table" f_Keeper_table (varF 0) (consA (varF 1) (consA (varF 2) nilA)))) (retS (callF f__law_which (consA (varF 4) nilA))) [some (.ref 1), some d, some w, none, none] st = .ok (.nx [some (.ref 1), some d, some w, some .non, none]) S' :=
    tryX_ok (by simp -implicitDefEqProofs +decide only [varF_ap, cF_ap, opF_ap, opK_ap, bF_ap, boolK_ap, andT_ap, andK_ap, orT_ap, orK_ap, notT_ap, notK_ap, yesT_ap, andV_ap, andVK_ap, orV_ap, orVK_ap, notV_ap, notVK_ap, ifF_ap, ifFK_ap, nilA_ap, consA_ap, consK_ap, consJ_ap, tupA_ap, lstA_ap, newO_ap, dicF_ap, callF_ap, un1_ap, methF_ap, nonO_ap, someO_ap, someK_ap, slF_ap, slK_ap, slJ_ap, itF_ap, itA_ap, nilS_ap, bkS_ap, ctS_ap, seqS_ap, seqK_nx, seqK_rt, seqK_bk, seqK_ct, dropS_ap, dropK_ap, retS_ap, retK_ap, retN_ap, ifS_ap, ifK_ap, setS_ap, setK_ap, asgS_ap, asgK_ap, asgJ_ap, nameG_ap, nilG_ap, consG_ap, consGK_ap, fnF_ap, fnK_nx, fnK_rt, forS_ap, forK_ap, negD_ap, addI_ap, varK_ap, startE, yes2, isN, List.map_cons, List.map_nil, List.length_cons, List.length_nil, List.replicate, List.append_nil, List.cons_append, List.nil_append, List.getElem?_cons_zero, List.getElem?_cons_succ, List.set_cons_zero, List.set_cons_succ, R.bind_ok, R.bind_ex, R.bind_bad, R.noex_ok, if_true, if_false, Bool.false_eq_true, Bool.true_eq_false, ite_true, ite_false, reduceIte, Nat.reduceAdd, Nat.reduceSub, Nat.zero_add, Nat.sub_self, Nat.sub_zero, decide_true, decide_false, Bool.not_true, Bool.not_false, subD_ap, ltD_ap, leD_ap, gtD_ap, geD_ap, mulD_ap, modD_ap, divD_ap, powD_ap, tupK_ok, lstK_ok, methK_ok, tupG_ok, eqS_t, eqS_f, neS_t, neS_f, eqI_ap, neI_ap, inT_nil, inT_hit, inT_miss, ne_eq, not_false_eq_true, m, fnC_ap, e])
  have nn : isN false .non .non S' = .ok (.bl true) S' := isN_f
  have ng : negD (.int 1) S' = .ok (.int (-1)) S' := rfl
  simp -implicitDefEqProofs +decide only [varF_ap, cF_ap, opF_ap, opK_ap, bF_ap, boolK_ap, andT_ap, andK_ap, orT_ap, orK_ap, notT_ap, notK_ap, yesT_ap, andV_ap, andVK_ap, orV_ap, orVK_ap, notV_ap, notVK_ap, ifF_ap, ifFK_ap, nilA_ap, consA_ap, consK_ap, consJ_ap, tupA_ap, lstA_ap, newO_ap, dicF_ap, callF_ap, un1_ap, methF_ap, nonO_ap, someO_ap, someK_ap, slF_ap, slK_ap, slJ_ap, itF_ap, itA_ap, nilS_ap, bkS_ap, ctS_ap, seqS_ap, seqK_nx, seqK_rt, seqK_bk, seqK_ct, dropS_ap, dropK_ap, retS_ap, retK_ap, retN_ap, ifS_ap, ifK_ap, setS_ap, setK_ap, asgS_ap, asgK_ap, asgJ_ap, nameG_ap, nilG_ap, consG_ap, consGK_ap, fnF_ap, fnK_nx, fnK_rt, forS_ap, forK_ap, negD_ap, addI_ap, varK_ap, startE, yes2, isN, List.map_cons, List.map_nil, List.length_cons, List.length_nil, List.replicate, List.append_nil, List.cons_append, List.nil_append, List.getElem?_cons_zero, List.getElem?_cons_succ, List.set_cons_zero, List.set_cons_succ, R.bind_ok, R.bind_ex, R.bind_bad, R.noex_ok, if_true, if_false, Bool.false_eq_true, Bool.true_eq_false, ite_true, ite_false, reduceIte, Nat.reduceAdd, Nat.reduceSub, Nat.zero_add, Nat.sub_self, Nat.sub_zero, decide_true, decide_false, Bool.not_true, Bool.not_false, subD_ap, ltD_ap, leD_ap, gtD_ap, geD_ap, mulD_ap, modD_ap, divD_ap, powD_ap, tupK_ok, lstK_ok, methK_ok, tupG_ok, eqS_t, eqS_f, neS_t, neS_f, eqI_ap, neI_ap, inT_nil, inT_hit, inT_miss, ne_eq, not_false_eq_true, f__law_made, b__law_made, ↓t, nn, ng]
end
end Law
namespace Law
open PySem L2 VL
theorem mulL {a : Int} (h : Sm 64 a) (b : Int) {st : Sto} : mulD (.int a) (.int b) st = .ok (.int (a * b)) st := mulD_ap (of_decide_eq_true (mul_okL h))
theorem mulR {a : Int} {b : Int} (h : Sm 64 b) {st : Sto} : mulD (.int a) (.int b) st = .ok (.int (a * b)) st := mulD_ap (of_decide_eq_true (mul_okR h))
theorem sm_small {k : Int} (h0 : -1000 ≤ k) (h1 : k ≤ 1000) : Sm 64 k := Nat.lt_of_le_of_lt (by omega : k.natAbs ≤ 1000) (by decide)
def mx (c k : Int) : Int := ((c % 1000000007 + 101 * k * k + k) * 48271 % 2147483647) * ((c % 1000000007 + 101 * k * k + k) * 48271 % 2147483647) % 2147483629
theorem mixed_ok {c k : Int} {T : Sto} (h0 : 0 ≤ k) (h1 : k ≤ 1000) : f__law_mixed [.int c, .int k] T = .ok (.int (mx c k)) T := by
  have m1 : mulD (.int 101) (.int k) T = .ok (.int (101 * k)) T := mulL (by decide) _
  have m2 : mulD (.int (101 * k)) (.int k) T = .ok (.int (101 * k * k)) T := mulR (sm_small (by omega) h1)
  have m3 : mulD (.int (c % 1000000007 + 101 * k * k + k)) (.int 48271) T = .ok (.int ((c % 1000000007 + 101 * k * k + k) * 48271)) T := mulR (by decide)
  have m4 : mulD (.int ((c % 1000000007 + 101 * k * k + k) * 48271 % 2147483647)) (.int ((c % 1000000007 + 101 * k * k + k) * 48271 % 2147483647)) T = .ok (.int (((c % 1000000007 + 101 * k * k + k) * 48271 % 2147483647) * ((c % 1000000007 + 101 * k * k + k) * 48271 % 2147483647))) T := mulR (Sm.mod (by decide) (by decide))
  simp -implicitDefEqProofs +decide only [varF_ap, cF_ap, opF_ap, opK_ap, bF_ap, boolK_ap, andT_ap, andK_ap, orT_ap, orK_ap, notT_ap, notK_ap, yesT_ap, andV_ap, andVK_ap, orV_ap, orVK_ap, notV_ap, notVK_ap, ifF_ap, ifFK_ap, nilA_ap, consA_ap, consK_ap, consJ_ap, tupA_ap, lstA_ap, newO_ap, dicF_ap, callF_ap, un1_ap, methF_ap, nonO_ap, someO_ap, someK_ap, slF_ap, slK_ap, slJ_ap, itF_ap, itA_ap, nilS_ap, bkS_ap, ctS_ap, seqS_ap, seqK_nx, seqK_rt, seqK_bk, seqK_ct, dropS_ap, dropK_ap, retS_ap, retK_ap, retN_ap, ifS_ap, ifK_ap, setS_ap, setK_ap, asgS_ap, asgK_ap, asgJ_ap, nameG_ap, nilG_ap, consG_ap, consGK_ap, fnF_ap, fnK_nx, fnK_rt, forS_ap, forK_ap, negD_ap, addI_ap, varK_ap, startE, yes2, isN, List.map_cons, List.map_nil, List.length_cons, List.length_nil, List.replicate, List.append_nil, List.cons_append, List.nil_append, List.getElem?_cons_zero, List.getElem?_cons_succ, List.set_cons_zero, List.set_cons_succ, R.bind_ok, R.bind_ex, R.bind_bad, R.noex_ok, if_true, if_false, Bool.false_eq_true, Bool.true_eq_false, ite_true, ite_false, reduceIte, Nat.reduceAdd, Nat.reduceSub, Nat.zero_add, Nat.sub_self, Nat.sub_zero, decide_true, decide_false, Bool.not_true, Bool.not_false, subD_ap, ltD_ap, leD_ap, gtD_ap, geD_ap, mulD_ap, modD_ap, divD_ap, powD_ap, tupK_ok, lstK_ok, methK_ok, tupG_ok, eqS_t, eqS_f, neS_t, neS_f, eqI_ap, neI_ap, inT_nil, inT_hit, inT_miss, ne_eq, not_false_eq_true, f__law_mixed, b__law_mixed, addI_ap, ↓m1, m1, m2, m3, m4, mx]
def Lt (l : List Nat) : Prop := ∀ c ∈ l, 97 ≤ c ∧ c < 123
theorem isNm_of {l : List Nat} (h : Lt l) (h1 : 1 ≤ l.length) (h8 : l.length ≤ 8) : isNm (S l) = true ∧ (S l).length ≤ 8 := by
  have e : (S l).length = l.length := S_len l
  refine ⟨?_, by omega⟩
  unfold isNm
  rw [e, decide_eq_true h1, decide_eq_true h8, Bool.true_and, Bool.true_and, show (S l).cps.toList = l from cs_S l, List.all_eq_true]
  exact fun c hc => decide_eq_true (h c hc)
theorem base_ok {c : Int} {T : Sto} {e1 e2 e3 e4 e5 e6 e7 e8 : Option VL.D} : ∃ (bs : List Nat) (T' : Sto), q0__law_names [some (.int c), e1, e2, e3, e4, e5, e6, e7, e8] T = .ok (.ref T.length) T' ∧ T'[T.length]? = some (.lst (bs.map fun b => .int (b : Nat))) ∧ Le T T' ∧ (∀ b ∈ bs, b < 26) ∧ (bs.length : Int) = 1 + c % 8 := by
  have b1 := Int.emod_nonneg c (show (8 : Int) ≠ 0 by decide)
  obtain ⟨n, hn⟩ : ∃ n : Nat, 1 + c % 8 = n := ⟨(1 + c % 8).toNat, by omega⟩
  have n8 : n ≤ 8 := by omega
  have rg : rng1D [.int (n : Nat)] T = .ok (intsD 0 1 n, []) T := rng1_ok (by omega)
  obtain ⟨l, hl, ⟨j, e⟩, _⟩ := lcF_any (A := {m : Nat // m < 26}) (it := itA rng1D (consA (opF addD (cF (.int 1)) (opF modD (varF 0) (cF (.int 8)))) nilA)) (vs := [4]) (gf := nameG 4) (te := opF modD (callF f__law_mixed (consA (varF 0) (consA (opF addD (cF (.int 10)) (varF 4)) nilA))) (cF (.int 26))) (env := [some (.int c), e1, e2, e3, e4, e5, e6, e7, e8]) (st := T) (s := T) (c := []) (ds := intsD 0 1 n)
    (fun a => .int (a.1 : Nat)) (fun _ _ => True) (by simp -implicitDefEqProofs +decide only [varF_ap, cF_ap, opF_ap, opK_ap, bF_ap, boolK_ap, andT_ap, andK_ap, orT_ap, orK_ap, notT_ap, notK_ap, yesT_ap, andV_ap, andVK_ap, orV_ap, orVK_ap, notV_ap, notVK_ap, ifF_ap, ifFK_ap, nilA_ap, consA_ap, consK_ap, consJ_ap, tupA_ap, lstA_ap, newO_ap, dicF_ap, callF_ap, un1_ap, methF_ap, nonO_ap, someO_ap, someK_ap, slF_ap, slK_ap, slJ_ap, itF_ap, itA_ap, nilS_ap, bkS_ap, ctS_ap, seqS_ap, seqK_nx, seqK_rt, seqK_bk, seqK_ct, dropS_ap, dropK_ap, retS_ap, retK_ap, retN_ap, ifS_ap, ifK_ap, setS_ap, setK_ap, asgS_ap, asgK_ap, asgJ_ap, nameG_ap, nilG_ap, consG_ap, consGK_ap, fnF_ap, fnK_nx, fnK_rt, forS_ap, forK_ap, negD_ap, addI_ap, varK_ap, startE, yes2, isN, List.map_cons, List.map_nil, List.length_cons, List.length_nil, List.replicate, List.append_nil, List.cons_append, List.nil_append, List.getElem?_cons_zero, List.getElem?_cons_succ, List.set_cons_zero, List.set_cons_succ, R.bind_ok, R.bind_ex, R.bind_bad, R.noex_ok, if_true, if_false, Bool.false_eq_true, Bool.true_eq_false, ite_true, ite_false, reduceIte, Nat.reduceAdd, Nat.reduceSub, Nat.zero_add, Nat.sub_self, Nat.sub_zero, decide_true, decide_false, Bool.not_true, Bool.not_false, subD_ap, ltD_ap, leD_ap, gtD_ap, geD_ap, mulD_ap, modD_ap, divD_ap, powD_ap, tupK_ok, lstK_ok, methK_ok, tupG_ok, eqS_t, eqS_f, neS_t, neS_f, eqI_ap, neI_ap, inT_nil, inT_hit, inT_miss, ne_eq, not_false_eq_true, addI_ap, hn, rg]) chk_nil (by rw [intsD_len, sizeLine_eq']; omega) fun x hx => by
      obtain ⟨i, hi⟩ := List.mem_iff_getElem?.mp hx
      obtain ⟨hin, rfl⟩ := intsD_get hi
      have v1 := Int.emod_nonneg (mx c (10 + (0 + (i : Nat) * 1))) (show (26 : Int) ≠ 0 by decide)
      have v2 := Int.emod_lt_of_pos (mx c (10 + (0 + (i : Nat) * 1))) (show (0 : Int) < 26 by decide)
      refine ⟨⟨(mx c (10 + (0 + (i : Nat) * 1)) % 26).toNat, by omega⟩, trivial, fun T' _ => ⟨[some (.int c), e1, e2, e3, some (.int (0 + (i : Nat) * 1)), e5, e6, e7, e8], [], rfl, ?_⟩⟩
      have mm := mixed_ok (c := c) (k := 10 + (0 + (i : Nat) * 1)) (T := T') (by omega) (by omega)
      rw [List.append_nil]
      have e : ((((mx c (10 + (0 + (i : Nat) * 1)) % 26).toNat : Nat) : Int)) = mx c (10 + (0 + (i : Nat) * 1)) % 26 := by omega
      show _ = R.ok (VL.D.int (((mx c (10 + (0 + (i : Nat) * 1)) % 26).toNat : Nat) : Int)) T'
      rw [e]
      simp -implicitDefEqProofs +decide only [varF_ap, cF_ap, opF_ap, opK_ap, bF_ap, boolK_ap, andT_ap, andK_ap, orT_ap, orK_ap, notT_ap, notK_ap, yesT_ap, andV_ap, andVK_ap, orV_ap, orVK_ap, notV_ap, notVK_ap, ifF_ap, ifFK_ap, nilA_ap, consA_ap, consK_ap, consJ_ap, tupA_ap, lstA_ap, newO_ap, dicF_ap, callF_ap, un1_ap, methF_ap, nonO_ap, someO_ap, someK_ap, slF_ap, slK_ap, slJ_ap, itF_ap, itA_ap, nilS_ap, bkS_ap, ctS_ap, seqS_ap, seqK_nx, seqK_rt, seqK_bk, seqK_ct, dropS_ap, dropK_ap, retS_ap, retK_ap, retN_ap, ifS_ap, ifK_ap, setS_ap, setK_ap, asgS_ap, asgK_ap, asgJ_ap, nameG_ap, nilG_ap, consG_ap, consGK_ap, fnF_ap, fnK_nx, fnK_rt, forS_ap, forK_ap, negD_ap, addI_ap, varK_ap, startE, yes2, isN, List.map_cons, List.map_nil, List.length_cons, List.length_nil, List.replicate, List.append_nil, List.cons_append, List.nil_append, List.getElem?_cons_zero, List.getElem?_cons_succ, List.set_cons_zero, List.set_cons_succ, R.bind_ok, R.bind_ex, R.bind_bad, R.noex_ok, if_true, if_false, Bool.false_eq_true, Bool.true_eq_false, ite_true, ite_false, reduceIte, Nat.reduceAdd, Nat.reduceSub, Nat.zero_add, Nat.sub_self, Nat.sub_zero, decide_true, decide_false, Bool.not_true, Bool.not_false, subD_ap, ltD_ap, leD_ap, gtD_ap, geD_ap, mulD_ap, modD_ap, divD_ap, powD_ap, tupK_ok, lstK_ok, methK_ok, tupG_ok, eqS_t, eqS_f, neS_t, neS_f, eqI_ap, neI_ap, inT_nil, inT_hit, inT_miss, ne_eq, not_false_eq_true, addI_ap, mm]
  refine ⟨l.map (·.1), T ++ .lst (l.map fun a => .int (a.1 : Nat)) :: j, e, ?_, ⟨_, rfl⟩, fun b hb => ?_, ?_⟩
  · rw [List.map_map]; exact get_at
  · obtain ⟨a, _, rfl⟩ := List.mem_map.mp hb
    exact a.2
  · rw [List.length_map, hl, intsD_len, hn]
/-- names of one length -/
def Nms (m : Nat) (ns : List Str) : Prop := ∀ s ∈ ns, ∃ l, s = S l ∧ Lt l ∧ l.length = m
theorem inner_ok {bs : List Nat} {rb : Nat} {c a k : Int} {T : Sto} {e6 z7 z8 : Option VL.D} (hb : ∀ b ∈ bs, b < 26) (hk0 : 0 ≤ k) (hk : k ≤ 1000) (h8 : bs.length ≤ 8) (g : T[rb]? = some (.lst (bs.map fun b => .int (b : Nat)))) :
    ∃ l z, forL [] (nameG 8) l1__law_names (intsD 0 1 bs.length) [some (.int c), some (.int 7), some (.str "abcdefghijklmnopqrstuvwxyz"), some (.ref rb), some (.int k), some (.int a), e6, some (.str ""), z8] T = .ok (.nx [some (.int c), some (.int 7), some (.str "abcdefghijklmnopqrstuvwxyz"), some (.ref rb), some (.int k), some (.int a), e6, some (.str (S l)), z]) T ∧ Lt l ∧ l.length = bs.length := by
  have e0 : Str.ofString "" = S [] := by decide +kernel
  obtain ⟨e', T', fl, l, z, he, hT, h1, h2⟩ := forL_inv (c := []) (gf := nameG 8) (b := l1__law_names) (ds := intsD 0 1 bs.length) (env := [some (.int c), some (.int 7), some (.str "abcdefghijklmnopqrstuvwxyz"), some (.ref rb), some (.int k), some (.int a), e6, some (.str ""), z8]) (st := T)
    (fun i env T' => ∃ (l : List Nat) (z : Option VL.D), env = [some (.int c), some (.int 7), some (.str "abcdefghijklmnopqrstuvwxyz"), some (.ref rb), some (.int k), some (.int a), e6, some (.str (S l)), z] ∧ T' = T ∧ Lt l ∧ l.length = i)
    ⟨[], z8, by rw [e0], rfl, (fun c h => nomatch h), rfl⟩ (fun _ _ _ _ => ChkOk.nil) fun i x env T' hx ⟨l, z, he, hT, h1, h2⟩ => by
      subst he hT
      obtain ⟨hi, rfl⟩ := intsD_get hx
      obtain ⟨b, hb'⟩ : ∃ b, bs[i]? = some b := ⟨_, List.getElem?_eq_getElem hi⟩
      have b26 := hb b (List.mem_of_getElem? hb')
      have ii : (0 + (i : Nat) * 1 : Int) = (i : Nat) := by omega
      rw [ii]
      have ix : ixD (.ref rb) (.int (i : Nat)) T' = .ok (.int (b : Nat)) T' := ixD_list (listAt_lst g) (by rw [List.getElem?_map, hb']; rfl)
      obtain ⟨t, ht⟩ : ∃ t : Bool, decide (((i : Nat) : Int) = a) = t := ⟨_, rfl⟩
      have eq : eqD (.int (i : Nat)) (.int a) T' = .ok (.bl t) T' := by rw [eqI_ap, ht]
      obtain ⟨u, hu⟩ : ∃ u : Int, u = if t = true then 1 else 0 := ⟨_, rfl⟩
      have u0 : 0 ≤ u ∧ u ≤ 1 := by rw [hu]; split <;> decide
      have i1 : int1D [.bl t] T' = .ok (.int u) T' := by rw [hu]; rfl
      have m1 : mulD (.int 3) (.int k) T' = .ok (.int (3 * k)) T' := mulL (by decide) _
      have m2 : mulD (.int (3 * k)) (.int u) T' = .ok (.int (3 * k * u)) T' := mulR (sm_small (by omega) (by omega))
      have v1 := Int.emod_nonneg (((b : Nat) : Int) + 3 * k * u) (show (26 : Int) ≠ 0 by decide)
      have v2 := Int.emod_lt_of_pos (((b : Nat) : Int) + 3 * k * u) (show (0 : Int) < 26 by decide)
      obtain ⟨m, hm⟩ : ∃ m : Nat, (((b : Nat) : Int) + 3 * k * u) % 26 = m := ⟨((((b : Nat) : Int) + 3 * k * u) % 26).toNat, by omega⟩
      have la := letter_at (i := m) (st := T') (by omega)
      have ad : addD (.str (S l)) (.str ⟨#[97 + m]⟩) T' = .ok (.str (S (l ++ [97 + m]))) T' := by
        simp only [addD]
        rw [if_pos (by rw [S_len, sizeLine_eq']; show l.length + 1 ≤ _; omega), ← S_app]; rfl
      refine ⟨[some (.int c), some (.int 7), some (.str "abcdefghijklmnopqrstuvwxyz"), some (.ref rb), some (.int k), some (.int a), e6, some (.str (S l)), some (.int (i : Nat))], T', [some (.int c), some (.int 7), some (.str "abcdefghijklmnopqrstuvwxyz"), some (.ref rb), some (.int k), some (.int a), e6, some (.str (S (l ++ [97 + m]))), some (.int (i : Nat))], T', rfl, ?_, l ++ [97 + m], some (.int (i : Nat)), rfl, rfl, fun c hc => ?_, by rw [List.length_append, h2]; rfl⟩
      · simp -implicitDefEqProofs +decide only [varF_ap, cF_ap, opF_ap, opK_ap, bF_ap, boolK_ap, andT_ap, andK_ap, orT_ap, orK_ap, notT_ap, notK_ap, yesT_ap, andV_ap, andVK_ap, orV_ap, orVK_ap, notV_ap, notVK_ap, ifF_ap, ifFK_ap, nilA_ap, consA_ap, consK_ap, consJ_ap, tupA_ap, lstA_ap, newO_ap, dicF_ap, callF_ap, un1_ap, methF_ap, nonO_ap, someO_ap, someK_ap, slF_ap, slK_ap, slJ_ap, itF_ap, itA_ap, nilS_ap, bkS_ap, ctS_ap, seqS_ap, seqK_nx, seqK_rt, seqK_bk, seqK_ct, dropS_ap, dropK_ap, retS_ap, retK_ap, retN_ap, ifS_ap, ifK_ap, setS_ap, setK_ap, asgS_ap, asgK_ap, asgJ_ap, nameG_ap, nilG_ap, consG_ap, consGK_ap, fnF_ap, fnK_nx, fnK_rt, forS_ap, forK_ap, negD_ap, addI_ap, varK_ap, startE, yes2, isN, List.map_cons, List.map_nil, List.length_cons, List.length_nil, List.replicate, List.append_nil, List.cons_append, List.nil_append, List.getElem?_cons_zero, List.getElem?_cons_succ, List.set_cons_zero, List.set_cons_succ, R.bind_ok, R.bind_ex, R.bind_bad, R.noex_ok, if_true, if_false, Bool.false_eq_true, Bool.true_eq_false, ite_true, ite_false, reduceIte, Nat.reduceAdd, Nat.reduceSub, Nat.zero_add, Nat.sub_self, Nat.sub_zero, decide_true, decide_false, Bool.not_true, Bool.not_false, subD_ap, ltD_ap, leD_ap, gtD_ap, geD_ap, mulD_ap, modD_ap, divD_ap, powD_ap, tupK_ok, lstK_ok, methK_ok, tupG_ok, eqS_t, eqS_f, neS_t, neS_f, eqI_ap, neI_ap, inT_nil, inT_hit, inT_miss, ne_eq, not_false_eq_true, l1__law_names, ix, eq, i1, ↓m1, m1, m2, addI_ap, hm, la, ad]
      · rcases List.mem_append.mp hc with hc | hc
        · exact h1 c hc
        · obtain rfl := List.mem_singleton.mp hc
          omega
  subst he hT
  rw [intsD_len] at h2
  exact ⟨l, z, fl, h1, h2⟩
theorem names_ok {c : Int} {T : Sto} : ∃ r ns T', f__law_names [.int c, .int 7] T = .ok (.ref r) T' ∧ T'[r]? = some (.lst (ns.map .str)) ∧ ns.length = 7 ∧ (∀ s ∈ (ns : List Str), isNm s = true ∧ s.length ≤ 8) ∧ Le T T' ∧ T.length ≤ r := by
  obtain ⟨bs, T1, q0, g1, L1, hb, hbl⟩ := base_ok (c := c) (T := T) (e1 := some (.int 7)) (e2 := some (.str "abcdefghijklmnopqrstuvwxyz")) (e3 := none) (e4 := none) (e5 := none) (e6 := none) (e7 := none) (e8 := none)
  have c1 := Int.emod_nonneg c (show (8 : Int) ≠ 0 by decide)
  have c2 := Int.emod_lt_of_pos c (show (0 : Int) < 8 by decide)
  have h8 : bs.length ≤ 8 := by omega
  have h1' : 1 ≤ bs.length := by omega
  have mm := mixed_ok (c := c) (k := 9) (T := T1) (by decide) (by decide)
  have ln : lenD [.ref T.length] T1 = .ok (.int (bs.length : Nat)) T1 := by rw [lenD_list (listAt_lst g1), List.length_map]
  obtain ⟨a, ha⟩ : ∃ a, a = mx c 9 % ((bs.length : Nat) : Int) := ⟨_, rfl⟩
  have md : modD (.int (mx c 9)) (.int (bs.length : Nat)) T1 = .ok (.int a) T1 := by rw [modD_ap (by omega), ha]
  obtain ⟨T2, hT2⟩ : ∃ U, U = T1 ++ [VL.O.lst []] := ⟨_, rfl⟩
  have L2 : Le T1 T2 := hT2 ▸ Le.app _ _
  have g2 : T2[T1.length]? = some (.lst []) := hT2 ▸ get_last
  have rg : rng1D [.int 7] T2 = .ok (intsD 0 1 7, []) T2 := rng1_ok (w := 7) (by decide)
  have tl : T.length < T1.length := (List.getElem?_eq_some_iff.mp g1).1
  obtain ⟨e', T3, fl, ns, z4, z7, z8, he, q3, g3, nl, hn⟩ := forL_inv (c := []) (gf := nameG 4) (b := l0__law_names) (ds := intsD 0 1 7) (env := [some (.int c), some (.int 7), some (.str "abcdefghijklmnopqrstuvwxyz"), some (.ref T.length), none, some (.int a), some (.ref T1.length), none, none]) (st := T2)
    (fun i env U => ∃ (ns : List Str) (z4 z7 z8 : Option VL.D), env = [some (.int c), some (.int 7), some (.str "abcdefghijklmnopqrstuvwxyz"), some (.ref T.length), z4, some (.int a), some (.ref T1.length), z7, z8] ∧ (∃ ys, U = T1 ++ [VL.O.lst ys]) ∧ U[T1.length]? = some (.lst (ns.map .str)) ∧ ns.length = i ∧ Nms bs.length ns)
    ⟨[], none, none, none, rfl, ⟨[], hT2⟩, g2, rfl, (fun s h => nomatch h)⟩ (fun _ _ _ _ => ChkOk.nil) fun i x env U hx ⟨ns, z4, z7, z8, he, ⟨ys, hU⟩, gU, nl, hn⟩ => by
      subst he
      obtain ⟨hi, rfl⟩ := intsD_get hx
      have gb : U[T.length]? = some (.lst (bs.map fun b => .int (b : Nat))) := by rw [hU]; exact get_app g1
      obtain ⟨l, z, fi, l1, l2⟩ := inner_ok (c := c) (a := a) (k := 0 + (i : Nat) * 1) (T := U) (e6 := some (.ref T1.length)) (z7 := none) (z8 := z8) hb (by omega) (by omega) h8 gb
      have ln2 : lenD [.ref T.length] U = .ok (.int (bs.length : Nat)) U := by rw [lenD_list (listAt_lst gb), List.length_map]
      have rg2 : rng1D [.int (bs.length : Nat)] U = .ok (intsD 0 1 bs.length, []) U := rng1_ok (by omega)
      have ty : tyD "list" (VL.D.ref T1.length) U := tyD_list (listAt_lst gU)
      have ap : appD (.ref T1.length) [.str (S l)] U = .ok .non (U.set T1.length (.lst (ns.map .str ++ [.str (S l)]))) := appD_ok gU (by rw [List.length_map, sizeLine_eq']; omega)
      refine ⟨[some (.int c), some (.int 7), some (.str "abcdefghijklmnopqrstuvwxyz"), some (.ref T.length), some (.int (0 + (i : Nat) * 1)), some (.int a), some (.ref T1.length), z7, z8], U, [some (.int c), some (.int 7), some (.str "abcdefghijklmnopqrstuvwxyz"), some (.ref T.length), some (.int (0 + (i : Nat) * 1)), some (.int a), some (.ref T1.length), some (.str (S l)), z], U.set T1.length (.lst (ns.map .str ++ [.str (S l)])), rfl, ?_, ns ++ [S l], some (.int (0 + (i : Nat) * 1)), some (.str (S l)), z, rfl, ⟨ns.map .str ++ [.str (S l)], ?_⟩, ?_, by rw [List.length_append, nl]; rfl, fun s hs => ?_⟩
      · simp -implicitDefEqProofs +decide only [varF_ap, cF_ap, opF_ap, opK_ap, bF_ap, boolK_ap, andT_ap, andK_ap, orT_ap, orK_ap, notT_ap, notK_ap, yesT_ap, andV_ap, andVK_ap, orV_ap, orVK_ap, notV_ap, notVK_ap, ifF_ap, ifFK_ap, nilA_ap, consA_ap, consK_ap, consJ_ap, tupA_ap, lstA_ap, newO_ap, dicF_ap, callF_ap, un1_ap, methF_ap, nonO_ap, someO_ap, someK_ap, slF_ap, slK_ap, slJ_ap, itF_ap, itA_ap, nilS_ap, bkS_ap, ctS_ap, seqS_ap, seqK_nx, seqK_rt, seqK_bk, seqK_ct, dropS_ap, dropK_ap, retS_ap, retK_ap, retN_ap, ifS_ap, ifK_ap, setS_ap, setK_ap, asgS_ap, asgK_ap, asgJ_ap, nameG_ap, nilG_ap, consG_ap, consGK_ap, fnF_ap, fnK_nx, fnK_rt, forS_ap, forK_ap, negD_ap, addI_ap, varK_ap, startE, yes2, isN, List.map_cons, List.map_nil, List.length_cons, List.length_nil, List.replicate, List.append_nil, List.cons_append, List.nil_append, List.getElem?_cons_zero, List.getElem?_cons_succ, List.set_cons_zero, List.set_cons_succ, R.bind_ok, R.bind_ex, R.bind_bad, R.noex_ok, if_true, if_false, Bool.false_eq_true, Bool.true_eq_false, ite_true, ite_false, reduceIte, Nat.reduceAdd, Nat.reduceSub, Nat.zero_add, Nat.sub_self, Nat.sub_zero, decide_true, decide_false, Bool.not_true, Bool.not_false, subD_ap, ltD_ap, leD_ap, gtD_ap, geD_ap, mulD_ap, modD_ap, divD_ap, powD_ap, tupK_ok, lstK_ok, methK_ok, tupG_ok, eqS_t, eqS_f, neS_t, neS_f, eqI_ap, neI_ap, inT_nil, inT_hit, inT_miss, ne_eq, not_false_eq_true, l0__law_names, ln2, rg2, fi, ty, ap]
      · rw [hU]; exact set_last
      · rw [List.map_append]; exact List.getElem?_set_self (List.getElem?_eq_some_iff.mp gU).1
      · rcases List.mem_append.mp hs with hs | hs
        · exact hn s hs
        · obtain rfl := List.mem_singleton.mp hs
          exact ⟨l, rfl, l1, l2⟩
  subst he
  rw [intsD_len] at nl
  obtain ⟨ys, hT3⟩ := q3
  have L3 : Le T1 T3 := hT3 ▸ Le.app _ _
  have gb3 := L3.get g1
  have ln3 : lenD [.ref T.length] T3 = .ok (.int (bs.length : Nat)) T3 := by rw [lenD_list (listAt_lst gb3), List.length_map]
  have all8 : ∀ s ∈ ns, isNm s = true ∧ s.length ≤ 8 := fun s hs => by
    obtain ⟨l, rfl, h1, h2⟩ := hn s hs
    exact isNm_of h1 (by omega) (by omega)
  have lt0 : ltD (.int (bs.length : Nat)) (.int 8) T3 = .ok (.bl (decide (((bs.length : Nat) : Int) < 8))) T3 := ltD_ap
  by_cases q1 : ((bs.length : Nat) : Int) < 8
  · have d1 := decide_eq_true q1
    by_cases q2 : c / 8 % 3 = 0
    · have d2 := decide_eq_true q2
      obtain ⟨s0, hs0⟩ : ∃ s, ns[0]? = some s := ⟨_, List.getElem?_eq_getElem (by omega)⟩
      obtain ⟨l0, rfl, h01, h02⟩ := hn s0 (List.mem_of_getElem? hs0)
      obtain ⟨b0, hb0⟩ : ∃ b, bs[0]? = some b := ⟨_, List.getElem?_eq_getElem (by omega)⟩
      have b26 := hb b0 (List.mem_of_getElem? hb0)
      have i0 : ixD (.ref T1.length) (.int 0) T3 = .ok (.str (S l0)) T3 := ixD_list (k := 0) (listAt_lst g3) (by rw [List.getElem?_map, hs0]; rfl)
      have i1 : ixD (.ref T.length) (.int 0) T3 = .ok (.int (b0 : Nat)) T3 := ixD_list (k := 0) (listAt_lst gb3) (by rw [List.getElem?_map, hb0]; rfl)
      have la := letter_at (i := b0) (st := T3) b26
      have ad : addD (.str (S l0)) (.str ⟨#[97 + b0]⟩) T3 = .ok (.str (S (l0 ++ [97 + b0]))) T3 := by
        simp only [addD]
        rw [if_pos (by rw [S_len, sizeLine_eq']; show l0.length + 1 ≤ _; omega), ← S_app]; rfl
      have nlD : (ns.map VL.D.str).length = 7 := by rw [List.length_map, nl]
      have ixn : ixN (ns.map VL.D.str).length 6 = some 6 := by rw [nlD]; decide
      obtain ⟨env, henv⟩ : ∃ env : EnvD, env = [some (.int c), some (.int 7), some (.str "abcdefghijklmnopqrstuvwxyz"), some (.ref T.length), z4, some (.int a), some (.ref T1.length), z7, z8] := ⟨_, rfl⟩
      have st : setIx (.ref T1.length) (.int 6) (.str (S (l0 ++ [97 + b0]))) T3 = .ok () (T3.set T1.length (.lst ((ns.map .str).set 6 (.str (S (l0 ++ [97 + b0])))))) := by
        simp only [setIx, g3, ixn]
      have sb : subG (varF 6) (opF subD (varF 1) (cF (.int 1))) setIx (.str (S (l0 ++ [97 + b0]))) env T3 = .ok env (T3.set T1.length (.lst ((ns.map .str).set 6 (.str (S (l0 ++ [97 + b0])))))) := by
        unfold subG
        rw [henv]
        have e6 : (7 : Int) - 1 = 6 := by decide
        simp -implicitDefEqProofs +decide only [varF_ap, cF_ap, opF_ap, opK_ap, bF_ap, boolK_ap, andT_ap, andK_ap, orT_ap, orK_ap, notT_ap, notK_ap, yesT_ap, andV_ap, andVK_ap, orV_ap, orVK_ap, notV_ap, notVK_ap, ifF_ap, ifFK_ap, nilA_ap, consA_ap, consK_ap, consJ_ap, tupA_ap, lstA_ap, newO_ap, dicF_ap, callF_ap, un1_ap, methF_ap, nonO_ap, someO_ap, someK_ap, slF_ap, slK_ap, slJ_ap, itF_ap, itA_ap, nilS_ap, bkS_ap, ctS_ap, seqS_ap, seqK_nx, seqK_rt, seqK_bk, seqK_ct, dropS_ap, dropK_ap, retS_ap, retK_ap, retN_ap, ifS_ap, ifK_ap, setS_ap, setK_ap, asgS_ap, asgK_ap, asgJ_ap, nameG_ap, nilG_ap, consG_ap, consGK_ap, fnF_ap, fnK_nx, fnK_rt, forS_ap, forK_ap, negD_ap, addI_ap, varK_ap, startE, yes2, isN, List.map_cons, List.map_nil, List.length_cons, List.length_nil, List.replicate, List.append_nil, List.cons_append, List.nil_append, List.getElem?_cons_zero, List.getElem?_cons_succ, List.set_cons_zero, List.set_cons_succ, R.bind_ok, R.bind_ex, R.bind_bad, R.noex_ok, if_true, if_false, Bool.false_eq_true, Bool.true_eq_false, ite_true, ite_false, reduceIte, Nat.reduceAdd, Nat.reduceSub, Nat.zero_add, Nat.sub_self, Nat.sub_zero, decide_true, decide_false, Bool.not_true, Bool.not_false, subD_ap, ltD_ap, leD_ap, gtD_ap, geD_ap, mulD_ap, modD_ap, divD_ap, powD_ap, tupK_ok, lstK_ok, methK_ok, tupG_ok, eqS_t, eqS_f, neS_t, neS_f, eqI_ap, neI_ap, inT_nil, inT_hit, inT_miss, ne_eq, not_false_eq_true, e6, st]
      rw [henv] at sb
      refine ⟨T1.length, ns.set 6 (S (l0 ++ [97 + b0])), T3.set T1.length (.lst ((ns.map .str).set 6 (.str (S (l0 ++ [97 + b0]))))), ?_, ?_, by rw [List.length_set, nl], fun s hs => ?_, ?_, by omega⟩
      · simp -implicitDefEqProofs +decide only [varF_ap, cF_ap, opF_ap, opK_ap, bF_ap, boolK_ap, andT_ap, andK_ap, orT_ap, orK_ap, notT_ap, notK_ap, yesT_ap, andV_ap, andVK_ap, orV_ap, orVK_ap, notV_ap, notVK_ap, ifF_ap, ifFK_ap, nilA_ap, consA_ap, consK_ap, consJ_ap, tupA_ap, lstA_ap, newO_ap, dicF_ap, callF_ap, un1_ap, methF_ap, nonO_ap, someO_ap, someK_ap, slF_ap, slK_ap, slJ_ap, itF_ap, itA_ap, nilS_ap, bkS_ap, ctS_ap, seqS_ap, seqK_nx, seqK_rt, seqK_bk, seqK_ct, dropS_ap, dropK_ap, retS_ap, retK_ap, retN_ap, ifS_ap, ifK_ap, setS_ap, setK_ap, asgS_ap, asgK_ap, asgJ_ap, nameG_ap, nilG_ap, consG_ap, consGK_ap, fnF_ap, fnK_nx, fnK_rt, forS_ap, forK_ap, negD_ap, addI_ap, varK_ap, startE, yes2, isN, List.map_cons, List.map_nil, List.length_cons, List.length_nil, List.replicate, List.append_nil, List.cons_append, List.nil_append, List.getElem?_cons_zero, List.getElem?_cons_succ, List.set_cons_zero, List.set_cons_succ, R.bind_ok, R.bind_ex, R.bind_bad, R.noex_ok, if_true, if_false, Bool.false_eq_true, Bool.true_eq_false, ite_true, ite_false, reduceIte, Nat.reduceAdd, Nat.reduceSub, Nat.zero_add, Nat.sub_self, Nat.sub_zero, decide_true, decide_false, Bool.not_true, Bool.not_false, subD_ap, ltD_ap, leD_ap, gtD_ap, geD_ap, mulD_ap, modD_ap, divD_ap, powD_ap, tupK_ok, lstK_ok, methK_ok, tupG_ok, eqS_t, eqS_f, neS_t, neS_f, eqI_ap, neI_ap, inT_nil, inT_hit, inT_miss, ne_eq, not_false_eq_true, f__law_names, b__law_names, ↓q0, mm, ln, md, sz (by decide : 0 ≤ 100), ← hT2, rg, fl, ln3, lt0, d1, d2, i0, i1, la, ad, sb]
      · rw [List.getElem?_set_self (List.getElem?_eq_some_iff.mp g3).1, List.map_set]
      · rcases List.mem_or_eq_of_mem_set hs with hs | rfl
        · exact all8 s hs
        · refine isNm_of (fun x hx => ?_) (by simp) (by rw [List.length_append]; show l0.length + 1 ≤ 8; omega)
          rcases List.mem_append.mp hx with hx | hx
          · exact h01 x hx
          · obtain rfl := List.mem_singleton.mp hx
            omega
      · rw [hT3]
        rw [set_last]
        exact L1.trans (Le.app _ _)
    · have d2 := decide_eq_false q2
      exact ⟨T1.length, ns, T3, by simp -implicitDefEqProofs +decide only [varF_ap, cF_ap, opF_ap, opK_ap, bF_ap, boolK_ap, andT_ap, andK_ap, orT_ap, orK_ap, notT_ap, notK_ap, yesT_ap, andV_ap, andVK_ap, orV_ap, orVK_ap, notV_ap, notVK_ap, ifF_ap, ifFK_ap, nilA_ap, consA_ap, consK_ap, consJ_ap, tupA_ap, lstA_ap, newO_ap, dicF_ap, callF_ap, un1_ap, methF_ap, nonO_ap, someO_ap, someK_ap, slF_ap, slK_ap, slJ_ap, itF_ap, itA_ap, nilS_ap, bkS_ap, ctS_ap, seqS_ap, seqK_nx, seqK_rt, seqK_bk, seqK_ct, dropS_ap, dropK_ap, retS_ap, retK_ap, retN_ap, ifS_ap, ifK_ap, setS_ap, setK_ap, asgS_ap, asgK_ap, asgJ_ap, nameG_ap, nilG_ap, consG_ap, consGK_ap, fnF_ap, fnK_nx, fnK_rt, forS_ap, forK_ap, negD_ap, addI_ap, varK_ap, startE, yes2, isN, List.map_cons, List.map_nil, List.length_cons, List.length_nil, List.replicate, List.append_nil, List.cons_append, List.nil_append, List.getElem?_cons_zero, List.getElem?_cons_succ, List.set_cons_zero, List.set_cons_succ, R.bind_ok, R.bind_ex, R.bind_bad, R.noex_ok, if_true, if_false, Bool.false_eq_true, Bool.true_eq_false, ite_true, ite_false, reduceIte, Nat.reduceAdd, Nat.reduceSub, Nat.zero_add, Nat.sub_self, Nat.sub_zero, decide_true, decide_false, Bool.not_true, Bool.not_false, subD_ap, ltD_ap, leD_ap, gtD_ap, geD_ap, mulD_ap, modD_ap, divD_ap, powD_ap, tupK_ok, lstK_ok, methK_ok, tupG_ok, eqS_t, eqS_f, neS_t, neS_f, eqI_ap, neI_ap, inT_nil, inT_hit, inT_miss, ne_eq, not_false_eq_true, f__law_names, b__law_names, ↓q0, mm, ln, md, sz (by decide : 0 ≤ 100), ← hT2, rg, fl, ln3, lt0, d1, d2], g3, nl, all8, L1.trans L3, by omega⟩
  · have d1 := decide_eq_false q1
    exact ⟨T1.length, ns, T3, by simp -implicitDefEqProofs +decide only [varF_ap, cF_ap, opF_ap, opK_ap, bF_ap, boolK_ap, andT_ap, andK_ap, orT_ap, orK_ap, notT_ap, notK_ap, yesT_ap, andV_ap, andVK_ap, orV_ap, orVK_ap, notV_ap, notVK_ap, ifF_ap, ifFK_ap, nilA_ap, consA_ap, consK_ap, consJ_ap, tupA_ap, lstA_ap, newO_ap, dicF_ap, callF_ap, un1_ap, methF_ap, nonO_ap, someO_ap, someK_ap, slF_ap, slK_ap, slJ_ap, itF_ap, itA_ap, nilS_ap, bkS_ap, ctS_ap, seqS_ap, seqK_nx, seqK_rt, seqK_bk, seqK_ct, dropS_ap, dropK_ap, retS_ap, retK_ap, retN_ap, ifS_ap, ifK_ap, setS_ap, setK_ap, asgS_ap, asgK_ap, asgJ_ap, nameG_ap, nilG_ap, consG_ap, consGK_ap, fnF_ap, fnK_nx, fnK_rt, forS_ap, forK_ap, negD_ap, addI_ap, varK_ap, startE, yes2, isN, List.map_cons, List.map_nil, List.length_cons, List.length_nil, List.replicate, List.append_nil, List.cons_append, List.nil_append, List.getElem?_cons_zero, List.getElem?_cons_succ, List.set_cons_zero, List.set_cons_succ, R.bind_ok, R.bind_ex, R.bind_bad, R.noex_ok, if_true, if_false, Bool.false_eq_true, Bool.true_eq_false, ite_true, ite_false, reduceIte, Nat.reduceAdd, Nat.reduceSub, Nat.zero_add, Nat.sub_self, Nat.sub_zero, decide_true, decide_false, Bool.not_true, Bool.not_false, subD_ap, ltD_ap, leD_ap, gtD_ap, geD_ap, mulD_ap, modD_ap, divD_ap, powD_ap, tupK_ok, lstK_ok, methK_ok, tupG_ok, eqS_t, eqS_f, neS_t, neS_f, eqI_ap, neI_ap, inT_nil, inT_hit, inT_miss, ne_eq, not_false_eq_true, f__law_names, b__law_names, ↓q0, mm, ln, md, sz (by decide : 0 ≤ 100), ← hT2, rg, fl, ln3, lt0, d1], g3, nl, all8, L1.trans L3, by omega⟩
end Law
namespace Law
open PySem L2 VL
theorem isi_no {d : VL.D} {a T : String} {U : Sto} {b : Bool} (h : tyOfD d U = some a) (hk : kitB a T = some b) : isiD [d, .ty T] U = .ok (.bl b) U := by
  simp only [isiD, h, Option.bind_some, hk]
theorem asks_no {d : VL.D} {a : String} {st : Sto} (h : ∀ U, Kp [] st U → tyOfD d U = some a) (hk : kitB a "str" = some false) : Asks d false st := fun U q => by
  have g := isi_no (h U q) hk
  exact ⟨U, by simp -implicitDefEqProofs +decide only [varF_ap, cF_ap, opF_ap, opK_ap, bF_ap, boolK_ap, andT_ap, andK_ap, orT_ap, orK_ap, notT_ap, notK_ap, yesT_ap, andV_ap, andVK_ap, orV_ap, orVK_ap, notV_ap, notVK_ap, ifF_ap, ifFK_ap, nilA_ap, consA_ap, consK_ap, consJ_ap, tupA_ap, lstA_ap, newO_ap, dicF_ap, callF_ap, un1_ap, methF_ap, nonO_ap, someO_ap, someK_ap, slF_ap, slK_ap, slJ_ap, itF_ap, itA_ap, nilS_ap, bkS_ap, ctS_ap, seqS_ap, seqK_nx, seqK_rt, seqK_bk, seqK_ct, dropS_ap, dropK_ap, retS_ap, retK_ap, retN_ap, ifS_ap, ifK_ap, setS_ap, setK_ap, asgS_ap, asgK_ap, asgJ_ap, nameG_ap, nilG_ap, consG_ap, consGK_ap, fnF_ap, fnK_nx, fnK_rt, forS_ap, forK_ap, negD_ap, addI_ap, varK_ap, startE, yes2, isN, List.map_cons, List.map_nil, List.length_cons, List.length_nil, List.replicate, List.append_nil, List.cons_append, List.nil_append, List.getElem?_cons_zero, List.getElem?_cons_succ, List.set_cons_zero, List.set_cons_succ, R.bind_ok, R.bind_ex, R.bind_bad, R.noex_ok, if_true, if_false, Bool.false_eq_true, Bool.true_eq_false, ite_true, ite_false, reduceIte, Nat.reduceAdd, Nat.reduceSub, Nat.zero_add, Nat.sub_self, Nat.sub_zero, decide_true, decide_false, Bool.not_true, Bool.not_false, subD_ap, ltD_ap, leD_ap, gtD_ap, geD_ap, mulD_ap, modD_ap, divD_ap, powD_ap, tupK_ok, lstK_ok, methK_ok, tupG_ok, eqS_t, eqS_f, neS_t, neS_f, eqI_ap, neI_ap, inT_nil, inT_hit, inT_miss, ne_eq, not_false_eq_true, f_is_name, b_is_name, g], Le.refl _⟩
theorem asks_bad {s : Str} {st : Sto} (h : isNm s = false) (hl : s.length ≤ 100) : Asks (.str s) false st := fun U q => by
  have := asks_str (s := s) (st := st) (by omega) U q
  rwa [h] at this
theorem nm_app {a : Str} {w : Str} {c : Nat} (hw : w = ⟨#[c]⟩) (hc : ltr c = false) (hl : a.length ≤ 8) : isNm (a ++ w) = false ∧ (a ++ w).length ≤ 100 := by
  have len : (a ++ w).length = a.length + 1 := by rw [Str.length_append, hw]; rfl
  refine ⟨?_, by omega⟩
  unfold isNm
  have : (a ++ w).cps.toList.all ltr = false := by
    rw [show (a ++ w).cps.toList = cs (a ++ w) from rfl, cs_app, List.all_append, hw]
    show (_ && (ltr c && true)) = false
    rw [hc, Bool.false_and, Bool.and_false]
  rw [this, Bool.and_false, Bool.and_false]
theorem no_name_ok {n : Str} {w : Int} {st : Sto} (hl : n.length ≤ 8) : ∃ d T, f__law_no_name [.int w, .str n] st = .ok d T ∧ Le st T ∧ Asks d false T := by
  obtain ⟨T1, hT1⟩ : ∃ U, U = st ++ [VL.O.lst [.str n]] := ⟨_, rfl⟩
  obtain ⟨T2, hT2⟩ : ∃ U, U = T1 ++ [VL.O.dic []] := ⟨_, rfl⟩
  obtain ⟨L, hL⟩ : ∃ L, L = [VL.D.non, .int 7, .bl true, .str "", .str "A", .str "abcdefghi", .str "a1", .str "a b", .ref st.length, .tup [.str n], .ref T1.length, .str (n ++ " "), .str (n ++ "A"), .str "#0"] := ⟨_, rfl⟩
  obtain ⟨T3, hT3⟩ : ∃ U, U = T2 ++ [VL.O.lst L] := ⟨_, rfl⟩
  have L1 : Le st T1 := hT1 ▸ Le.app _ _
  have L2 : Le T1 T2 := hT2 ▸ Le.app _ _
  have L3 : Le T2 T3 := hT3 ▸ Le.app _ _
  have w1 : Str.ofString " " = ⟨#[32]⟩ := by decide +kernel
  have w2 : Str.ofString "A" = ⟨#[65]⟩ := by decide +kernel
  have ad : ∀ (v : Str) (U : Sto), v.length = 1 → addD (.str n) (.str v) U = .ok (.str (n ++ v)) U := fun v U hv => by
    simp only [addD]
    rw [if_pos (by rw [hv, sizeLine_eq']; omega)]
  have a1 := fun U => ad " " U (by rw [w1]; rfl)
  have a2 := fun U => ad "A" U (by rw [w2]; rfl)
  have la : listAt T3 T2.length = some L := hT3 ▸ listAt_last
  have lk : lstK L T2 = .ok (.ref T2.length) T3 := by rw [lstK_ap, if_pos (by rw [hL, sizeLine_eq']; exact Nat.le_of_ble_eq_true rfl), newO_ap, hT3]
  have b1 := Int.emod_nonneg w (show (14 : Int) ≠ 0 by decide)
  have b2 := Int.emod_lt_of_pos w (show (0 : Int) < 14 by decide)
  obtain ⟨k, hk⟩ : ∃ k : Nat, w % 14 = k := ⟨(w % 14).toNat, by omega⟩
  have gl : T3[st.length]? = some (.lst [.str n]) := (L2.trans L3).get (hT1 ▸ get_last)
  have gd : T3[T1.length]? = some (.dic []) := L3.get (hT2 ▸ get_last)
  have main : ∃ d, L[k]? = some d ∧ Asks d false T3 := by
    rw [hL]
    have c14 : k = 0 ∨ k = 1 ∨ k = 2 ∨ k = 3 ∨ k = 4 ∨ k = 5 ∨ k = 6 ∨ k = 7 ∨ k = 8 ∨ k = 9 ∨ k = 10 ∨ k = 11 ∨ k = 12 ∨ k = 13 := by omega
    rcases c14 with rfl | rfl | rfl | rfl | rfl | rfl | rfl | rfl | rfl | rfl | rfl | rfl | rfl | rfl
    · exact ⟨_, rfl, asks_no (a := "NoneType") (fun _ _ => rfl) (by decide +kernel)⟩
    · exact ⟨_, rfl, asks_no (a := "int") (fun _ _ => rfl) (by decide +kernel)⟩
    · exact ⟨_, rfl, asks_no (a := "bool") (fun _ _ => rfl) (by decide +kernel)⟩
    · exact ⟨_, rfl, asks_bad (by decide +kernel) (by decide +kernel)⟩
    · exact ⟨_, rfl, asks_bad (by decide +kernel) (by decide +kernel)⟩
    · exact ⟨_, rfl, asks_bad (by decide +kernel) (by decide +kernel)⟩
    · exact ⟨_, rfl, asks_bad (by decide +kernel) (by decide +kernel)⟩
    · exact ⟨_, rfl, asks_bad (by decide +kernel) (by decide +kernel)⟩
    · exact ⟨_, rfl, asks_no (a := "list") (fun U q => by have := q _ _ (by simp) gl; simp only [tyOfD, this]) (by decide +kernel)⟩
    · exact ⟨_, rfl, asks_no (a := "tuple") (fun _ _ => rfl) (by decide +kernel)⟩
    · exact ⟨_, rfl, asks_no (a := "dict") (fun U q => by have := q _ _ (by simp) gd; simp only [tyOfD, this]) (by decide +kernel)⟩
    · obtain ⟨h1, h2⟩ := nm_app (a := n) w1 (by decide) hl
      exact ⟨_, rfl, asks_bad h1 h2⟩
    · obtain ⟨h1, h2⟩ := nm_app (a := n) w2 (by decide) hl
      exact ⟨_, rfl, asks_bad h1 h2⟩
    · exact ⟨_, rfl, asks_bad (by decide +kernel) (by decide +kernel)⟩
  obtain ⟨d, hd, ha⟩ := main
  have ix : ixD (.ref T2.length) (.int (w % 14)) T3 = .ok d T3 := by rw [hk]; exact ixD_list la hd
  exact ⟨d, T3, by simp -implicitDefEqProofs +decide only [varF_ap, cF_ap, opF_ap, opK_ap, bF_ap, boolK_ap, andT_ap, andK_ap, orT_ap, orK_ap, notT_ap, notK_ap, yesT_ap, andV_ap, andVK_ap, orV_ap, orVK_ap, notV_ap, notVK_ap, ifF_ap, ifFK_ap, nilA_ap, consA_ap, consK_ap, consJ_ap, tupA_ap, lstA_ap, newO_ap, dicF_ap, callF_ap, un1_ap, methF_ap, nonO_ap, someO_ap, someK_ap, slF_ap, slK_ap, slJ_ap, itF_ap, itA_ap, nilS_ap, bkS_ap, ctS_ap, seqS_ap, seqK_nx, seqK_rt, seqK_bk, seqK_ct, dropS_ap, dropK_ap, retS_ap, retK_ap, retN_ap, ifS_ap, ifK_ap, setS_ap, setK_ap, asgS_ap, asgK_ap, asgJ_ap, nameG_ap, nilG_ap, consG_ap, consGK_ap, fnF_ap, fnK_nx, fnK_rt, forS_ap, forK_ap, negD_ap, addI_ap, varK_ap, startE, yes2, isN, List.map_cons, List.map_nil, List.length_cons, List.length_nil, List.replicate, List.append_nil, List.cons_append, List.nil_append, List.getElem?_cons_zero, List.getElem?_cons_succ, List.set_cons_zero, List.set_cons_succ, R.bind_ok, R.bind_ex, R.bind_bad, R.noex_ok, if_true, if_false, Bool.false_eq_true, Bool.true_eq_false, ite_true, ite_false, reduceIte, Nat.reduceAdd, Nat.reduceSub, Nat.zero_add, Nat.sub_self, Nat.sub_zero, decide_true, decide_false, Bool.not_true, Bool.not_false, subD_ap, ltD_ap, leD_ap, gtD_ap, geD_ap, mulD_ap, modD_ap, divD_ap, powD_ap, tupK_ok, lstK_ok, methK_ok, tupG_ok, eqS_t, eqS_f, neS_t, neS_f, eqI_ap, neI_ap, inT_nil, inT_hit, inT_miss, ne_eq, not_false_eq_true, f__law_no_name, b__law_no_name, a1, a2, sz (by decide : 1 ≤ 100), ← hT1, ← hT2, ← hL, lk, ix], (L1.trans L2).trans L3, ha⟩
theorem whole_no {d : VL.D} {a : String} {b : Bool} {st : Sto} (h : ∀ U, Kp [] st U → tyOfD d U = some a) (hk : kitB a "int" = some b) (hb : kitB a "bool" = some b) : BadW d st := .inl fun U q => by
  have g1 := isi_no (h U q) hk
  have g2 := isi_no (h U q) hb
  cases b with
  | true => simp -implicitDefEqProofs +decide only [varF_ap, cF_ap, opF_ap, opK_ap, bF_ap, boolK_ap, andT_ap, andK_ap, orT_ap, orK_ap, notT_ap, notK_ap, yesT_ap, andV_ap, andVK_ap, orV_ap, orVK_ap, notV_ap, notVK_ap, ifF_ap, ifFK_ap, nilA_ap, consA_ap, consK_ap, consJ_ap, tupA_ap, lstA_ap, newO_ap, dicF_ap, callF_ap, un1_ap, methF_ap, nonO_ap, someO_ap, someK_ap, slF_ap, slK_ap, slJ_ap, itF_ap, itA_ap, nilS_ap, bkS_ap, ctS_ap, seqS_ap, seqK_nx, seqK_rt, seqK_bk, seqK_ct, dropS_ap, dropK_ap, retS_ap, retK_ap, retN_ap, ifS_ap, ifK_ap, setS_ap, setK_ap, asgS_ap, asgK_ap, asgJ_ap, nameG_ap, nilG_ap, consG_ap, consGK_ap, fnF_ap, fnK_nx, fnK_rt, forS_ap, forK_ap, negD_ap, addI_ap, varK_ap, startE, yes2, isN, List.map_cons, List.map_nil, List.length_cons, List.length_nil, List.replicate, List.append_nil, List.cons_append, List.nil_append, List.getElem?_cons_zero, List.getElem?_cons_succ, List.set_cons_zero, List.set_cons_succ, R.bind_ok, R.bind_ex, R.bind_bad, R.noex_ok, if_true, if_false, Bool.false_eq_true, Bool.true_eq_false, ite_true, ite_false, reduceIte, Nat.reduceAdd, Nat.reduceSub, Nat.zero_add, Nat.sub_self, Nat.sub_zero, decide_true, decide_false, Bool.not_true, Bool.not_false, subD_ap, ltD_ap, leD_ap, gtD_ap, geD_ap, mulD_ap, modD_ap, divD_ap, powD_ap, tupK_ok, lstK_ok, methK_ok, tupG_ok, eqS_t, eqS_f, neS_t, neS_f, eqI_ap, neI_ap, inT_nil, inT_hit, inT_miss, ne_eq, not_false_eq_true, f_is_whole, b_is_whole, g1, g2]
  | false => simp -implicitDefEqProofs +decide only [varF_ap, cF_ap, opF_ap, opK_ap, bF_ap, boolK_ap, andT_ap, andK_ap, orT_ap, orK_ap, notT_ap, notK_ap, yesT_ap, andV_ap, andVK_ap, orV_ap, orVK_ap, notV_ap, notVK_ap, ifF_ap, ifFK_ap, nilA_ap, consA_ap, consK_ap, consJ_ap, tupA_ap, lstA_ap, newO_ap, dicF_ap, callF_ap, un1_ap, methF_ap, nonO_ap, someO_ap, someK_ap, slF_ap, slK_ap, slJ_ap, itF_ap, itA_ap, nilS_ap, bkS_ap, ctS_ap, seqS_ap, seqK_nx, seqK_rt, seqK_bk, seqK_ct, dropS_ap, dropK_ap, retS_ap, retK_ap, retN_ap, ifS_ap, ifK_ap, setS_ap, setK_ap, asgS_ap, asgK_ap, asgJ_ap, nameG_ap, nilG_ap, consG_ap, consGK_ap, fnF_ap, fnK_nx, fnK_rt, forS_ap, forK_ap, negD_ap, addI_ap, varK_ap, startE, yes2, isN, List.map_cons, List.map_nil, List.length_cons, List.length_nil, List.replicate, List.append_nil, List.cons_append, List.nil_append, List.getElem?_cons_zero, List.getElem?_cons_succ, List.set_cons_zero, List.set_cons_succ, R.bind_ok, R.bind_ex, R.bind_bad, R.noex_ok, if_true, if_false, Bool.false_eq_true, Bool.true_eq_false, ite_true, ite_false, reduceIte, Nat.reduceAdd, Nat.reduceSub, Nat.zero_add, Nat.sub_self, Nat.sub_zero, decide_true, decide_false, Bool.not_true, Bool.not_false, subD_ap, ltD_ap, leD_ap, gtD_ap, geD_ap, mulD_ap, modD_ap, divD_ap, powD_ap, tupK_ok, lstK_ok, methK_ok, tupG_ok, eqS_t, eqS_f, neS_t, neS_f, eqI_ap, neI_ap, inT_nil, inT_hit, inT_miss, ne_eq, not_false_eq_true, f_is_whole, b_is_whole, g1]
theorem no_width_ok {c : Int} {st : Sto} : ∃ d T, f__law_no_width [.int c] st = .ok d T ∧ Le st T ∧ BadW d T := by
  have pw : ∀ U, powD (.int 10) (.int 30) U = .ok (.int (10 ^ 30)) U := fun U => powD_ap ⟨by decide, by decide, by decide +kernel⟩
  have p30 : (0 : Int) < 10 ^ 30 := by decide
  have md : ∀ U, modD (.int (c / 11)) (.int (10 ^ 30)) U = .ok (.int (c / 11 % 10 ^ 30)) U := fun U => modD_ap p30
  have m0 := Int.emod_nonneg (c / 11) (show ((10 : Int) ^ 30) ≠ 0 by decide)
  obtain ⟨m, hm⟩ : ∃ m, m = c / 11 % 10 ^ 30 := ⟨_, rfl⟩
  rw [← hm] at md m0
  have sb : ∀ U, subD (.int (-1)) (.int m) U = .ok (.int (-1 - m)) U := fun U => subD_ap
  have ng : ∀ U, negD (.int 1) U = .ok (.int (-1)) U := fun U => rfl
  obtain ⟨T1, hT1⟩ : ∃ U, U = st ++ [VL.O.lst [.int 3]] := ⟨_, rfl⟩
  obtain ⟨T2, hT2⟩ : ∃ U, U = T1 ++ [VL.O.dic []] := ⟨_, rfl⟩
  obtain ⟨L, hL⟩ : ∃ L, L = [VL.D.int 0, .int 13, .int (-1 - m), .int (14 + m), .bl true, .bl false, .non, .str "3", .tup [.int 3], .ref st.length, .ref T1.length] := ⟨_, rfl⟩
  obtain ⟨T3, hT3⟩ : ∃ U, U = T2 ++ [VL.O.lst L] := ⟨_, rfl⟩
  have L1 : Le st T1 := hT1 ▸ Le.app _ _
  have L2 : Le T1 T2 := hT2 ▸ Le.app _ _
  have L3 : Le T2 T3 := hT3 ▸ Le.app _ _
  have la : listAt T3 T2.length = some L := hT3 ▸ listAt_last
  have lk : lstK L T2 = .ok (.ref T2.length) T3 := by rw [lstK_ap, if_pos (by rw [hL, sizeLine_eq']; exact Nat.le_of_ble_eq_true rfl), newO_ap, hT3]
  have b1 := Int.emod_nonneg c (show (11 : Int) ≠ 0 by decide)
  have b2 := Int.emod_lt_of_pos c (show (0 : Int) < 11 by decide)
  obtain ⟨k, hk⟩ : ∃ k : Nat, c % 11 = k := ⟨(c % 11).toNat, by omega⟩
  have gl : T3[st.length]? = some (.lst [.int 3]) := (L2.trans L3).get (hT1 ▸ get_last)
  have gd : T3[T1.length]? = some (.dic []) := L3.get (hT2 ▸ get_last)
  have main : ∃ d, L[k]? = some d ∧ BadW d T3 := by
    rw [hL]
    have c11 : k = 0 ∨ k = 1 ∨ k = 2 ∨ k = 3 ∨ k = 4 ∨ k = 5 ∨ k = 6 ∨ k = 7 ∨ k = 8 ∨ k = 9 ∨ k = 10 := by omega
    rcases c11 with rfl | rfl | rfl | rfl | rfl | rfl | rfl | rfl | rfl | rfl | rfl
    · exact ⟨_, rfl, .inr ⟨0, rfl, by decide⟩⟩
    · exact ⟨_, rfl, .inr ⟨13, rfl, by decide⟩⟩
    · exact ⟨_, rfl, .inr ⟨_, rfl, by omega⟩⟩
    · exact ⟨_, rfl, .inr ⟨_, rfl, by omega⟩⟩
    · exact ⟨_, rfl, whole_no (a := "bool") (b := true) (fun _ _ => rfl) (by decide +kernel) (by decide +kernel)⟩
    · exact ⟨_, rfl, whole_no (a := "bool") (b := true) (fun _ _ => rfl) (by decide +kernel) (by decide +kernel)⟩
    · exact ⟨_, rfl, whole_no (a := "NoneType") (b := false) (fun _ _ => rfl) (by decide +kernel) (by decide +kernel)⟩
    · exact ⟨_, rfl, whole_no (a := "str") (b := false) (fun _ _ => rfl) (by decide +kernel) (by decide +kernel)⟩
    · exact ⟨_, rfl, whole_no (a := "tuple") (b := false) (fun _ _ => rfl) (by decide +kernel) (by decide +kernel)⟩
    · exact ⟨_, rfl, whole_no (a := "list") (b := false) (fun U q => by have := q _ _ (by simp) gl; simp only [tyOfD, this]) (by decide +kernel) (by decide +kernel)⟩
    · exact ⟨_, rfl, whole_no (a := "dict") (b := false) (fun U q => by have := q _ _ (by simp) gd; simp only [tyOfD, this]) (by decide +kernel) (by decide +kernel)⟩
  obtain ⟨d, hd, ha⟩ := main
  have ix : ixD (.ref T2.length) (.int (c % 11)) T3 = .ok d T3 := by rw [hk]; exact ixD_list la hd
  exact ⟨d, T3, by simp -implicitDefEqProofs +decide only [varF_ap, cF_ap, opF_ap, opK_ap, bF_ap, boolK_ap, andT_ap, andK_ap, orT_ap, orK_ap, notT_ap, notK_ap, yesT_ap, andV_ap, andVK_ap, orV_ap, orVK_ap, notV_ap, notVK_ap, ifF_ap, ifFK_ap, nilA_ap, consA_ap, consK_ap, consJ_ap, tupA_ap, lstA_ap, newO_ap, dicF_ap, callF_ap, un1_ap, methF_ap, nonO_ap, someO_ap, someK_ap, slF_ap, slK_ap, slJ_ap, itF_ap, itA_ap, nilS_ap, bkS_ap, ctS_ap, seqS_ap, seqK_nx, seqK_rt, seqK_bk, seqK_ct, dropS_ap, dropK_ap, retS_ap, retK_ap, retN_ap, ifS_ap, ifK_ap, setS_ap, setK_ap, asgS_ap, asgK_ap, asgJ_ap, nameG_ap, nilG_ap, consG_ap, consGK_ap, fnF_ap, fnK_nx, fnK_rt, forS_ap, forK_ap, negD_ap, addI_ap, varK_ap, startE, yes2, isN, List.map_cons, List.map_nil, List.length_cons, List.length_nil, List.replicate, List.append_nil, List.cons_append, List.nil_append, List.getElem?_cons_zero, List.getElem?_cons_succ, List.set_cons_zero, List.set_cons_succ, R.bind_ok, R.bind_ex, R.bind_bad, R.noex_ok, if_true, if_false, Bool.false_eq_true, Bool.true_eq_false, ite_true, ite_false, reduceIte, Nat.reduceAdd, Nat.reduceSub, Nat.zero_add, Nat.sub_self, Nat.sub_zero, decide_true, decide_false, Bool.not_true, Bool.not_false, subD_ap, ltD_ap, leD_ap, gtD_ap, geD_ap, mulD_ap, modD_ap, divD_ap, powD_ap, tupK_ok, lstK_ok, methK_ok, tupG_ok, eqS_t, eqS_f, neS_t, neS_f, eqI_ap, neI_ap, inT_nil, inT_hit, inT_miss, ne_eq, not_false_eq_true, f__law_no_width, b__law_no_width, ↓pw, ↓md, ng, sb, addI_ap, sz (by decide : 1 ≤ 100), ← hT1, ← hT2, ← hL, lk, ix], (L1.trans L2).trans L3, ha⟩
end Law
namespace Law
open PySem L2 VL
theorem kp_set_new {T U : Sto} {r : Nat} {o : VL.O} (q : Kp [] T U) (h : T.length ≤ r) : Kp [] T (U.set r o) := fun i u _ hu => by
  have il := (List.getElem?_eq_some_iff.mp hu).1
  rw [List.getElem?_set_ne (by omega)]
  exact q i u (by simp) hu
theorem kp_le_len {T U : Sto} (q : Kp [] T U) : T.length ≤ U.length := by
  rcases Nat.lt_or_ge U.length T.length with z | z
  · exfalso
    have := kp_len q z (by simp)
    omega
  · exact z
theorem res_ref {n : Nat} {st : Sto} (h : st[n]? = some (.lst [])) : resD 6 (.ref n) st = some (.list []) := by
  show (match listAt st n with | some xs => (resL (fun x => resD 5 x st) xs).map PyData.list | none => none) = _
  rw [listAt_lst h]; rfl
theorem eqX_ap {neg : Bool} {a b : VL.D} {x y : PyData} {st : Sto} (h1 : resD 6 a st = some x) (h2 : resD 6 b st = some y) (s1 : SeqAt.shaped x = true) (s2 : SeqAt.shaped y = true) : eqX neg a b st = .ok (.bl (if neg then !PyData.eqv x y else PyData.eqv x y)) st := by
  simp only [eqX, h1, h2, s1, s2, Bool.and_self, if_true]
theorem eqX_ll {neg : Bool} {m n : Nat} {st : Sto} (h1 : st[m]? = some (.lst [])) (h2 : st[n]? = some (.lst [])) : eqX neg (.ref m) (.ref n) st = .ok (.bl (!neg)) st := by
  rw [eqX_ap (res_ref h1) (res_ref h2) (by decide) (by decide)]
  cases neg <;> rfl
theorem eqX_ii {neg : Bool} {i : Int} {st : Sto} : eqX neg (.int i) (.int i) st = .ok (.bl (!neg)) st := by
  have e : PyData.eqv (.int i) (.int i) = true := by simp [PyData.eqv]
  rw [eqX_ap (x := .int i) (y := .int i) rfl rfl rfl rfl, e]
  cases neg <;> rfl
theorem eqX_rf {neg : Bool} {st : Sto} : eqX neg rfD rfD st = .ok (.bl (!neg)) st := by
  rw [eqX_ap (x := .tuple [.str "refused", .int 0]) (y := .tuple [.str "refused", .int 0]) rfl rfl (by decide +kernel) (by decide +kernel)]
  have e : PyData.eqv (.tuple [.str "refused", .int 0]) (.tuple [.str "refused", .int 0]) = true := by decide +kernel
  rw [e]
  cases neg <;> rfl
section
variable {es : List Ent} {st : Sto} {lw : Nat}
theorem look_no {d : VL.D} (h : KS es st) (r : Rf d st) : ∃ T, f__law_look [.ref 1, d, .ref lw, .bl false] st = .ok (.bl true) T ∧ Kp [] st T := by
  obtain ⟨T1, hT1⟩ : ∃ U, U = st ++ [VL.O.lst [rfD]] := ⟨_, rfl⟩
  obtain ⟨T2, hT2⟩ : ∃ U, U = T1 ++ [VL.O.lst [rfD, rfD, rfD, rfD, rfD, rfD]] := ⟨_, rfl⟩
  have L1 : Le st T1 := hT1 ▸ Le.app _ _
  have L2 : Le T1 T2 := hT2 ▸ Le.app _ _
  have rp : repD (.ref st.length) (.int 6) T1 = .ok (.ref T1.length) T2 := by
    have g : T1[st.length]? = some (.lst [rfD]) := hT1 ▸ get_last
    simp only [repD, g]
    rw [if_pos (by refine ⟨by decide, by decide, ?_⟩; rw [sizeLine_eq']; exact Nat.le_of_ble_eq_true rfl), hT2]; rfl
  have g2 : T2[T1.length]? = some (.lst [rfD, rfD, rfD, rfD, rfD, rfD]) := hT2 ▸ get_last
  have rg : rng1D [.int 6] T2 = .ok (intsD 0 1 6, []) T2 := rng1_ok (w := 6) (by decide)
  obtain ⟨e', T3, fl, z5, z6, he, q3⟩ := forL_inv (c := []) (gf := nameG 5) (b := l0__law_look) (ds := intsD 0 1 6) (env := [some (.ref 1), some d, some (.ref lw), some (.bl false), some (.ref T1.length), none, none]) (st := T2)
    (fun i env U => ∃ z5 z6, env = [some (.ref 1), some d, some (.ref lw), some (.bl false), some (.ref T1.length), z5, z6] ∧ Kp [] T2 U) ⟨none, none, rfl, Kp.refl _⟩ (fun _ _ _ _ => ChkOk.nil) fun i x env U hx ⟨z5, z6, he, q⟩ => by
      subst he
      obtain ⟨hi, rfl⟩ := intsD_get hx
      have ii : (0 + (i : Nat) * 1 : Int) = (i : Nat) := by omega
      rw [ii]
      have qU : Kp [] st U := (Kp.le (L1.trans L2)).trans q
      obtain ⟨V, e, qV⟩ := asked_rf (w := i) (h.kp0 qU) (fun W k => r W (qU.trans k)) hi
      have isb : isiD [rfD, .ty "bool"] V = .ok (.bl false) V := isi_no (a := "tuple") rfl (by decide +kernel)
      have gV : V[T1.length]? = some (.lst [rfD, rfD, rfD, rfD, rfD, rfD]) := qV _ _ (by simp) (q _ _ (by simp) g2)
      have ix : ixD (.ref T1.length) (.int (i : Nat)) V = .ok rfD V := by
        refine ixD_list (listAt_lst gV) ?_
        have c6 : i = 0 ∨ i = 1 ∨ i = 2 ∨ i = 3 ∨ i = 4 ∨ i = 5 := by omega
        rcases c6 with rfl | rfl | rfl | rfl | rfl | rfl <;> rfl
      have ne : eqX true rfD rfD V = .ok (.bl false) V := eqX_rf
      exact ⟨[some (.ref 1), some d, some (.ref lw), some (.bl false), some (.ref T1.length), some (.int (i : Nat)), z6], U, [some (.ref 1), some d, some (.ref lw), some (.bl false), some (.ref T1.length), some (.int (i : Nat)), some rfD], V, rfl, by simp -implicitDefEqProofs +decide only [varF_ap, cF_ap, opF_ap, opK_ap, bF_ap, boolK_ap, andT_ap, andK_ap, orT_ap, orK_ap, notT_ap, notK_ap, yesT_ap, andV_ap, andVK_ap, orV_ap, orVK_ap, notV_ap, notVK_ap, ifF_ap, ifFK_ap, nilA_ap, consA_ap, consK_ap, consJ_ap, tupA_ap, lstA_ap, newO_ap, dicF_ap, callF_ap, un1_ap, methF_ap, nonO_ap, someO_ap, someK_ap, slF_ap, slK_ap, slJ_ap, itF_ap, itA_ap, nilS_ap, bkS_ap, ctS_ap, seqS_ap, seqK_nx, seqK_rt, seqK_bk, seqK_ct, dropS_ap, dropK_ap, retS_ap, retK_ap, retN_ap, ifS_ap, ifK_ap, setS_ap, setK_ap, asgS_ap, asgK_ap, asgJ_ap, nameG_ap, nilG_ap, consG_ap, consGK_ap, fnF_ap, fnK_nx, fnK_rt, forS_ap, forK_ap, negD_ap, addI_ap, varK_ap, startE, yes2, isN, List.map_cons, List.map_nil, List.length_cons, List.length_nil, List.replicate, List.append_nil, List.cons_append, List.nil_append, List.getElem?_cons_zero, List.getElem?_cons_succ, List.set_cons_zero, List.set_cons_succ, R.bind_ok, R.bind_ex, R.bind_bad, R.noex_ok, if_true, if_false, Bool.false_eq_true, Bool.true_eq_false, ite_true, ite_false, reduceIte, Nat.reduceAdd, Nat.reduceSub, Nat.zero_add, Nat.sub_self, Nat.sub_zero, decide_true, decide_false, Bool.not_true, Bool.not_false, subD_ap, ltD_ap, leD_ap, gtD_ap, geD_ap, mulD_ap, modD_ap, divD_ap, powD_ap, tupK_ok, lstK_ok, methK_ok, tupG_ok, eqS_t, eqS_f, neS_t, neS_f, eqI_ap, neI_ap, inT_nil, inT_hit, inT_miss, ne_eq, not_false_eq_true, l0__law_look, e, isb, ix, ne], some (.int (i : Nat)), some rfD, rfl, q.trans qV⟩
  subst he
  have hT1' : T1 = st ++ [VL.O.lst [.tup [.str "refused", .int 0]]] := hT1
  exact ⟨T3, by simp -implicitDefEqProofs +decide only [varF_ap, cF_ap, opF_ap, opK_ap, bF_ap, boolK_ap, andT_ap, andK_ap, orT_ap, orK_ap, notT_ap, notK_ap, yesT_ap, andV_ap, andVK_ap, orV_ap, orVK_ap, notV_ap, notVK_ap, ifF_ap, ifFK_ap, nilA_ap, consA_ap, consK_ap, consJ_ap, tupA_ap, lstA_ap, newO_ap, dicF_ap, callF_ap, un1_ap, methF_ap, nonO_ap, someO_ap, someK_ap, slF_ap, slK_ap, slJ_ap, itF_ap, itA_ap, nilS_ap, bkS_ap, ctS_ap, seqS_ap, seqK_nx, seqK_rt, seqK_bk, seqK_ct, dropS_ap, dropK_ap, retS_ap, retK_ap, retN_ap, ifS_ap, ifK_ap, setS_ap, setK_ap, asgS_ap, asgK_ap, asgJ_ap, nameG_ap, nilG_ap, consG_ap, consGK_ap, fnF_ap, fnK_nx, fnK_rt, forS_ap, forK_ap, negD_ap, addI_ap, varK_ap, startE, yes2, isN, List.map_cons, List.map_nil, List.length_cons, List.length_nil, List.replicate, List.append_nil, List.cons_append, List.nil_append, List.getElem?_cons_zero, List.getElem?_cons_succ, List.set_cons_zero, List.set_cons_succ, R.bind_ok, R.bind_ex, R.bind_bad, R.noex_ok, if_true, if_false, Bool.false_eq_true, Bool.true_eq_false, ite_true, ite_false, reduceIte, Nat.reduceAdd, Nat.reduceSub, Nat.zero_add, Nat.sub_self, Nat.sub_zero, decide_true, decide_false, Bool.not_true, Bool.not_false, subD_ap, ltD_ap, leD_ap, gtD_ap, geD_ap, mulD_ap, modD_ap, divD_ap, powD_ap, tupK_ok, lstK_ok, methK_ok, tupG_ok, eqS_t, eqS_f, neS_t, neS_f, eqI_ap, neI_ap, inT_nil, inT_hit, inT_miss, ne_eq, not_false_eq_true, f__law_look, b__law_look, sz (by decide : 2 ≤ 100), sz (by decide : 1 ≤ 100), ← hT1', rp, rg, fl], (Kp.le (L1.trans L2)).trans q3⟩
theorem idx_es {n : Str} {j : Nat} {e : Ent} (h1 : es[j]? = some e) (h2 : e.n = n) (h3 : ∀ m z, m < j → es[m]? = some z → z.n ≠ n) : ((mpD (fun e => .int e.w) es).map (·.1)).findIdx? (fun x => eqF x (.str n)) = some j := by
  have hj := (List.getElem?_eq_some_iff.mp h1).1
  have len : ((mpD (fun e => .int e.w) es).map (·.1)).length = es.length := by rw [List.length_map, mpD_len]
  have at_ : ∀ (m : Nat) (hm : m < ((mpD (fun e => .int e.w) es).map (·.1)).length) (z : Ent), es[m]? = some z → ((mpD (fun e => .int e.w) es).map (·.1))[m] = .str z.n := fun m hm z hz => by
    have : ((mpD (fun e => VL.D.int e.w) es).map (·.1))[m]? = some (.str z.n) := by
      unfold mpD
      rw [List.map_map, List.getElem?_map, hz]; rfl
    rw [List.getElem?_eq_getElem hm] at this
    exact Option.some.inj this
  rw [List.findIdx?_eq_some_iff_getElem]
  refine ⟨by omega, ?_, fun m hm => ?_⟩
  · rw [at_ j (by omega) e h1, eqF_str, decide_eq_true h2]
  · obtain ⟨z, hz⟩ : ∃ z, es[m]? = some z := ⟨_, List.getElem?_eq_getElem (by omega)⟩
    rw [at_ m (by omega) z hz, eqF_str, decide_eq_false (h3 m z hm hz)]
    simp
theorem look_yes {n : Str} {j : Nat} {e : Ent} (h : KI es st) (hn : isNm n = true) (hl8 : n.length ≤ 8) (hz : es.length ≤ 1000) (h1 : es[j]? = some e) (h2 : e.n = n) (h3 : ∀ m z, m < j → es[m]? = some z → z.n ≠ n) (hg : ∀ f, dget (mpD f es) (.str n) = some (f e)) (hs : dget (spD 0 es) (.str n) = some (.int (j : Nat)))
    (gw : st[lw]? = some (.dic (mpD (fun e => .int e.w) es))) : ∃ T, f__law_look [.ref 1, .str n, .ref lw, .bl true] st = .ok (.bl true) T ∧ Kp [] st T := by
  have fd : ∀ {U : Sto}, Kp [] st U → Fd n j U := fun q => fd_ok (h.ks.kp0 q) hn (by omega) hs
  obtain ⟨T1, hT1⟩ : ∃ U, U = st ++ [VL.O.lst [rfD]] := ⟨_, rfl⟩
  obtain ⟨T2, hT2⟩ : ∃ U, U = T1 ++ [VL.O.lst [rfD, rfD, rfD, rfD, rfD, rfD]] := ⟨_, rfl⟩
  obtain ⟨T3, hT3⟩ : ∃ U, U = T2 ++ [VL.O.lst []] := ⟨_, rfl⟩
  obtain ⟨T4, hT4⟩ : ∃ U, U = T3 ++ [VL.O.lst []] := ⟨_, rfl⟩
  obtain ⟨T5, hT5⟩ : ∃ U, U = T4 ++ [VL.O.lst []] := ⟨_, rfl⟩
  obtain ⟨T6, hT6⟩ : ∃ U, U = T5 ++ [VL.O.lst ((mpD (fun e => .int e.w) es).map (·.1))] := ⟨_, rfl⟩
  obtain ⟨Q, hQ⟩ : ∃ Q, Q = [VL.D.ref T2.length, .ref T3.length, .ref T4.length, .int e.w, .int 1, .int (j : Nat)] := ⟨_, rfl⟩
  obtain ⟨T7, hT7⟩ : ∃ U, U = T6 ++ [VL.O.lst Q] := ⟨_, rfl⟩
  have L1 : Le st T1 := hT1 ▸ Le.app _ _
  have L2 : Le T1 T2 := hT2 ▸ Le.app _ _
  have L3 : Le T2 T3 := hT3 ▸ Le.app _ _
  have L4 : Le T3 T4 := hT4 ▸ Le.app _ _
  have L5 : Le T4 T5 := hT5 ▸ Le.app _ _
  have L6 : Le T5 T6 := hT6 ▸ Le.app _ _
  have L7 : Le T6 T7 := hT7 ▸ Le.app _ _
  have L57 := L6.trans L7
  have LL : Le st T7 := ((((L1.trans L2).trans L3).trans L4).trans L5).trans L57
  have rp : repD (.ref st.length) (.int 6) T1 = .ok (.ref T1.length) T2 := by
    have g : T1[st.length]? = some (.lst [rfD]) := hT1 ▸ get_last
    simp only [repD, g]
    rw [if_pos (by refine ⟨by decide, by decide, ?_⟩; rw [sizeLine_eq']; exact Nat.le_of_ble_eq_true rfl), hT2]; rfl
  have hT1' : T1 = st ++ [VL.O.lst [.tup [.str "refused", .int 0]]] := hT1
  have gw5 : T5[lw]? = some (.dic (mpD (fun e => .int e.w) es)) := ((((L1.trans L2).trans L3).trans L4).trans L5).get gw
  have dx := dix_ok gw5 mpD_keys (k := .str n) rfl (hg _)
  have lkd : listKD [.ref lw] T5 = .ok (.ref T5.length) T6 := by
    simp only [listKD, gw5, mpD_keys, if_true]
    rw [newO_ap, hT6]
  have l6 : listAt T6 T5.length = some ((mpD (fun e => .int e.w) es).map (·.1)) := hT6 ▸ listAt_last
  have ty6 : tyD "list" (VL.D.ref T5.length) T6 := tyD_list l6
  have fl6 : ((mpD (fun e => VL.D.int e.w) es).map (·.1)).all flatD = true := by
    rw [List.all_eq_true]
    intro x hx
    obtain ⟨p, hp, rfl⟩ := List.mem_map.mp hx
    obtain ⟨z, _, rfl⟩ := List.mem_map.mp hp
    rfl
  have ixx : idxD (.ref T5.length) [.str n] T6 = .ok (.int (j : Nat)) T6 := by
    simp only [idxD, l6]
    rw [if_pos ⟨rfl, fl6⟩, idx_es h1 h2 h3]
  have lq : lstK Q T6 = .ok (.ref T6.length) T7 := by rw [lstK_ap, if_pos (by rw [hQ, sizeLine_eq']; exact Nat.le_of_ble_eq_true rfl), newO_ap, hT7]
  have gQ : T7[T6.length]? = some (.lst Q) := hT7 ▸ get_last
  have ga : T7[T2.length]? = some (.lst []) := ((L4.trans L5).trans L57).get (hT3 ▸ get_last)
  have gb : T7[T3.length]? = some (.lst []) := (L5.trans L57).get (hT4 ▸ get_last)
  have gc : T7[T4.length]? = some (.lst []) := L57.get (hT5 ▸ get_last)
  have rg : rng1D [.int 6] T7 = .ok (intsD 0 1 6, []) T7 := rng1_ok (w := 6) (by decide)
  obtain ⟨e', T8, fl, z5, z6, he, q8⟩ := forL_inv (c := []) (gf := nameG 5) (b := l0__law_look) (ds := intsD 0 1 6) (env := [some (.ref 1), some (.str n), some (.ref lw), some (.bl true), some (.ref T6.length), none, none]) (st := T7)
    (fun i env U => ∃ z5 z6, env = [some (.ref 1), some (.str n), some (.ref lw), some (.bl true), some (.ref T6.length), z5, z6] ∧ Kp [] T7 U) ⟨none, none, rfl, Kp.refl _⟩ (fun _ _ _ _ => ChkOk.nil) fun i x env U hx ⟨z5, z6, he, q⟩ => by
      subst he
      obtain ⟨hi, rfl⟩ := intsD_get hx
      have ii : (0 + (i : Nat) * 1 : Int) = (i : Nat) := by omega
      rw [ii]
      have qU : Kp [] st U := (Kp.le LL).trans q
      obtain ⟨d, V, ea, du, qV⟩ := asked_fd (w := i) (h.ks.kp0 qU) (fd qU) h1 h2 hg hz hi
      have qv := q.trans qV
      have gV : V[T6.length]? = some (.lst Q) := qv _ _ (by simp) gQ
      have main : ∃ c, isiD [d, .ty "bool"] V = .ok (.bl false) V ∧ ixD (.ref T6.length) (.int (i : Nat)) V = .ok c V ∧ eqX true d c V = .ok (.bl false) V := by
        have c6 : i = 0 ∨ i = 1 ∨ i = 2 ∨ i = 3 ∨ i = 4 ∨ i = 5 := by omega
        rcases c6 with rfl | rfl | rfl | rfl | rfl | rfl
        · obtain ⟨r, rfl, gr⟩ := du
          exact ⟨.ref T2.length, isi_no (a := "list") (by simp only [tyOfD, gr]) (by decide +kernel), ixD_list (listAt_lst gV) (by rw [hQ]; rfl), eqX_ll gr (qv _ _ (by simp) ga)⟩
        · obtain ⟨r, rfl, gr⟩ := du
          exact ⟨.ref T3.length, isi_no (a := "list") (by simp only [tyOfD, gr]) (by decide +kernel), ixD_list (listAt_lst gV) (by rw [hQ]; rfl), eqX_ll gr (qv _ _ (by simp) gb)⟩
        · obtain ⟨r, rfl, gr⟩ := du
          exact ⟨.ref T4.length, isi_no (a := "list") (by simp only [tyOfD, gr]) (by decide +kernel), ixD_list (listAt_lst gV) (by rw [hQ]; rfl), eqX_ll gr (qv _ _ (by simp) gc)⟩
        · have du : d = .int e.w := du
          subst du
          exact ⟨.int e.w, isi_no (a := "int") rfl (by decide +kernel), ixD_list (listAt_lst gV) (by rw [hQ]; rfl), eqX_ii⟩
        · have du : d = .int 1 := du
          subst du
          exact ⟨.int 1, isi_no (a := "int") rfl (by decide +kernel), ixD_list (listAt_lst gV) (by rw [hQ]; rfl), eqX_ii⟩
        · have du : d = .int (j : Nat) := du
          subst du
          exact ⟨.int (j : Nat), isi_no (a := "int") rfl (by decide +kernel), ixD_list (listAt_lst gV) (by rw [hQ]; rfl), eqX_ii⟩
      obtain ⟨c, isb, ix, ne⟩ := main
      exact ⟨[some (.ref 1), some (.str n), some (.ref lw), some (.bl true), some (.ref T6.length), some (.int (i : Nat)), z6], U, [some (.ref 1), some (.str n), some (.ref lw), some (.bl true), some (.ref T6.length), some (.int (i : Nat)), some d], V, rfl, by simp -implicitDefEqProofs +decide only [varF_ap, cF_ap, opF_ap, opK_ap, bF_ap, boolK_ap, andT_ap, andK_ap, orT_ap, orK_ap, notT_ap, notK_ap, yesT_ap, andV_ap, andVK_ap, orV_ap, orVK_ap, notV_ap, notVK_ap, ifF_ap, ifFK_ap, nilA_ap, consA_ap, consK_ap, consJ_ap, tupA_ap, lstA_ap, newO_ap, dicF_ap, callF_ap, un1_ap, methF_ap, nonO_ap, someO_ap, someK_ap, slF_ap, slK_ap, slJ_ap, itF_ap, itA_ap, nilS_ap, bkS_ap, ctS_ap, seqS_ap, seqK_nx, seqK_rt, seqK_bk, seqK_ct, dropS_ap, dropK_ap, retS_ap, retK_ap, retN_ap, ifS_ap, ifK_ap, setS_ap, setK_ap, asgS_ap, asgK_ap, asgJ_ap, nameG_ap, nilG_ap, consG_ap, consGK_ap, fnF_ap, fnK_nx, fnK_rt, forS_ap, forK_ap, negD_ap, addI_ap, varK_ap, startE, yes2, isN, List.map_cons, List.map_nil, List.length_cons, List.length_nil, List.replicate, List.append_nil, List.cons_append, List.nil_append, List.getElem?_cons_zero, List.getElem?_cons_succ, List.set_cons_zero, List.set_cons_succ, R.bind_ok, R.bind_ex, R.bind_bad, R.noex_ok, if_true, if_false, Bool.false_eq_true, Bool.true_eq_false, ite_true, ite_false, reduceIte, Nat.reduceAdd, Nat.reduceSub, Nat.zero_add, Nat.sub_self, Nat.sub_zero, decide_true, decide_false, Bool.not_true, Bool.not_false, subD_ap, ltD_ap, leD_ap, gtD_ap, geD_ap, mulD_ap, modD_ap, divD_ap, powD_ap, tupK_ok, lstK_ok, methK_ok, tupG_ok, eqS_t, eqS_f, neS_t, neS_f, eqI_ap, neI_ap, inT_nil, inT_hit, inT_miss, ne_eq, not_false_eq_true, l0__law_look, ea, isb, ix, ne], some (.int (i : Nat)), some d, rfl, qv⟩
  subst he
  -- what is told is changed
  have k8 : Kp [] st T8 := (Kp.le LL).trans q8
  have h8 := h.kp k8
  obtain ⟨r1, T9, a1, gr1, q9, lr1⟩ := fd_ask h8.ks (fd k8) h1
  have ty9 : tyD "list" (VL.D.ref r1) T9 := tyD_list (listAt_lst gr1)
  obtain ⟨T10, hT10⟩ : ∃ U, U = T9.set r1 (.lst [.tup [.tup [.int 7], .int 1]]) := ⟨_, rfl⟩
  have ap1 : appD (.ref r1) [.tup [.tup [.int 7], .int 1]] T9 = .ok .non T10 := by rw [appD_ok gr1 (by rw [sizeLine_eq']; exact Nat.lt_of_lt_of_le (by decide : 0 < 1) (by decide)), hT10]; rfl
  have k10 : Kp [] st T10 := hT10 ▸ kp_set_new (k8.trans q9) (Nat.le_trans (kp_le_len k8) lr1)
  have h10 := h.kp k10
  obtain ⟨r2, ds, T11, a2, gr2, _, q11, lr2⟩ := kept_ok h10.ks h10.nd hz
  have ty11 : tyD "list" (VL.D.ref r2) T11 := tyD_list (listAt_lst gr2)
  obtain ⟨T12, hT12⟩ : ∃ U, U = T11.set r2 (.lst []) := ⟨_, rfl⟩
  have cl : clearD (.ref r2) [] T11 = .ok .non T12 := by simp only [clearD, gr2]; rw [hT12]
  have k12 : Kp [] st T12 := hT12 ▸ kp_set_new (k10.trans q11) (Nat.le_trans (kp_le_len k10) lr2)
  have h12 := h.kp k12
  have a3 := nodes_ok h12.ks
  obtain ⟨T13, hT13⟩ : ∃ U, U = T12 ++ [VL.O.lst (es.map fun e => tnd e.n e.w)] := ⟨_, rfl⟩
  rw [← hT13] at a3
  have g13 : T13[T12.length]? = some (.lst (es.map fun e => tnd e.n e.w)) := hT13 ▸ get_last
  have ty13 : tyD "list" (VL.D.ref T12.length) T13 := tyD_list (listAt_lst g13)
  obtain ⟨T14, hT14⟩ : ∃ U, U = T13.set T12.length (.lst (es.map (fun e => tnd e.n e.w) ++ [.str n])) := ⟨_, rfl⟩
  have ap3 : appD (.ref T12.length) [.str n] T13 = .ok .non T14 := by rw [appD_ok g13 (by rw [List.length_map, sizeLine_eq']; omega), hT14]
  have k14 : Kp [] st T14 := hT14 ▸ kp_set_new (k12.trans (Kp.le (hT13 ▸ Le.app _ _))) (kp_le_len k12)
  have h14 := h.kp k14
  obtain ⟨r4, T15, a4, gr4, q15, _⟩ := fd_ask h14.ks (fd k14) h1
  obtain ⟨T16, hT16⟩ : ∃ U, U = T15 ++ [VL.O.lst []] := ⟨_, rfl⟩
  have L16 : Le T15 T16 := hT16 ▸ Le.app _ _
  have x1 : eqX false (.ref r4) (.ref T15.length) T16 = .ok (.bl true) T16 := eqX_ll (L16.get gr4) (hT16 ▸ get_last)
  have k16 : Kp [] st T16 := (k14.trans q15).trans (Kp.le L16)
  obtain ⟨T17, a5, q17⟩ := fd k16 T16 (Kp.refl _)
  have k17 := k16.trans q17
  have h17 := h.kp k17
  have a6 := memory_ok h17.ks h1
  obtain ⟨T18, hT18⟩ : ∃ U, U = T17 ++ [VL.O.lst []] := ⟨_, rfl⟩
  rw [← hT18] at a6
  obtain ⟨T19, hT19⟩ : ∃ U, U = T18 ++ [VL.O.lst []] := ⟨_, rfl⟩
  have L19 : Le T18 T19 := hT19 ▸ Le.app _ _
  have x2 : eqX false (.ref T17.length) (.ref T18.length) T19 = .ok (.bl true) T19 := eqX_ll (L19.get (hT18 ▸ get_last)) (hT19 ▸ get_last)
  have m1 := fun fa e => (h8.ks.mK (m := "ask") (by decide) f_Keeper_ask fa e).2
  have m2 := fun fa e => (h10.ks.mK (m := "kept") (by decide) f_Keeper_kept fa e).1
  have m3 := fun fa e => (h12.ks.mK (m := "nodes") (by decide) f_Keeper_nodes fa e).1
  have m4 := fun fa e => (h14.ks.mK (m := "ask") (by decide) f_Keeper_ask fa e).2
  have h16 := h.kp k16
  have m5 := fun fa e => (h16.ks.mK (m := "node") (by decide) f_Keeper_node fa e).2
  have m6 := fun fa e => (h16.ks.mK (m := "memory") (by decide) f_Keeper_memory fa e).1
  refine ⟨T19, ?_, (k17.trans (Kp.le (hT18 ▸ Le.app _ _))).trans (Kp.le L19)⟩
  simp -implicitDefEqProofs +decide only [varF_ap, cF_ap, opF_ap, opK_ap, bF_ap, boolK_ap, andT_ap, andK_ap, orT_ap, orK_ap, notT_ap, notK_ap, yesT_ap, andV_ap, andVK_ap, orV_ap, orVK_ap, notV_ap, notVK_ap, ifF_ap, ifFK_ap, nilA_ap, consA_ap, consK_ap, consJ_ap, tupA_ap, lstA_ap, newO_ap, dicF_ap, callF_ap, un1_ap, methF_ap, nonO_ap, someO_ap, someK_ap, slF_ap, slK_ap, slJ_ap, itF_ap, itA_ap, nilS_ap, bkS_ap, ctS_ap, seqS_ap, seqK_nx, seqK_rt, seqK_bk, seqK_ct, dropS_ap, dropK_ap, retS_ap, retK_ap, retN_ap, ifS_ap, ifK_ap, setS_ap, setK_ap, asgS_ap, asgK_ap, asgJ_ap, nameG_ap, nilG_ap, consG_ap, consGK_ap, fnF_ap, fnK_nx, fnK_rt, forS_ap, forK_ap, negD_ap, addI_ap, varK_ap, startE, yes2, isN, List.map_cons, List.map_nil, List.length_cons, List.length_nil, List.replicate, List.append_nil, List.cons_append, List.nil_append, List.getElem?_cons_zero, List.getElem?_cons_succ, List.set_cons_zero, List.set_cons_succ, R.bind_ok, R.bind_ex, R.bind_bad, R.noex_ok, if_true, if_false, Bool.false_eq_true, Bool.true_eq_false, ite_true, ite_false, reduceIte, Nat.reduceAdd, Nat.reduceSub, Nat.zero_add, Nat.sub_self, Nat.sub_zero, decide_true, decide_false, Bool.not_true, Bool.not_false, subD_ap, ltD_ap, leD_ap, gtD_ap, geD_ap, mulD_ap, modD_ap, divD_ap, powD_ap, tupK_ok, lstK_ok, methK_ok, tupG_ok, eqS_t, eqS_f, neS_t, neS_f, eqI_ap, neI_ap, inT_nil, inT_hit, inT_miss, ne_eq, not_false_eq_true, f__law_look, b__law_look, sz (by decide : 2 ≤ 100), sz (by decide : 1 ≤ 100), sz (by decide : 0 ≤ 100), ← hT1', rp, ← hT3, ← hT4, ← hT5, dx, lkd, ty6, ixx, ← hQ, lq, rg, fl, m1, fnNC_ap, a1, ty9, ap1, m2, fnC_ap, a2, ty11, cl, m3, a3, ty13, ap3, m4, a4, ← hT16, x1, m5, a5, m6, a6, ← hT19, x2]
end
end Law
namespace Law
open PySem L2 VL
theorem makeF_ap {c : Str} {fn : Fn} {env : EnvD} {st s' : Sto} (h : fn [.ref st.length] (st ++ [.ins c []]) = .ok .non s') : makeF c fn nilA env st = .ok (.ref st.length) s' := by
  unfold makeF
  show ((fn [.ref st.length] (st ++ [.ins c []])).bind _) = _
  rw [h]; rfl
def k0S (o : VL.O) : Sto := [o, KO, MO, NET 4 5 6, .lst [], .lst [], .dic [], .lst [], .lst [], .dic [], .dic [], .dic [], .dic [], .dic [], .dic [], .lst []]
theorem machine_run {o a : VL.O} : f_Machine___init__ [.ref 2] [o, a, .ins "Machine" []] = .ok .non [o, a, MO, NET 4 5 6, .lst [], .lst [], .dic [], .lst [], .lst []] := by rfl
theorem machine_new {o a : VL.O} {env : EnvD} : makeF "Machine" f_Machine___init__ nilA env [o, a] = .ok (.ref 2) [o, a, MO, NET 4 5 6, .lst [], .lst [], .dic [], .lst [], .lst []] := makeF_ap (st := [o, a]) machine_run
def kL : List (Str × VL.D) := [("machine", .ref 2), ("spots", .ref 9), ("wides", .ref 10), ("sizes", .ref 11), ("texts", .ref 12), ("trees", .ref 13), ("news", .ref 14), ("pours", .ref 15)]
def kF (k : Nat) : VL.O := .ins "Keeper" (kL.take k)
theorem keeper_run {o : VL.O} : f_Keeper___init__ [.ref 1] [o, .ins "Keeper" []] = .ok .non (k0S o) := by
  obtain ⟨env, henv⟩ : ∃ env : EnvD, env = [some (.ref 1)] := ⟨_, rfl⟩
  have mn := machine_new (o := o) (a := .ins "Keeper" []) (env := env)
  have s1 : fsetS "Keeper" "machine" (varF 0) (makeF "Machine" f_Machine___init__ nilA) env [o, .ins "Keeper" []] = .ok (.nx env) [o, kF 1, MO, NET 4 5 6, .lst [], .lst [], .dic [], .lst [], .lst []] := by
    unfold fsetS
    rw [mn, R.bind_ok, henv]; rfl
  have s2 : fsetS "Keeper" "spots" (varF 0) dicF env [o, kF 1, MO, NET 4 5 6, .lst [], .lst [], .dic [], .lst [], .lst []] = .ok (.nx env) [o, kF 2, MO, NET 4 5 6, .lst [], .lst [], .dic [], .lst [], .lst [], .dic []] := by rw [henv]; rfl
  have s3 : fsetS "Keeper" "wides" (varF 0) dicF env [o, kF 2, MO, NET 4 5 6, .lst [], .lst [], .dic [], .lst [], .lst [], .dic []] = .ok (.nx env) [o, kF 3, MO, NET 4 5 6, .lst [], .lst [], .dic [], .lst [], .lst [], .dic [], .dic []] := by rw [henv]; rfl
  have s4 : fsetS "Keeper" "sizes" (varF 0) dicF env [o, kF 3, MO, NET 4 5 6, .lst [], .lst [], .dic [], .lst [], .lst [], .dic [], .dic []] = .ok (.nx env) [o, kF 4, MO, NET 4 5 6, .lst [], .lst [], .dic [], .lst [], .lst [], .dic [], .dic [], .dic []] := by rw [henv]; rfl
  have s5 : fsetS "Keeper" "texts" (varF 0) dicF env [o, kF 4, MO, NET 4 5 6, .lst [], .lst [], .dic [], .lst [], .lst [], .dic [], .dic [], .dic []] = .ok (.nx env) [o, kF 5, MO, NET 4 5 6, .lst [], .lst [], .dic [], .lst [], .lst [], .dic [], .dic [], .dic [], .dic []] := by rw [henv]; rfl
  have s6 : fsetS "Keeper" "trees" (varF 0) dicF env [o, kF 5, MO, NET 4 5 6, .lst [], .lst [], .dic [], .lst [], .lst [], .dic [], .dic [], .dic [], .dic []] = .ok (.nx env) [o, kF 6, MO, NET 4 5 6, .lst [], .lst [], .dic [], .lst [], .lst [], .dic [], .dic [], .dic [], .dic [], .dic []] := by rw [henv]; rfl
  have s7 : fsetS "Keeper" "news" (varF 0) dicF env [o, kF 6, MO, NET 4 5 6, .lst [], .lst [], .dic [], .lst [], .lst [], .dic [], .dic [], .dic [], .dic [], .dic []] = .ok (.nx env) [o, kF 7, MO, NET 4 5 6, .lst [], .lst [], .dic [], .lst [], .lst [], .dic [], .dic [], .dic [], .dic [], .dic [], .dic []] := by rw [henv]; rfl
  have s8 : fsetS "Keeper" "pours" (varF 0) (lstA nilA) env [o, kF 7, MO, NET 4 5 6, .lst [], .lst [], .dic [], .lst [], .lst [], .dic [], .dic [], .dic [], .dic [], .dic [], .dic []] = .ok (.nx env) (k0S o) := by rw [henv]; rfl
  have e : b_Keeper___init__ env [o, .ins "Keeper" []] = .ok (.nx env) (k0S o) := by
    simp -implicitDefEqProofs +decide only [varF_ap, cF_ap, opF_ap, opK_ap, bF_ap, boolK_ap, andT_ap, andK_ap, orT_ap, orK_ap, notT_ap, notK_ap, yesT_ap, andV_ap, andVK_ap, orV_ap, orVK_ap, notV_ap, notVK_ap, ifF_ap, ifFK_ap, nilA_ap, consA_ap, consK_ap, consJ_ap, tupA_ap, lstA_ap, newO_ap, dicF_ap, callF_ap, un1_ap, methF_ap, nonO_ap, someO_ap, someK_ap, slF_ap, slK_ap, slJ_ap, itF_ap, itA_ap, nilS_ap, bkS_ap, ctS_ap, seqS_ap, seqK_nx, seqK_rt, seqK_bk, seqK_ct, dropS_ap, dropK_ap, retS_ap, retK_ap, retN_ap, ifS_ap, ifK_ap, setS_ap, setK_ap, asgS_ap, asgK_ap, asgJ_ap, nameG_ap, nilG_ap, consG_ap, consGK_ap, fnF_ap, fnK_nx, fnK_rt, forS_ap, forK_ap, negD_ap, addI_ap, varK_ap, startE, yes2, isN, List.map_cons, List.map_nil, List.length_cons, List.length_nil, List.replicate, List.append_nil, List.cons_append, List.nil_append, List.getElem?_cons_zero, List.getElem?_cons_succ, List.set_cons_zero, List.set_cons_succ, R.bind_ok, R.bind_ex, R.bind_bad, R.noex_ok, if_true, if_false, Bool.false_eq_true, Bool.true_eq_false, ite_true, ite_false, reduceIte, Nat.reduceAdd, Nat.reduceSub, Nat.zero_add, Nat.sub_self, Nat.sub_zero, decide_true, decide_false, Bool.not_true, Bool.not_false, subD_ap, ltD_ap, leD_ap, gtD_ap, geD_ap, mulD_ap, modD_ap, divD_ap, powD_ap, tupK_ok, lstK_ok, methK_ok, tupG_ok, eqS_t, eqS_f, neS_t, neS_f, eqI_ap, neI_ap, inT_nil, inT_hit, inT_miss, ne_eq, not_false_eq_true, b_Keeper___init__, ↓s1, ↓s2, ↓s3, ↓s4, ↓s5, ↓s6, ↓s7, ↓s8]
  rw [henv] at e
  simp -implicitDefEqProofs +decide only [varF_ap, cF_ap, opF_ap, opK_ap, bF_ap, boolK_ap, andT_ap, andK_ap, orT_ap, orK_ap, notT_ap, notK_ap, yesT_ap, andV_ap, andVK_ap, orV_ap, orVK_ap, notV_ap, notVK_ap, ifF_ap, ifFK_ap, nilA_ap, consA_ap, consK_ap, consJ_ap, tupA_ap, lstA_ap, newO_ap, dicF_ap, callF_ap, un1_ap, methF_ap, nonO_ap, someO_ap, someK_ap, slF_ap, slK_ap, slJ_ap, itF_ap, itA_ap, nilS_ap, bkS_ap, ctS_ap, seqS_ap, seqK_nx, seqK_rt, seqK_bk, seqK_ct, dropS_ap, dropK_ap, retS_ap, retK_ap, retN_ap, ifS_ap, ifK_ap, setS_ap, setK_ap, asgS_ap, asgK_ap, asgJ_ap, nameG_ap, nilG_ap, consG_ap, consGK_ap, fnF_ap, fnK_nx, fnK_rt, forS_ap, forK_ap, negD_ap, addI_ap, varK_ap, startE, yes2, isN, List.map_cons, List.map_nil, List.length_cons, List.length_nil, List.replicate, List.append_nil, List.cons_append, List.nil_append, List.getElem?_cons_zero, List.getElem?_cons_succ, List.set_cons_zero, List.set_cons_succ, R.bind_ok, R.bind_ex, R.bind_bad, R.noex_ok, if_true, if_false, Bool.false_eq_true, Bool.true_eq_false, ite_true, ite_false, reduceIte, Nat.reduceAdd, Nat.reduceSub, Nat.zero_add, Nat.sub_self, Nat.sub_zero, decide_true, decide_false, Bool.not_true, Bool.not_false, subD_ap, ltD_ap, leD_ap, gtD_ap, geD_ap, mulD_ap, modD_ap, divD_ap, powD_ap, tupK_ok, lstK_ok, methK_ok, tupG_ok, eqS_t, eqS_f, neS_t, neS_f, eqI_ap, neI_ap, inT_nil, inT_hit, inT_miss, ne_eq, not_false_eq_true, f_Keeper___init__, e]
theorem keeper_new {o : VL.O} {env : EnvD} : makeF "Keeper" f_Keeper___init__ nilA env [o] = .ok (.ref 1) (k0S o) := makeF_ap (st := [o]) keeper_run
theorem ki_new {o : VL.O} : KI [] (k0S o) where
  ks := ⟨rfl, rfl, rfl, ⟨rfl, rfl, rfl⟩, rfl, rfl, rfl, rfl, rfl, rfl, rfl, rfl, rfl, fun e he => nomatch he⟩
  ok := ⟨rfl, fun e he => nomatch he⟩
  nd := List.nodup_nil
  nm := fun e he => nomatch he
end Law
namespace Law
open PySem L2 VL
section
variable {es : List Ent} {lw ro : Nat} {T : Sto}
def WD (es : List Ent) : List (VL.D × VL.D) := mpD (fun e => .int e.w) es
theorem turn_made {d v : VL.D} {o1 o2 : Bool} (h : KI es T) (gl : T[lw]? = some (.dic (WD es))) (go : T[ro]? = some (.lst [.bl o1, .bl o2])) (hz : es.length ≤ 100)
    (hd : o1 = true ∧ Asks d false T ∨ o1 = false ∧ ∃ n, d = .str n ∧ isNm n = true ∧ n.length ≤ 8) (hv : o2 = true ∧ BadW v T ∨ o2 = false ∧ ∃ i, v = .int i ∧ 1 ≤ i ∧ i ≤ 12) :
    ∃ (k : Int) (T' : Sto), f__law_due [d, v, .ref lw, .ref ro] T = .ok (.int k) T ∧ f__law_made [.ref 1, d, v] T = .ok (.int k) T' ∧
      ((k ≠ -1 ∧ Kp [] T T') ∨ (k = -1 ∧ ∃ n i b s, d = .str n ∧ v = .int i ∧ dget (WD es) (.str n) = none ∧ KI (es ++ [⟨n, i, b, s⟩]) T' ∧ Kp [4, 5, 6, 7, 8, 9, 10, 11, 14] T T' ∧ T.length ≤ b ∧ T.length ≤ s)) := by
  have i0 : ixD (.ref ro) (.int 0) T = .ok (.bl o1) T := ixD_list (k := 0) (listAt_lst go) rfl
  have i1 : ixD (.ref ro) (.int 1) T = .ok (.bl o2) T := ixD_list (k := 1) (listAt_lst go) rfl
  have ng : negD (.int 1) T = .ok (.int (-1)) T := rfl
  obtain ⟨w0, w1, w2⟩ := which_ok
  obtain ⟨n0, n1, n2⟩ := ok_nn
  rcases hd with ⟨rfl, ha⟩ | ⟨rfl, n, rfl, hn, hl⟩
  · obtain ⟨S', e, l⟩ := not_no (es := es) ha
    obtain ⟨Sw, ew⟩ := w0
    exact ⟨0, S', by simp -implicitDefEqProofs +decide only [varF_ap, cF_ap, opF_ap, opK_ap, bF_ap, boolK_ap, andT_ap, andK_ap, orT_ap, orK_ap, notT_ap, notK_ap, yesT_ap, andV_ap, andVK_ap, orV_ap, orVK_ap, notV_ap, notVK_ap, ifF_ap, ifFK_ap, nilA_ap, consA_ap, consK_ap, consJ_ap, tupA_ap, lstA_ap, newO_ap, dicF_ap, callF_ap, un1_ap, methF_ap, nonO_ap, someO_ap, someK_ap, slF_ap, slK_ap, slJ_ap, itF_ap, itA_ap, nilS_ap, bkS_ap, ctS_ap, seqS_ap, seqK_nx, seqK_rt, seqK_bk, seqK_ct, dropS_ap, dropK_ap, retS_ap, retK_ap, retN_ap, ifS_ap, ifK_ap, setS_ap, setK_ap, asgS_ap, asgK_ap, asgJ_ap, nameG_ap, nilG_ap, consG_ap, consGK_ap, fnF_ap, fnK_nx, fnK_rt, forS_ap, forK_ap, negD_ap, addI_ap, varK_ap, startE, yes2, isN, List.map_cons, List.map_nil, List.length_cons, List.length_nil, List.replicate, List.append_nil, List.cons_append, List.nil_append, List.getElem?_cons_zero, List.getElem?_cons_succ, List.set_cons_zero, List.set_cons_succ, R.bind_ok, R.bind_ex, R.bind_bad, R.noex_ok, if_true, if_false, Bool.false_eq_true, Bool.true_eq_false, ite_true, ite_false, reduceIte, Nat.reduceAdd, Nat.reduceSub, Nat.zero_add, Nat.sub_self, Nat.sub_zero, decide_true, decide_false, Bool.not_true, Bool.not_false, subD_ap, ltD_ap, leD_ap, gtD_ap, geD_ap, mulD_ap, modD_ap, divD_ap, powD_ap, tupK_ok, lstK_ok, methK_ok, tupG_ok, eqS_t, eqS_f, neS_t, neS_f, eqI_ap, neI_ap, inT_nil, inT_hit, inT_miss, ne_eq, not_false_eq_true, f__law_due, b__law_due, i0], made_ex h.ks (table_ex h.ks e) n0 ew, .inl ⟨by decide, Kp.le l⟩⟩
  · rcases look_es n es 0 with ⟨hne, hg, hs⟩ | ⟨j, e, h1, h2, h3, hg, hs⟩
    · have dn := (din_no gl mpD_keys (k := .str n) rfl (hg _)).1
      obtain ⟨S', e, l⟩ := not_new h.ks hn hl hs
      rcases hv with ⟨rfl, hb⟩ | ⟨rfl, i, rfl, hi1, hi2⟩
      · obtain ⟨Sw, ew⟩ := w2
        exact ⟨2, S', by simp -implicitDefEqProofs +decide only [varF_ap, cF_ap, opF_ap, opK_ap, bF_ap, boolK_ap, andT_ap, andK_ap, orT_ap, orK_ap, notT_ap, notK_ap, yesT_ap, andV_ap, andVK_ap, orV_ap, orVK_ap, notV_ap, notVK_ap, ifF_ap, ifFK_ap, nilA_ap, consA_ap, consK_ap, consJ_ap, tupA_ap, lstA_ap, newO_ap, dicF_ap, callF_ap, un1_ap, methF_ap, nonO_ap, someO_ap, someK_ap, slF_ap, slK_ap, slJ_ap, itF_ap, itA_ap, nilS_ap, bkS_ap, ctS_ap, seqS_ap, seqK_nx, seqK_rt, seqK_bk, seqK_ct, dropS_ap, dropK_ap, retS_ap, retK_ap, retN_ap, ifS_ap, ifK_ap, setS_ap, setK_ap, asgS_ap, asgK_ap, asgJ_ap, nameG_ap, nilG_ap, consG_ap, consGK_ap, fnF_ap, fnK_nx, fnK_rt, forS_ap, forK_ap, negD_ap, addI_ap, varK_ap, startE, yes2, isN, List.map_cons, List.map_nil, List.length_cons, List.length_nil, List.replicate, List.append_nil, List.cons_append, List.nil_append, List.getElem?_cons_zero, List.getElem?_cons_succ, List.set_cons_zero, List.set_cons_succ, R.bind_ok, R.bind_ex, R.bind_bad, R.noex_ok, if_true, if_false, Bool.false_eq_true, Bool.true_eq_false, ite_true, ite_false, reduceIte, Nat.reduceAdd, Nat.reduceSub, Nat.zero_add, Nat.sub_self, Nat.sub_zero, decide_true, decide_false, Bool.not_true, Bool.not_false, subD_ap, ltD_ap, leD_ap, gtD_ap, geD_ap, mulD_ap, modD_ap, divD_ap, powD_ap, tupK_ok, lstK_ok, methK_ok, tupG_ok, eqS_t, eqS_f, neS_t, neS_f, eqI_ap, neI_ap, inT_nil, inT_hit, inT_miss, ne_eq, not_false_eq_true, f__law_due, b__law_due, i0, i1, dn], made_ex h.ks (table_width h.ks e l hb) n2 ew, .inl ⟨by decide, Kp.le l⟩⟩
      · obtain ⟨b, s, S3, e3, k3, q3, lb, ls⟩ := table_new h hn hl hne hi1 hi2 (by omega)
        exact ⟨-1, S3, by simp -implicitDefEqProofs +decide only [varF_ap, cF_ap, opF_ap, opK_ap, bF_ap, boolK_ap, andT_ap, andK_ap, orT_ap, orK_ap, notT_ap, notK_ap, yesT_ap, andV_ap, andVK_ap, orV_ap, orVK_ap, notV_ap, notVK_ap, ifF_ap, ifFK_ap, nilA_ap, consA_ap, consK_ap, consJ_ap, tupA_ap, lstA_ap, newO_ap, dicF_ap, callF_ap, un1_ap, methF_ap, nonO_ap, someO_ap, someK_ap, slF_ap, slK_ap, slJ_ap, itF_ap, itA_ap, nilS_ap, bkS_ap, ctS_ap, seqS_ap, seqK_nx, seqK_rt, seqK_bk, seqK_ct, dropS_ap, dropK_ap, retS_ap, retK_ap, retN_ap, ifS_ap, ifK_ap, setS_ap, setK_ap, asgS_ap, asgK_ap, asgJ_ap, nameG_ap, nilG_ap, consG_ap, consGK_ap, fnF_ap, fnK_nx, fnK_rt, forS_ap, forK_ap, negD_ap, addI_ap, varK_ap, startE, yes2, isN, List.map_cons, List.map_nil, List.length_cons, List.length_nil, List.replicate, List.append_nil, List.cons_append, List.nil_append, List.getElem?_cons_zero, List.getElem?_cons_succ, List.set_cons_zero, List.set_cons_succ, R.bind_ok, R.bind_ex, R.bind_bad, R.noex_ok, if_true, if_false, Bool.false_eq_true, Bool.true_eq_false, ite_true, ite_false, reduceIte, Nat.reduceAdd, Nat.reduceSub, Nat.zero_add, Nat.sub_self, Nat.sub_zero, decide_true, decide_false, Bool.not_true, Bool.not_false, subD_ap, ltD_ap, leD_ap, gtD_ap, geD_ap, mulD_ap, modD_ap, divD_ap, powD_ap, tupK_ok, lstK_ok, methK_ok, tupG_ok, eqS_t, eqS_f, neS_t, neS_f, eqI_ap, neI_ap, inT_nil, inT_hit, inT_miss, ne_eq, not_false_eq_true, f__law_due, b__law_due, i0, i1, dn, ng], made_ok h.ks e3, .inr ⟨rfl, n, i, b, s, rfl, rfl, hg _, k3, q3, lb, ls⟩⟩
    · have dn := (din_yes gl mpD_keys (k := .str n) rfl (hg _)).1
      obtain ⟨S', e2, l⟩ := not_twice h.ks hn hl hs
      obtain ⟨Sw, ew⟩ := w1
      exact ⟨1, S', by simp -implicitDefEqProofs +decide only [varF_ap, cF_ap, opF_ap, opK_ap, bF_ap, boolK_ap, andT_ap, andK_ap, orT_ap, orK_ap, notT_ap, notK_ap, yesT_ap, andV_ap, andVK_ap, orV_ap, orVK_ap, notV_ap, notVK_ap, ifF_ap, ifFK_ap, nilA_ap, consA_ap, consK_ap, consJ_ap, tupA_ap, lstA_ap, newO_ap, dicF_ap, callF_ap, un1_ap, methF_ap, nonO_ap, someO_ap, someK_ap, slF_ap, slK_ap, slJ_ap, itF_ap, itA_ap, nilS_ap, bkS_ap, ctS_ap, seqS_ap, seqK_nx, seqK_rt, seqK_bk, seqK_ct, dropS_ap, dropK_ap, retS_ap, retK_ap, retN_ap, ifS_ap, ifK_ap, setS_ap, setK_ap, asgS_ap, asgK_ap, asgJ_ap, nameG_ap, nilG_ap, consG_ap, consGK_ap, fnF_ap, fnK_nx, fnK_rt, forS_ap, forK_ap, negD_ap, addI_ap, varK_ap, startE, yes2, isN, List.map_cons, List.map_nil, List.length_cons, List.length_nil, List.replicate, List.append_nil, List.cons_append, List.nil_append, List.getElem?_cons_zero, List.getElem?_cons_succ, List.set_cons_zero, List.set_cons_succ, R.bind_ok, R.bind_ex, R.bind_bad, R.noex_ok, if_true, if_false, Bool.false_eq_true, Bool.true_eq_false, ite_true, ite_false, reduceIte, Nat.reduceAdd, Nat.reduceSub, Nat.zero_add, Nat.sub_self, Nat.sub_zero, decide_true, decide_false, Bool.not_true, Bool.not_false, subD_ap, ltD_ap, leD_ap, gtD_ap, geD_ap, mulD_ap, modD_ap, divD_ap, powD_ap, tupK_ok, lstK_ok, methK_ok, tupG_ok, eqS_t, eqS_f, neS_t, neS_f, eqI_ap, neI_ap, inT_nil, inT_hit, inT_miss, ne_eq, not_false_eq_true, f__law_due, b__law_due, i0, dn], made_ex h.ks (table_ex h.ks e2) n1 ew, .inl ⟨by decide, Kp.le l⟩⟩
theorem name_at {ns : List Str} {r : Nat} {c : Int} (gr : T[r]? = some (.lst (ns.map .str))) (n7 : ns.length = 7) (hn : ∀ s ∈ ns, isNm s = true ∧ s.length ≤ 8) : ∃ n, isNm n = true ∧ n.length ≤ 8 ∧ ∀ U, U[r]? = some (.lst (ns.map .str)) → ixD (.ref r) (.int (c % 7)) U = .ok (.str n) U := by
  have b1 := Int.emod_nonneg c (show (7 : Int) ≠ 0 by decide)
  have b2 := Int.emod_lt_of_pos c (show (0 : Int) < 7 by decide)
  obtain ⟨k, hk⟩ : ∃ k : Nat, c % 7 = k := ⟨(c % 7).toNat, by omega⟩
  obtain ⟨n, hx⟩ : ∃ n, ns[k]? = some n := ⟨_, List.getElem?_eq_getElem (by omega)⟩
  obtain ⟨h1, h2⟩ := hn n (List.mem_of_getElem? hx)
  exact ⟨n, h1, h2, fun U g => by rw [hk]; exact ixD_list (listAt_lst g) (by rw [List.getElem?_map, hx]; rfl)⟩
theorem turn_looks {ns : List Str} {r : Nat} {c : Int} {z5 z6 z7 z8 z9 z10 z11 z12 : Option VL.D} (h : KI es T) (gl : T[lw]? = some (.dic (WD es))) (gr : T[r]? = some (.lst (ns.map .str))) (n7 : ns.length = 7) (hn : ∀ s ∈ ns, isNm s = true ∧ s.length ≤ 8) (hz : es.length ≤ 100) :
    ∃ z T', (seqS (setS 10 (opF ixD (varF 2) (opF modD (callF f__law_mixed (consA (varF 4) (consA (cF (.int 5)) nilA))) (cF (.int 7)))))
    (seqS (ifS (notT (bF (callF f__law_look (consA (varF 1) (consA (varF 10) (consA (varF 3) (consA (opF (dinD false) (varF 10) (varF 3)) nilA))))))) (retS (cF (.bl false))) nilS)
    (ifS (notT (bF (callF f__law_look (consA (varF 1) (consA (callF f__law_no_name (consA (callF f__law_mixed (consA (varF 4) (consA (cF (.int 6)) nilA))) (consA (varF 10) nilA))) (consA (varF 3) (consA (cF (.bl false)) nilA))))))) (retS (cF (.bl false))) nilS)))
      [some (.ref 0), some (.ref 1), some (.ref r), some (.ref lw), some (.int c), z5, z6, z7, z8, z9, z10, z11, z12] T = .ok (.nx [some (.ref 0), some (.ref 1), some (.ref r), some (.ref lw), some (.int c), z5, z6, z7, z8, z9, z, z11, z12]) T' ∧ Kp [] T T' := by
  obtain ⟨n, h1, h2, ix⟩ := name_at (c := mx c 5) gr n7 hn
  have m5 : ∀ U, f__law_mixed [.int c, .int 5] U = .ok (.int (mx c 5)) U := fun U => mixed_ok (by decide) (by decide)
  have m6 : ∀ U, f__law_mixed [.int c, .int 6] U = .ok (.int (mx c 6)) U := fun U => mixed_ok (by decide) (by decide)
  have md : modD (.int (mx c 5)) (.int 7) T = .ok (.int (mx c 5 % 7)) T := modD_ap (by decide)
  have ixT := ix T gr
  have first : ∃ b T1, dinD false (.str n) (.ref lw) T = .ok (.bl b) T ∧ f__law_look [.ref 1, .str n, .ref lw, .bl b] T = .ok (.bl true) T1 ∧ Kp [] T T1 := by
    rcases look_es n es 0 with ⟨hne, hg, hs⟩ | ⟨j, e, g1, g2, g3, hg, hs⟩
    · obtain ⟨T1, e1, q1⟩ := look_no (lw := lw) h.ks (rf_miss h.ks h1 (by omega) hs)
      exact ⟨false, T1, (din_no gl mpD_keys (k := .str n) rfl (hg _)).1, e1, q1⟩
    · rw [Nat.zero_add] at hs
      obtain ⟨T1, e1, q1⟩ := look_yes h h1 h2 (by omega) g1 g2 g3 hg hs gl
      exact ⟨true, T1, (din_yes gl mpD_keys (k := .str n) rfl (hg _)).1, e1, q1⟩
  obtain ⟨b, T1, di, l1, q1⟩ := first
  obtain ⟨d, T2, nn, le2, as⟩ := no_name_ok (n := n) (w := mx c 6) (st := T1) h2
  have k2 := q1.trans (Kp.le le2)
  obtain ⟨T3, l2, q3⟩ := look_no (lw := lw) (h.ks.kp0 k2) (rf_no (h.ks.kp0 k2) as)
  exact ⟨some (.str n), T3, by simp -implicitDefEqProofs +decide only [varF_ap, cF_ap, opF_ap, opK_ap, bF_ap, boolK_ap, andT_ap, andK_ap, orT_ap, orK_ap, notT_ap, notK_ap, yesT_ap, andV_ap, andVK_ap, orV_ap, orVK_ap, notV_ap, notVK_ap, ifF_ap, ifFK_ap, nilA_ap, consA_ap, consK_ap, consJ_ap, tupA_ap, lstA_ap, newO_ap, dicF_ap, callF_ap, un1_ap, methF_ap, nonO_ap, someO_ap, someK_ap, slF_ap, slK_ap, slJ_ap, itF_ap, itA_ap, nilS_ap, bkS_ap, ctS_ap, seqS_ap, seqK_nx, seqK_rt, seqK_bk, seqK_ct, dropS_ap, dropK_ap, retS_ap, retK_ap, retN_ap, ifS_ap, ifK_ap, setS_ap, setK_ap, asgS_ap, asgK_ap, asgJ_ap, nameG_ap, nilG_ap, consG_ap, consGK_ap, fnF_ap, fnK_nx, fnK_rt, forS_ap, forK_ap, negD_ap, addI_ap, varK_ap, startE, yes2, isN, List.map_cons, List.map_nil, List.length_cons, List.length_nil, List.replicate, List.append_nil, List.cons_append, List.nil_append, List.getElem?_cons_zero, List.getElem?_cons_succ, List.set_cons_zero, List.set_cons_succ, R.bind_ok, R.bind_ex, R.bind_bad, R.noex_ok, if_true, if_false, Bool.false_eq_true, Bool.true_eq_false, ite_true, ite_false, reduceIte, Nat.reduceAdd, Nat.reduceSub, Nat.zero_add, Nat.sub_self, Nat.sub_zero, decide_true, decide_false, Bool.not_true, Bool.not_false, subD_ap, ltD_ap, leD_ap, gtD_ap, geD_ap, mulD_ap, modD_ap, divD_ap, powD_ap, tupK_ok, lstK_ok, methK_ok, tupG_ok, eqS_t, eqS_f, neS_t, neS_f, eqI_ap, neI_ap, inT_nil, inT_hit, inT_miss, ne_eq, not_false_eq_true, m5, md, ixT, di, l1, m6, nn, l2], k2.trans q3⟩
end
end Law
namespace Law
open PySem L2 VL
section
variable {es : List Ent} {lw r : Nat} {U : Sto} {ns : List Str}
structure TI (lw r : Nat) (ns : List Str) (es : List Ent) (U : Sto) : Prop where
  k : KI es U
  gl : U[lw]? = some (.dic (WD es))
  gr : U[r]? = some (.lst (ns.map .str))
  l16 : 16 ≤ lw
  r16 : 16 ≤ r
  ne : r ≠ lw
  fr : ∀ e ∈ es, e.b ≠ lw ∧ e.s ≠ lw
theorem TI.kp {V : Sto} (h : TI lw r ns es U) (q : Kp [] U V) : TI lw r ns es V := ⟨h.k.kp q, q _ _ (by simp) h.gl, q _ _ (by simp) h.gr, h.l16, h.r16, h.ne, h.fr⟩
theorem turn_ok {c : Int} {z5 z6 z7 z8 z9 z10 z11 z12 : Option VL.D} (h : TI lw r ns es U) (n7 : ns.length = 7) (hn : ∀ s ∈ ns, isNm s = true ∧ s.length ≤ 8) (hz : es.length ≤ 99) :
    ∃ y5 y6 y7 y8 y9 y10 es' U', l0_law [some (.ref 0), some (.ref 1), some (.ref r), some (.ref lw), some (.int c), z5, z6, z7, z8, z9, z10, z11, z12] U = .ok (.nx [some (.ref 0), some (.ref 1), some (.ref r), some (.ref lw), some (.int c), y5, y6, y7, y8, y9, y10, z11, z12]) U' ∧ TI lw r ns es' U' ∧ es'.length ≤ es.length + 1 ∧ Kp [4, 5, 6, 7, 8, 9, 10, 11, 14, lw] U U' := by
  obtain ⟨n0, hn1, hn2, ix⟩ := name_at (c := mx c 1) h.gr n7 hn
  have ixU := ix U h.gr
  have m : ∀ k : Int, 0 ≤ k → k ≤ 1000 → ∀ V, f__law_mixed [.int c, .int k] V = .ok (.int (mx c k)) V := fun k h0 h1 V => mixed_ok h0 h1
  have m1 := m 1 (by decide) (by decide) U
  have m2 := m 2 (by decide) (by decide) U
  have m3 := m 3 (by decide) (by decide) U
  have d1 : modD (.int (mx c 1)) (.int 7) U = .ok (.int (mx c 1 % 7)) U := modD_ap (by decide)
  have d2 : divD (.int (mx c 1)) (.int 7) U = .ok (.int (mx c 1 / 7)) U := divD_ap (by decide) (by decide +kernel)
  have d3 : modD (.int (mx c 1 / 7)) (.int 12) U = .ok (.int (mx c 1 / 7 % 12)) U := modD_ap (by decide)
  have d4 : modD (.int (mx c 2)) (.int 4) U = .ok (.int (mx c 2 % 4)) U := modD_ap (by decide)
  have d5 : modD (.int (mx c 3)) (.int 3) U = .ok (.int (mx c 3 % 3)) U := modD_ap (by decide)
  obtain ⟨w, hw⟩ : ∃ w : Int, w = mx c 1 / 7 % 12 := ⟨_, rfl⟩
  have w1 := Int.emod_nonneg (mx c 1 / 7) (show (12 : Int) ≠ 0 by decide)
  have w2 := Int.emod_lt_of_pos (mx c 1 / 7) (show (0 : Int) < 12 by decide)
  rw [← hw] at d3 w1 w2
  obtain ⟨o1, ho1⟩ : ∃ b, b = decide (mx c 2 % 4 = 1) := ⟨_, rfl⟩
  obtain ⟨o2, ho2⟩ : ∃ b, b = decide (mx c 3 % 3 = 1) := ⟨_, rfl⟩
  obtain ⟨T1, hT1⟩ : ∃ V, V = U ++ [VL.O.lst [.bl o1, .bl o2]] := ⟨_, rfl⟩
  have L1 : Le U T1 := hT1 ▸ Le.app _ _
  have go1 : T1[U.length]? = some (.lst [.bl o1, .bl o2]) := hT1 ▸ get_last
  -- the name
  have s5 : ∃ d T2, (ifS (bF (opF ixD (varF 8) (cF (.int 0)))) (setS 6 (callF f__law_no_name (consA (callF f__law_mixed (consA (varF 4) (consA (cF (.int 4)) nilA))) (consA (varF 6) nilA)))) nilS) [some (.ref 0), some (.ref 1), some (.ref r), some (.ref lw), some (.int c), some (.int (mx c 1)), some (.str n0), some (.int (1 + w)), some (.ref U.length), z9, z10, z11, z12] T1 = .ok (.nx [some (.ref 0), some (.ref 1), some (.ref r), some (.ref lw), some (.int c), some (.int (mx c 1)), some d, some (.int (1 + w)), some (.ref U.length), z9, z10, z11, z12]) T2 ∧ Le T1 T2 ∧ (o1 = true ∧ Asks d false T2 ∨ o1 = false ∧ ∃ n, d = .str n ∧ isNm n = true ∧ n.length ≤ 8) := by
    have i0 : ixD (.ref U.length) (.int 0) T1 = .ok (.bl o1) T1 := ixD_list (k := 0) (listAt_lst go1) rfl
    have m4 := m 4 (by decide) (by decide) T1
    cases o1 with
    | true =>
      obtain ⟨d, T2, e, l, a⟩ := no_name_ok (n := n0) (w := mx c 4) (st := T1) hn2
      exact ⟨d, T2, by simp -implicitDefEqProofs +decide only [varF_ap, cF_ap, opF_ap, opK_ap, bF_ap, boolK_ap, andT_ap, andK_ap, orT_ap, orK_ap, notT_ap, notK_ap, yesT_ap, andV_ap, andVK_ap, orV_ap, orVK_ap, notV_ap, notVK_ap, ifF_ap, ifFK_ap, nilA_ap, consA_ap, consK_ap, consJ_ap, tupA_ap, lstA_ap, newO_ap, dicF_ap, callF_ap, un1_ap, methF_ap, nonO_ap, someO_ap, someK_ap, slF_ap, slK_ap, slJ_ap, itF_ap, itA_ap, nilS_ap, bkS_ap, ctS_ap, seqS_ap, seqK_nx, seqK_rt, seqK_bk, seqK_ct, dropS_ap, dropK_ap, retS_ap, retK_ap, retN_ap, ifS_ap, ifK_ap, setS_ap, setK_ap, asgS_ap, asgK_ap, asgJ_ap, nameG_ap, nilG_ap, consG_ap, consGK_ap, fnF_ap, fnK_nx, fnK_rt, forS_ap, forK_ap, negD_ap, addI_ap, varK_ap, startE, yes2, isN, List.map_cons, List.map_nil, List.length_cons, List.length_nil, List.replicate, List.append_nil, List.cons_append, List.nil_append, List.getElem?_cons_zero, List.getElem?_cons_succ, List.set_cons_zero, List.set_cons_succ, R.bind_ok, R.bind_ex, R.bind_bad, R.noex_ok, if_true, if_false, Bool.false_eq_true, Bool.true_eq_false, ite_true, ite_false, reduceIte, Nat.reduceAdd, Nat.reduceSub, Nat.zero_add, Nat.sub_self, Nat.sub_zero, decide_true, decide_false, Bool.not_true, Bool.not_false, subD_ap, ltD_ap, leD_ap, gtD_ap, geD_ap, mulD_ap, modD_ap, divD_ap, powD_ap, tupK_ok, lstK_ok, methK_ok, tupG_ok, eqS_t, eqS_f, neS_t, neS_f, eqI_ap, neI_ap, inT_nil, inT_hit, inT_miss, ne_eq, not_false_eq_true, i0, m4, e], l, .inl ⟨rfl, a⟩⟩
    | false => exact ⟨.str n0, T1, by simp -implicitDefEqProofs +decide only [varF_ap, cF_ap, opF_ap, opK_ap, bF_ap, boolK_ap, andT_ap, andK_ap, orT_ap, orK_ap, notT_ap, notK_ap, yesT_ap, andV_ap, andVK_ap, orV_ap, orVK_ap, notV_ap, notVK_ap, ifF_ap, ifFK_ap, nilA_ap, consA_ap, consK_ap, consJ_ap, tupA_ap, lstA_ap, newO_ap, dicF_ap, callF_ap, un1_ap, methF_ap, nonO_ap, someO_ap, someK_ap, slF_ap, slK_ap, slJ_ap, itF_ap, itA_ap, nilS_ap, bkS_ap, ctS_ap, seqS_ap, seqK_nx, seqK_rt, seqK_bk, seqK_ct, dropS_ap, dropK_ap, retS_ap, retK_ap, retN_ap, ifS_ap, ifK_ap, setS_ap, setK_ap, asgS_ap, asgK_ap, asgJ_ap, nameG_ap, nilG_ap, consG_ap, consGK_ap, fnF_ap, fnK_nx, fnK_rt, forS_ap, forK_ap, negD_ap, addI_ap, varK_ap, startE, yes2, isN, List.map_cons, List.map_nil, List.length_cons, List.length_nil, List.replicate, List.append_nil, List.cons_append, List.nil_append, List.getElem?_cons_zero, List.getElem?_cons_succ, List.set_cons_zero, List.set_cons_succ, R.bind_ok, R.bind_ex, R.bind_bad, R.noex_ok, if_true, if_false, Bool.false_eq_true, Bool.true_eq_false, ite_true, ite_false, reduceIte, Nat.reduceAdd, Nat.reduceSub, Nat.zero_add, Nat.sub_self, Nat.sub_zero, decide_true, decide_false, Bool.not_true, Bool.not_false, subD_ap, ltD_ap, leD_ap, gtD_ap, geD_ap, mulD_ap, modD_ap, divD_ap, powD_ap, tupK_ok, lstK_ok, methK_ok, tupG_ok, eqS_t, eqS_f, neS_t, neS_f, eqI_ap, neI_ap, inT_nil, inT_hit, inT_miss, ne_eq, not_false_eq_true, i0], Le.refl _, .inr ⟨rfl, n0, rfl, hn1, hn2⟩⟩
  obtain ⟨d, T2, s5, L2, hd⟩ := s5
  have go2 := L2.get go1
  have s6 : ∃ v T3, (ifS (bF (opF ixD (varF 8) (cF (.int 1)))) (setS 7 (callF f__law_no_width (consA (varF 4) nilA))) nilS) [some (.ref 0), some (.ref 1), some (.ref r), some (.ref lw), some (.int c), some (.int (mx c 1)), some d, some (.int (1 + w)), some (.ref U.length), z9, z10, z11, z12] T2 = .ok (.nx [some (.ref 0), some (.ref 1), some (.ref r), some (.ref lw), some (.int c), some (.int (mx c 1)), some d, some v, some (.ref U.length), z9, z10, z11, z12]) T3 ∧ Le T2 T3 ∧ (o2 = true ∧ BadW v T3 ∨ o2 = false ∧ ∃ i, v = .int i ∧ 1 ≤ i ∧ i ≤ 12) := by
    have i1 : ixD (.ref U.length) (.int 1) T2 = .ok (.bl o2) T2 := ixD_list (k := 1) (listAt_lst go2) rfl
    cases o2 with
    | true =>
      obtain ⟨v, T3, e, l, a⟩ := no_width_ok (c := c) (st := T2)
      exact ⟨v, T3, by simp -implicitDefEqProofs +decide only [varF_ap, cF_ap, opF_ap, opK_ap, bF_ap, boolK_ap, andT_ap, andK_ap, orT_ap, orK_ap, notT_ap, notK_ap, yesT_ap, andV_ap, andVK_ap, orV_ap, orVK_ap, notV_ap, notVK_ap, ifF_ap, ifFK_ap, nilA_ap, consA_ap, consK_ap, consJ_ap, tupA_ap, lstA_ap, newO_ap, dicF_ap, callF_ap, un1_ap, methF_ap, nonO_ap, someO_ap, someK_ap, slF_ap, slK_ap, slJ_ap, itF_ap, itA_ap, nilS_ap, bkS_ap, ctS_ap, seqS_ap, seqK_nx, seqK_rt, seqK_bk, seqK_ct, dropS_ap, dropK_ap, retS_ap, retK_ap, retN_ap, ifS_ap, ifK_ap, setS_ap, setK_ap, asgS_ap, asgK_ap, asgJ_ap, nameG_ap, nilG_ap, consG_ap, consGK_ap, fnF_ap, fnK_nx, fnK_rt, forS_ap, forK_ap, negD_ap, addI_ap, varK_ap, startE, yes2, isN, List.map_cons, List.map_nil, List.length_cons, List.length_nil, List.replicate, List.append_nil, List.cons_append, List.nil_append, List.getElem?_cons_zero, List.getElem?_cons_succ, List.set_cons_zero, List.set_cons_succ, R.bind_ok, R.bind_ex, R.bind_bad, R.noex_ok, if_true, if_false, Bool.false_eq_true, Bool.true_eq_false, ite_true, ite_false, reduceIte, Nat.reduceAdd, Nat.reduceSub, Nat.zero_add, Nat.sub_self, Nat.sub_zero, decide_true, decide_false, Bool.not_true, Bool.not_false, subD_ap, ltD_ap, leD_ap, gtD_ap, geD_ap, mulD_ap, modD_ap, divD_ap, powD_ap, tupK_ok, lstK_ok, methK_ok, tupG_ok, eqS_t, eqS_f, neS_t, neS_f, eqI_ap, neI_ap, inT_nil, inT_hit, inT_miss, ne_eq, not_false_eq_true, i1, e], l, .inl ⟨rfl, a⟩⟩
    | false => exact ⟨.int (1 + w), T2, by simp -implicitDefEqProofs +decide only [varF_ap, cF_ap, opF_ap, opK_ap, bF_ap, boolK_ap, andT_ap, andK_ap, orT_ap, orK_ap, notT_ap, notK_ap, yesT_ap, andV_ap, andVK_ap, orV_ap, orVK_ap, notV_ap, notVK_ap, ifF_ap, ifFK_ap, nilA_ap, consA_ap, consK_ap, consJ_ap, tupA_ap, lstA_ap, newO_ap, dicF_ap, callF_ap, un1_ap, methF_ap, nonO_ap, someO_ap, someK_ap, slF_ap, slK_ap, slJ_ap, itF_ap, itA_ap, nilS_ap, bkS_ap, ctS_ap, seqS_ap, seqK_nx, seqK_rt, seqK_bk, seqK_ct, dropS_ap, dropK_ap, retS_ap, retK_ap, retN_ap, ifS_ap, ifK_ap, setS_ap, setK_ap, asgS_ap, asgK_ap, asgJ_ap, nameG_ap, nilG_ap, consG_ap, consGK_ap, fnF_ap, fnK_nx, fnK_rt, forS_ap, forK_ap, negD_ap, addI_ap, varK_ap, startE, yes2, isN, List.map_cons, List.map_nil, List.length_cons, List.length_nil, List.replicate, List.append_nil, List.cons_append, List.nil_append, List.getElem?_cons_zero, List.getElem?_cons_succ, List.set_cons_zero, List.set_cons_succ, R.bind_ok, R.bind_ex, R.bind_bad, R.noex_ok, if_true, if_false, Bool.false_eq_true, Bool.true_eq_false, ite_true, ite_false, reduceIte, Nat.reduceAdd, Nat.reduceSub, Nat.zero_add, Nat.sub_self, Nat.sub_zero, decide_true, decide_false, Bool.not_true, Bool.not_false, subD_ap, ltD_ap, leD_ap, gtD_ap, geD_ap, mulD_ap, modD_ap, divD_ap, powD_ap, tupK_ok, lstK_ok, methK_ok, tupG_ok, eqS_t, eqS_f, neS_t, neS_f, eqI_ap, neI_ap, inT_nil, inT_hit, inT_miss, ne_eq, not_false_eq_true, i1], Le.refl _, .inr ⟨rfl, 1 + w, rfl, by omega, by omega⟩⟩
  obtain ⟨v, T3, s6, L3, hv⟩ := s6
  have L03 := (L1.trans L2).trans L3
  have h3 := h.kp (Kp.le L03)
  have hd' : o1 = true ∧ Asks d false T3 ∨ o1 = false ∧ ∃ n, d = .str n ∧ isNm n = true ∧ n.length ≤ 8 := hd.imp (fun a => ⟨a.1, a.2.kp (Kp.le L3)⟩) id
  obtain ⟨k, T4, due, made, out⟩ := turn_made h3.k h3.gl (L3.get go2) (by omega) hd' hv
  have kk : (k = k) = True := eq_self k
  have ng : negD (.int 1) T4 = .ok (.int (-1)) T4 := rfl
  -- the width put down
  have s9 : ∃ es' T5, (ifS (bF (opF eqD (varF 9) (un1 negD (cF (.int 1))))) (dputS (varF 7) (varF 3) (varF 6)) nilS) [some (.ref 0), some (.ref 1), some (.ref r), some (.ref lw), some (.int c), some (.int (mx c 1)), some d, some v, some (.ref U.length), some (.int k), z10, z11, z12] T4 = .ok (.nx [some (.ref 0), some (.ref 1), some (.ref r), some (.ref lw), some (.int c), some (.int (mx c 1)), some d, some v, some (.ref U.length), some (.int k), z10, z11, z12]) T5 ∧ TI lw r ns es' T5 ∧ es'.length ≤ es.length + 1 ∧ Kp [4, 5, 6, 7, 8, 9, 10, 11, 14, lw] T3 T5 := by
    rcases out with ⟨k1, q⟩ | ⟨k1, n, i, b, s, rfl, rfl, hg, k4, q, lb, ls⟩
    · have dk := decide_eq_false k1
      exact ⟨es, T4, by simp -implicitDefEqProofs +decide only [varF_ap, cF_ap, opF_ap, opK_ap, bF_ap, boolK_ap, andT_ap, andK_ap, orT_ap, orK_ap, notT_ap, notK_ap, yesT_ap, andV_ap, andVK_ap, orV_ap, orVK_ap, notV_ap, notVK_ap, ifF_ap, ifFK_ap, nilA_ap, consA_ap, consK_ap, consJ_ap, tupA_ap, lstA_ap, newO_ap, dicF_ap, callF_ap, un1_ap, methF_ap, nonO_ap, someO_ap, someK_ap, slF_ap, slK_ap, slJ_ap, itF_ap, itA_ap, nilS_ap, bkS_ap, ctS_ap, seqS_ap, seqK_nx, seqK_rt, seqK_bk, seqK_ct, dropS_ap, dropK_ap, retS_ap, retK_ap, retN_ap, ifS_ap, ifK_ap, setS_ap, setK_ap, asgS_ap, asgK_ap, asgJ_ap, nameG_ap, nilG_ap, consG_ap, consGK_ap, fnF_ap, fnK_nx, fnK_rt, forS_ap, forK_ap, negD_ap, addI_ap, varK_ap, startE, yes2, isN, List.map_cons, List.map_nil, List.length_cons, List.length_nil, List.replicate, List.append_nil, List.cons_append, List.nil_append, List.getElem?_cons_zero, List.getElem?_cons_succ, List.set_cons_zero, List.set_cons_succ, R.bind_ok, R.bind_ex, R.bind_bad, R.noex_ok, if_true, if_false, Bool.false_eq_true, Bool.true_eq_false, ite_true, ite_false, reduceIte, Nat.reduceAdd, Nat.reduceSub, Nat.zero_add, Nat.sub_self, Nat.sub_zero, decide_true, decide_false, Bool.not_true, Bool.not_false, subD_ap, ltD_ap, leD_ap, gtD_ap, geD_ap, mulD_ap, modD_ap, divD_ap, powD_ap, tupK_ok, lstK_ok, methK_ok, tupG_ok, eqS_t, eqS_f, neS_t, neS_f, eqI_ap, neI_ap, inT_nil, inT_hit, inT_miss, ne_eq, not_false_eq_true, ng, dk], h3.kp q, by omega, q.sub (by simp)⟩
    · subst k1
      obtain ⟨T5, hT5⟩ : ∃ V, V = T4.set lw (.dic (WD (es ++ [⟨n, i, b, s⟩]))) := ⟨_, rfl⟩
      have l16 := h.l16
      have r16 := h.r16
      have g4 : T4[lw]? = some (.dic (WD es)) := q _ _ (by simp; omega) h3.gl
      have r4 : T4[r]? = some (.lst (ns.map .str)) := q _ _ (by simp; omega) h3.gr
      have ll3 : lw < T3.length := (List.getElem?_eq_some_iff.mp h3.gl).1
      have ll4 : lw < T4.length := (List.getElem?_eq_some_iff.mp g4).1
      have fr' : ∀ e ∈ es ++ [⟨n, i, b, s⟩], Ent.b e ≠ lw ∧ Ent.s e ≠ lw := fun e he => by
        rcases List.mem_append.mp he with he | he
        · exact h.fr e he
        · obtain rfl := List.mem_singleton.mp he
          exact ⟨by show b ≠ lw; omega, by show s ≠ lw; omega⟩
      have dp : dputS (varF 7) (varF 3) (varF 6) [some (.ref 0), some (.ref 1), some (.ref r), some (.ref lw), some (.int c), some (.int (mx c 1)), some (.str n), some (.int i), some (.ref U.length), some (.int (-1)), z10, z11, z12] T4 = .ok (.nx [some (.ref 0), some (.ref 1), some (.ref r), some (.ref lw), some (.int c), some (.int (mx c 1)), some (.str n), some (.int i), some (.ref U.length), some (.int (-1)), z10, z11, z12]) T5 := by
        have e := dputS_ap (fv := varF 7) (fo := varF 3) (fk := varF 6) (env := [some (.ref 0), some (.ref 1), some (.ref r), some (.ref lw), some (.int c), some (.int (mx c 1)), some (.str n), some (.int i), some (.ref U.length), some (.int (-1)), z10, z11, z12]) (s1 := T4) (s2 := T4) (s3 := T4) (st := T4) (v := .int i) (k := .str n) (n := lw) rfl rfl rfl g4 mpD_keys rfl (by rw [WD, mpD_len, sizeLine_eq']; omega)
        rw [dput_new hg] at e
        rw [e, hT5, WD, WD, mpD_app]
      have q45 : Kp [lw] T4 T5 := fun j o hj ho => by
        simp only [List.mem_singleton] at hj
        rw [hT5, List.getElem?_set_ne (fun e => hj e.symm)]; exact ho
      exact ⟨es ++ [⟨n, i, b, s⟩], T5, by simp -implicitDefEqProofs +decide only [varF_ap, cF_ap, opF_ap, opK_ap, bF_ap, boolK_ap, andT_ap, andK_ap, orT_ap, orK_ap, notT_ap, notK_ap, yesT_ap, andV_ap, andVK_ap, orV_ap, orVK_ap, notV_ap, notVK_ap, ifF_ap, ifFK_ap, nilA_ap, consA_ap, consK_ap, consJ_ap, tupA_ap, lstA_ap, newO_ap, dicF_ap, callF_ap, un1_ap, methF_ap, nonO_ap, someO_ap, someK_ap, slF_ap, slK_ap, slJ_ap, itF_ap, itA_ap, nilS_ap, bkS_ap, ctS_ap, seqS_ap, seqK_nx, seqK_rt, seqK_bk, seqK_ct, dropS_ap, dropK_ap, retS_ap, retK_ap, retN_ap, ifS_ap, ifK_ap, setS_ap, setK_ap, asgS_ap, asgK_ap, asgJ_ap, nameG_ap, nilG_ap, consG_ap, consGK_ap, fnF_ap, fnK_nx, fnK_rt, forS_ap, forK_ap, negD_ap, addI_ap, varK_ap, startE, yes2, isN, List.map_cons, List.map_nil, List.length_cons, List.length_nil, List.replicate, List.append_nil, List.cons_append, List.nil_append, List.getElem?_cons_zero, List.getElem?_cons_succ, List.set_cons_zero, List.set_cons_succ, R.bind_ok, R.bind_ex, R.bind_bad, R.noex_ok, if_true, if_false, Bool.false_eq_true, Bool.true_eq_false, ite_true, ite_false, reduceIte, Nat.reduceAdd, Nat.reduceSub, Nat.zero_add, Nat.sub_self, Nat.sub_zero, decide_true, decide_false, Bool.not_true, Bool.not_false, subD_ap, ltD_ap, leD_ap, gtD_ap, geD_ap, mulD_ap, modD_ap, divD_ap, powD_ap, tupK_ok, lstK_ok, methK_ok, tupG_ok, eqS_t, eqS_f, neS_t, neS_f, eqI_ap, neI_ap, inT_nil, inT_hit, inT_miss, ne_eq, not_false_eq_true, ng, ↓dp], ⟨⟨k4.ks.kp q45 (fun x hx => by simp only [List.mem_singleton] at hx; omega) (fun e he => by simp only [List.mem_singleton]; exact fr' e he), k4.ok, k4.nd, k4.nm⟩, hT5 ▸ List.getElem?_set_self ll4, q45 _ _ (by simp only [List.mem_singleton]; exact h.ne) r4, l16, r16, h.ne, fr'⟩, by rw [List.length_append]; exact Nat.le_refl _, (q.sub (by simp)).trans (q45.sub (by simp))⟩
  obtain ⟨es', T5, s9, h5, hl5, q5⟩ := s9
  obtain ⟨z, T6, tl, q6⟩ := turn_looks (c := c) (z5 := some (.int (mx c 1))) (z6 := some d) (z7 := some v) (z8 := some (.ref U.length)) (z9 := some (.int k)) (z10 := z10) (z11 := z11) (z12 := z12) h5.k h5.gl h5.gr n7 hn (by omega)
  refine ⟨some (.int (mx c 1)), some d, some v, some (.ref U.length), some (.int k), z, es', T6, ?_, h5.kp q6, hl5, ((Kp.le L03).trans q5).trans (q6.sub (by simp))⟩
  simp -implicitDefEqProofs +decide only [varF_ap, cF_ap, opF_ap, opK_ap, bF_ap, boolK_ap, andT_ap, andK_ap, orT_ap, orK_ap, notT_ap, notK_ap, yesT_ap, andV_ap, andVK_ap, orV_ap, orVK_ap, notV_ap, notVK_ap, ifF_ap, ifFK_ap, nilA_ap, consA_ap, consK_ap, consJ_ap, tupA_ap, lstA_ap, newO_ap, dicF_ap, callF_ap, un1_ap, methF_ap, nonO_ap, someO_ap, someK_ap, slF_ap, slK_ap, slJ_ap, itF_ap, itA_ap, nilS_ap, bkS_ap, ctS_ap, seqS_ap, seqK_nx, seqK_rt, seqK_bk, seqK_ct, dropS_ap, dropK_ap, retS_ap, retK_ap, retN_ap, ifS_ap, ifK_ap, setS_ap, setK_ap, asgS_ap, asgK_ap, asgJ_ap, nameG_ap, nilG_ap, consG_ap, consGK_ap, fnF_ap, fnK_nx, fnK_rt, forS_ap, forK_ap, negD_ap, addI_ap, varK_ap, startE, yes2, isN, List.map_cons, List.map_nil, List.length_cons, List.length_nil, List.replicate, List.append_nil, List.cons_append, List.nil_append, List.getElem?_cons_zero, List.getElem?_cons_succ, List.set_cons_zero, List.set_cons_succ, R.bind_ok, R.bind_ex, R.bind_bad, R.noex_ok, if_true, if_false, Bool.false_eq_true, Bool.true_eq_false, ite_true, ite_false, reduceIte, Nat.reduceAdd, Nat.reduceSub, Nat.zero_add, Nat.sub_self, Nat.sub_zero, decide_true, decide_false, Bool.not_true, Bool.not_false, subD_ap, ltD_ap, leD_ap, gtD_ap, geD_ap, mulD_ap, modD_ap, divD_ap, powD_ap, tupK_ok, lstK_ok, methK_ok, tupG_ok, eqS_t, eqS_f, neS_t, neS_f, eqI_ap, neI_ap, inT_nil, inT_hit, inT_miss, ne_eq, not_false_eq_true, l0_law, m1, d1, ixU, d2, d3, ← hw, m2, d4, m3, d5, ← ho1, ← ho2, sz (by decide : 2 ≤ 100), ← hT1, ↓s5, ↓s6, due, made, kk, ↓s9, ↓tl]
end
end Law
namespace Law
open PySem L2 VL
def ktl : List Ent → Nat → List VL.D
  | [], _ => []
  | e :: r, i => kt e i :: ktl r (i + 1)
def enP (e : Ent) : VL.D := prK (.str e.n, .int e.w)
theorem lcL_es {gf : GF} {te : EF} {env : EnvD} {s : Sto} (hb : ∀ (e : Ent) (V : Sto), ∃ e', gf (enP e) env V = .ok e' V ∧ te e' V = .ok (kt e V.length) (V ++ [.lst []])) : ∀ {es : List Ent} {acc : List VL.D} {j : Sto}, acc.length + es.length ≤ sizeLine →
    lcL [] gf yesT te env s.length (es.map enP) (s ++ .lst acc :: j) = .ok () (s ++ .lst (acc ++ ktl es (s.length + 1 + j.length)) :: (j ++ List.replicate es.length (.lst [])))
  | [], acc, j, _ => by
    rw [List.map_nil, lcL_nil ChkOk.nil]; simp [ktl]
  | e :: r, acc, j, hl => by
    obtain ⟨e', h1, h4⟩ := hb e (s ++ .lst acc :: j)
    rw [List.length_cons] at hl
    rw [List.map_cons, lcL_cons ChkOk.nil, h1, R.noex_ok, R.bind_ok]
    show (((R.ok true (s ++ .lst acc :: j)).noex).bind _) = _
    rw [R.noex_ok, R.bind_ok, if_pos rfl, h4, R.noex_ok, R.bind_ok]
    have g : (s ++ VL.O.lst acc :: j ++ [VL.O.lst []])[s.length]? = some (.lst acc) := by
      rw [List.append_assoc, List.getElem?_append_right (Nat.le_refl _), Nat.sub_self]; rfl
    have len : (s ++ VL.O.lst acc :: j).length = s.length + 1 + j.length := by rw [List.length_append, List.length_cons]; omega
    have st : (s ++ VL.O.lst acc :: j ++ [VL.O.lst []]).set s.length (.lst (acc ++ [kt e (s.length + 1 + j.length)])) = s ++ VL.O.lst (acc ++ [kt e (s.length + 1 + j.length)]) :: (j ++ [.lst []]) := by
      rw [List.append_assoc, List.set_append_right _ _ (Nat.le_refl _), Nat.sub_self]; simp
    rw [len, g]
    simp only
    rw [if_pos (by omega), st, lcL_es hb (es := r) (by rw [List.length_append, List.length_singleton]; omega)]
    rw [show s.length + 1 + (j ++ [VL.O.lst []]).length = s.length + 1 + j.length + 1 by rw [List.length_append]; rfl, List.append_assoc, List.append_assoc, List.length_cons, List.replicate_succ]; rfl
theorem ktl_len : ∀ {es : List Ent} {i : Nat}, (ktl es i).length = es.length
  | [], _ => rfl
  | _ :: r, i => by rw [ktl, List.length_cons, List.length_cons, ktl_len]
theorem ktl_get : ∀ {es : List Ent} {i k : Nat} {e : Ent}, es[k]? = some e → (ktl es i)[k]? = some (kt e (i + k))
  | z :: r, i, 0, e, h => by cases h; rfl
  | z :: r, i, k + 1, e, h => by
    rw [ktl, show i + (k + 1) = i + 1 + k by omega]
    exact ktl_get (es := r) (i := i + 1) (k := k) h
theorem ktl_KL {es : List Ent} {s : Sto} {o : VL.O} : KL es (ktl es (s.length + 1)) (s ++ o :: List.replicate es.length (.lst [])) := by
  refine ⟨ktl_len, fun k e h => ⟨s.length + 1 + k, ktl_get h, ?_⟩⟩
  have hk := (List.getElem?_eq_some_iff.mp h).1
  rw [List.getElem?_append_right (by omega), show s.length + 1 + k - s.length = k + 1 by omega, List.getElem?_cons_succ, List.getElem?_replicate, if_pos hk]
def kD (e : Ent) : PyData := .tuple [.str "table", .str e.n, .int e.w, .list []]
def nD (e : Ent) : PyData := .tuple [.str "table", .tuple [.str e.n, .int e.w], .tuple []]
theorem res_kt {e : Ent} {x : Nat} {T : Sto} (h : T[x]? = some (.lst [])) : resD 5 (kt e x) T = some (kD e) := by
  have r : resD 4 (.ref x) T = some (.list []) := by
    show (match listAt T x with | some xs => (resL (fun x => resD 3 x T) xs).map PyData.list | none => none) = _
    rw [listAt_lst h]; rfl
  show (resL (fun x => resD 4 x T) [.str "table", .str e.n, .int e.w, .ref x]).map PyData.tuple = _
  simp only [resL, r]
  rfl
theorem res_list {es : List Ent} {ds : List VL.D} {T : Sto} (h : KL es ds T) : resL (fun x => resD 5 x T) ds = some (es.map kD) := by
  obtain ⟨hl, h⟩ := h
  induction es generalizing ds with
  | nil =>
    obtain rfl := List.length_eq_zero_iff.mp hl
    rfl
  | cons e r ih =>
    obtain ⟨x, h0, g0⟩ := h 0 e rfl
    match ds, hl, h, h0 with
    | d :: ds', hl, h, h0 =>
      obtain rfl : d = kt e x := by simpa using h0
      have := ih (ds := ds') (by simpa using hl) fun k z hz => by simpa using h (k + 1) z (by simpa using hz)
      simp only [resL, res_kt g0, this]
      rfl
theorem res_kept {es : List Ent} {ds : List VL.D} {m : Nat} {T : Sto} (g : T[m]? = some (.lst ds)) (h : KL es ds T) : resD 6 (.ref m) T = some (.list (es.map kD)) := by
  show (match listAt T m with | some xs => (resL (fun x => resD 5 x T) xs).map PyData.list | none => none) = _
  rw [listAt_lst g]
  simp only [res_list h]
  rfl
theorem res_nodes {es : List Ent} {m : Nat} {T : Sto} (g : T[m]? = some (.lst (es.map fun e => tnd e.n e.w))) : resD 6 (.ref m) T = some (.list (es.map nD)) := by
  show (match listAt T m with | some xs => (resL (fun x => resD 5 x T) xs).map PyData.list | none => none) = _
  rw [listAt_lst g]
  have : ∀ es : List Ent, resL (fun x => resD 5 x T) (es.map fun e => tnd e.n e.w) = some (es.map nD) := fun es => by
    induction es with
    | nil => rfl
    | cons e r ih =>
      have r1 : resD 5 (tnd e.n e.w) T = some (nD e) := rfl
      simp only [List.map_cons, resL, r1, ih]
      rfl
  simp only [this]
  rfl
theorem nm_ok {s : Str} (h : isNm s = true) : PyData.strOk s = true := by
  unfold isNm at h
  simp only [Bool.and_eq_true] at h
  have h := h.2.2
  unfold PyData.strOk
  rw [← Array.all_toList]
  rw [List.all_eq_true] at h ⊢
  intro c hc
  have := h c hc
  unfold ltr at this
  simp at this ⊢
  omega
theorem shaped_k {es : List Ent} (h : ∀ e ∈ es, isNm e.n = true) : SeqAt.shaped (.list (es.map kD)) = true := by
  have tb : PyData.strOk "table" = true := by decide +kernel
  have a : PyData.canLayAll0 (es.map kD) = true := by
    induction es with
    | nil => rfl
    | cons e r ih =>
      have n := nm_ok (h e List.mem_cons_self)
      rw [List.map_cons, PyData.canLayAll0, ih fun e he => h e (List.mem_cons_of_mem _ he)]
      simp [kD, PyData.canLay0, PyData.canLayAll0, tb, n]
  have b : PyData.depthAll (es.map kD) ≤ 2 := by
    clear h a
    induction es with
    | nil => exact Nat.zero_le _
    | cons e r ih =>
      rw [List.map_cons, PyData.depthAll]
      exact Nat.max_le.mpr ⟨by simp [kD, PyData.depth, PyData.depthAll], ih⟩
  unfold SeqAt.shaped
  rw [PyData.canLay0, a, PyData.depth]
  simp; omega
theorem shaped_n {es : List Ent} (h : ∀ e ∈ es, isNm e.n = true) : SeqAt.shaped (.list (es.map nD)) = true := by
  have tb : PyData.strOk "table" = true := by decide +kernel
  have a : PyData.canLayAll0 (es.map nD) = true := by
    induction es with
    | nil => rfl
    | cons e r ih =>
      have n := nm_ok (h e List.mem_cons_self)
      rw [List.map_cons, PyData.canLayAll0, ih fun e he => h e (List.mem_cons_of_mem _ he)]
      simp [nD, PyData.canLay0, PyData.canLayAll0, tb, n]
  have b : PyData.depthAll (es.map nD) ≤ 2 := by
    clear h a
    induction es with
    | nil => exact Nat.zero_le _
    | cons e r ih =>
      rw [List.map_cons, PyData.depthAll]
      exact Nat.max_le.mpr ⟨by simp [nD, PyData.depth, PyData.depthAll], ih⟩
  unfold SeqAt.shaped
  rw [PyData.canLay0, a, PyData.depth]
  simp; omega
theorem eqX_same {a b : VL.D} {y : PyData} {T : Sto} (h1 : resD 6 a T = some y) (h2 : resD 6 b T = some y) (s : SeqAt.shaped y = true) : eqX false a b T = .ok (.bl true) T := by
  rw [eqX_ap h1 h2 s s, SeqAt.eqv_refl y (SeqAt.canLay_of_shaped s)]; rfl
end Law
namespace Law
open PySem L2 VL
theorem wd_prk {es : List Ent} : (WD es).map prK = es.map enP := by
  unfold WD mpD
  rw [List.map_map]; rfl
section
variable {es : List Ent} {lw r : Nat} {U : Sto} {ns : List Str} {z4 z5 z6 z7 z8 z9 z10 z11 z12 : Option VL.D}
theorem it_fd {n : Nat} {kvs : List (VL.D × VL.D)} {env : EnvD} {fo : EF} {T : Sto} (ho : fo env T = .ok (.ref n) T) (h : T[n]? = some (.fd kvs)) : itmF fo env T = .ok (kvs.map prK, []) T := by
  unfold itmF
  rw [ho, R.bind_ok]
  simp only [itmD, h]
theorem comp_kept (h : TI lw r ns es U) (hz : es.length ≤ 1000) :
    ∃ ds j, lockS (varF 3) (setS 11 q0_law) [some (.ref 0), some (.ref 1), some (.ref r), some (.ref lw), z4, z5, z6, z7, z8, z9, z10, z11, z12] U = .ok (.nx [some (.ref 0), some (.ref 1), some (.ref r), some (.ref lw), z4, z5, z6, z7, z8, z9, z10, some (.ref U.length), z12]) (U ++ .lst ds :: j) ∧ KL es ds (U ++ .lst ds :: j) := by
  have ll : lw < U.length := (List.getElem?_eq_some_iff.mp h.gl).1
  obtain ⟨T, hT⟩ : ∃ T, T = U.set lw (.fd (WD es)) := ⟨_, rfl⟩
  have lT : T.length = U.length := by rw [hT, List.length_set]
  have gT : T[lw]? = some (.fd (WD es)) := hT ▸ List.getElem?_set_self ll
  have q : q0_law [some (.ref 0), some (.ref 1), some (.ref r), some (.ref lw), z4, z5, z6, z7, z8, z9, z10, z11, z12] T = .ok (.ref U.length) (T ++ .lst (ktl es (U.length + 1)) :: List.replicate es.length (.lst [])) := by
    have e := lcL_es (gf := tupG 2 (consG (nameG 6) (consG (nameG 7) nilG))) (te := tupA (consA (cF (.str "table")) (consA (varF 6) (consA (varF 7) (consA (lstA nilA) nilA))))) (env := [some (.ref 0), some (.ref 1), some (.ref r), some (.ref lw), z4, z5, none, none, z8, z9, z10, z11, z12]) (s := T) (es := es) (acc := []) (j := []) (fun e V => ⟨[some (.ref 0), some (.ref 1), some (.ref r), some (.ref lw), z4, z5, some (.str e.n), some (.int e.w), z8, z9, z10, z11, z12], by simp -implicitDefEqProofs +decide only [varF_ap, cF_ap, opF_ap, opK_ap, bF_ap, boolK_ap, andT_ap, andK_ap, orT_ap, orK_ap, notT_ap, notK_ap, yesT_ap, andV_ap, andVK_ap, orV_ap, orVK_ap, notV_ap, notVK_ap, ifF_ap, ifFK_ap, nilA_ap, consA_ap, consK_ap, consJ_ap, tupA_ap, lstA_ap, newO_ap, dicF_ap, callF_ap, un1_ap, methF_ap, nonO_ap, someO_ap, someK_ap, slF_ap, slK_ap, slJ_ap, itF_ap, itA_ap, nilS_ap, bkS_ap, ctS_ap, seqS_ap, seqK_nx, seqK_rt, seqK_bk, seqK_ct, dropS_ap, dropK_ap, retS_ap, retK_ap, retN_ap, ifS_ap, ifK_ap, setS_ap, setK_ap, asgS_ap, asgK_ap, asgJ_ap, nameG_ap, nilG_ap, consG_ap, consGK_ap, fnF_ap, fnK_nx, fnK_rt, forS_ap, forK_ap, negD_ap, addI_ap, varK_ap, startE, yes2, isN, List.map_cons, List.map_nil, List.length_cons, List.length_nil, List.replicate, List.append_nil, List.cons_append, List.nil_append, List.getElem?_cons_zero, List.getElem?_cons_succ, List.set_cons_zero, List.set_cons_succ, R.bind_ok, R.bind_ex, R.bind_bad, R.noex_ok, if_true, if_false, Bool.false_eq_true, Bool.true_eq_false, ite_true, ite_false, reduceIte, Nat.reduceAdd, Nat.reduceSub, Nat.zero_add, Nat.sub_self, Nat.sub_zero, decide_true, decide_false, Bool.not_true, Bool.not_false, subD_ap, ltD_ap, leD_ap, gtD_ap, geD_ap, mulD_ap, modD_ap, divD_ap, powD_ap, tupK_ok, lstK_ok, methK_ok, tupG_ok, eqS_t, eqS_f, neS_t, neS_f, eqI_ap, neI_ap, inT_nil, inT_hit, inT_miss, ne_eq, not_false_eq_true, enP, prK], by simp -implicitDefEqProofs +decide only [varF_ap, cF_ap, opF_ap, opK_ap, bF_ap, boolK_ap, andT_ap, andK_ap, orT_ap, orK_ap, notT_ap, notK_ap, yesT_ap, andV_ap, andVK_ap, orV_ap, orVK_ap, notV_ap, notVK_ap, ifF_ap, ifFK_ap, nilA_ap, consA_ap, consK_ap, consJ_ap, tupA_ap, lstA_ap, newO_ap, dicF_ap, callF_ap, un1_ap, methF_ap, nonO_ap, someO_ap, someK_ap, slF_ap, slK_ap, slJ_ap, itF_ap, itA_ap, nilS_ap, bkS_ap, ctS_ap, seqS_ap, seqK_nx, seqK_rt, seqK_bk, seqK_ct, dropS_ap, dropK_ap, retS_ap, retK_ap, retN_ap, ifS_ap, ifK_ap, setS_ap, setK_ap, asgS_ap, asgK_ap, asgJ_ap, nameG_ap, nilG_ap, consG_ap, consGK_ap, fnF_ap, fnK_nx, fnK_rt, forS_ap, forK_ap, negD_ap, addI_ap, varK_ap, startE, yes2, isN, List.map_cons, List.map_nil, List.length_cons, List.length_nil, List.replicate, List.append_nil, List.cons_append, List.nil_append, List.getElem?_cons_zero, List.getElem?_cons_succ, List.set_cons_zero, List.set_cons_succ, R.bind_ok, R.bind_ex, R.bind_bad, R.noex_ok, if_true, if_false, Bool.false_eq_true, Bool.true_eq_false, ite_true, ite_false, reduceIte, Nat.reduceAdd, Nat.reduceSub, Nat.zero_add, Nat.sub_self, Nat.sub_zero, decide_true, decide_false, Bool.not_true, Bool.not_false, subD_ap, ltD_ap, leD_ap, gtD_ap, geD_ap, mulD_ap, modD_ap, divD_ap, powD_ap, tupK_ok, lstK_ok, methK_ok, tupG_ok, eqS_t, eqS_f, neS_t, neS_f, eqI_ap, neI_ap, inT_nil, inT_hit, inT_miss, ne_eq, not_false_eq_true, sz (by decide : 0 ≤ 100), sz (by decide : 4 ≤ 100)]; rfl⟩) (by rw [sizeLine_eq']; simp; omega)
    unfold q0_law lcF
    rw [it_fd (n := lw) rfl gT, R.bind_ok, wd_prk]
    show (lcL [] _ yesT _ [some (.ref 0), some (.ref 1), some (.ref r), some (.ref lw), z4, z5, none, none, z8, z9, z10, z11, z12] T.length (es.map enP) (T ++ [.lst []])).bind _ = _
    rw [e, R.bind_ok, lT]; rfl
  refine ⟨ktl es (U.length + 1), List.replicate es.length (.lst []), lockS_go (n := lw) (kvs := WD es) rfl h.gl mpD_keys ?_, ktl_KL⟩
  rw [← hT]
  simp -implicitDefEqProofs +decide only [varF_ap, cF_ap, opF_ap, opK_ap, bF_ap, boolK_ap, andT_ap, andK_ap, orT_ap, orK_ap, notT_ap, notK_ap, yesT_ap, andV_ap, andVK_ap, orV_ap, orVK_ap, notV_ap, notVK_ap, ifF_ap, ifFK_ap, nilA_ap, consA_ap, consK_ap, consJ_ap, tupA_ap, lstA_ap, newO_ap, dicF_ap, callF_ap, un1_ap, methF_ap, nonO_ap, someO_ap, someK_ap, slF_ap, slK_ap, slJ_ap, itF_ap, itA_ap, nilS_ap, bkS_ap, ctS_ap, seqS_ap, seqK_nx, seqK_rt, seqK_bk, seqK_ct, dropS_ap, dropK_ap, retS_ap, retK_ap, retN_ap, ifS_ap, ifK_ap, setS_ap, setK_ap, asgS_ap, asgK_ap, asgJ_ap, nameG_ap, nilG_ap, consG_ap, consGK_ap, fnF_ap, fnK_nx, fnK_rt, forS_ap, forK_ap, negD_ap, addI_ap, varK_ap, startE, yes2, isN, List.map_cons, List.map_nil, List.length_cons, List.length_nil, List.replicate, List.append_nil, List.cons_append, List.nil_append, List.getElem?_cons_zero, List.getElem?_cons_succ, List.set_cons_zero, List.set_cons_succ, R.bind_ok, R.bind_ex, R.bind_bad, R.noex_ok, if_true, if_false, Bool.false_eq_true, Bool.true_eq_false, ite_true, ite_false, reduceIte, Nat.reduceAdd, Nat.reduceSub, Nat.zero_add, Nat.sub_self, Nat.sub_zero, decide_true, decide_false, Bool.not_true, Bool.not_false, subD_ap, ltD_ap, leD_ap, gtD_ap, geD_ap, mulD_ap, modD_ap, divD_ap, powD_ap, tupK_ok, lstK_ok, methK_ok, tupG_ok, eqS_t, eqS_f, neS_t, neS_f, eqI_ap, neI_ap, inT_nil, inT_hit, inT_miss, ne_eq, not_false_eq_true, ↓q]
theorem comp_nodes (h : TI lw r ns es U) (hz : es.length ≤ 1000) :
    ∃ j, lockS (varF 3) (setS 12 q1_law) [some (.ref 0), some (.ref 1), some (.ref r), some (.ref lw), z4, z5, z6, z7, z8, z9, z10, z11, z12] U = .ok (.nx [some (.ref 0), some (.ref 1), some (.ref r), some (.ref lw), z4, z5, z6, z7, z8, z9, z10, z11, some (.ref U.length)]) (U ++ .lst (es.map fun e => tnd e.n e.w) :: j) := by
  have ll : lw < U.length := (List.getElem?_eq_some_iff.mp h.gl).1
  obtain ⟨T, hT⟩ : ∃ T, T = U.set lw (.fd (WD es)) := ⟨_, rfl⟩
  have lT : T.length = U.length := by rw [hT, List.length_set]
  have gT : T[lw]? = some (.fd (WD es)) := hT ▸ List.getElem?_set_self ll
  obtain ⟨j, e⟩ := lcF_all (it := itmF (varF 3)) (vs := [6, 7]) (gf := tupG 2 (consG (nameG 6) (consG (nameG 7) nilG))) (te := tupA (consA (cF (.str "table")) (consA (tupA (consA (varF 6) (consA (varF 7) nilA))) (consA (tupA nilA) nilA)))) (env := [some (.ref 0), some (.ref 1), some (.ref r), some (.ref lw), z4, z5, z6, z7, z8, z9, z10, z11, z12]) (st := T) (s := T) (ds := (WD es).map prK) (c := [])
    (fun d => match d with | .tup [.str n, .int w] => tnd n w | _ => .non) (it_fd (n := lw) rfl gT) chk_nil (by rw [wd_prk, List.length_map, sizeLine_eq']; omega) fun x hx V _ => by
      rw [wd_prk] at hx
      obtain ⟨e, _, rfl⟩ := List.mem_map.mp hx
      refine ⟨[some (.ref 0), some (.ref 1), some (.ref r), some (.ref lw), z4, z5, some (.str e.n), some (.int e.w), z8, z9, z10, z11, z12], [], ?_, ?_⟩
      · show tupG 2 _ (enP e) [some (.ref 0), some (.ref 1), some (.ref r), some (.ref lw), z4, z5, none, none, z8, z9, z10, z11, z12] V = _
        simp -implicitDefEqProofs +decide only [varF_ap, cF_ap, opF_ap, opK_ap, bF_ap, boolK_ap, andT_ap, andK_ap, orT_ap, orK_ap, notT_ap, notK_ap, yesT_ap, andV_ap, andVK_ap, orV_ap, orVK_ap, notV_ap, notVK_ap, ifF_ap, ifFK_ap, nilA_ap, consA_ap, consK_ap, consJ_ap, tupA_ap, lstA_ap, newO_ap, dicF_ap, callF_ap, un1_ap, methF_ap, nonO_ap, someO_ap, someK_ap, slF_ap, slK_ap, slJ_ap, itF_ap, itA_ap, nilS_ap, bkS_ap, ctS_ap, seqS_ap, seqK_nx, seqK_rt, seqK_bk, seqK_ct, dropS_ap, dropK_ap, retS_ap, retK_ap, retN_ap, ifS_ap, ifK_ap, setS_ap, setK_ap, asgS_ap, asgK_ap, asgJ_ap, nameG_ap, nilG_ap, consG_ap, consGK_ap, fnF_ap, fnK_nx, fnK_rt, forS_ap, forK_ap, negD_ap, addI_ap, varK_ap, startE, yes2, isN, List.map_cons, List.map_nil, List.length_cons, List.length_nil, List.replicate, List.append_nil, List.cons_append, List.nil_append, List.getElem?_cons_zero, List.getElem?_cons_succ, List.set_cons_zero, List.set_cons_succ, R.bind_ok, R.bind_ex, R.bind_bad, R.noex_ok, if_true, if_false, Bool.false_eq_true, Bool.true_eq_false, ite_true, ite_false, reduceIte, Nat.reduceAdd, Nat.reduceSub, Nat.zero_add, Nat.sub_self, Nat.sub_zero, decide_true, decide_false, Bool.not_true, Bool.not_false, subD_ap, ltD_ap, leD_ap, gtD_ap, geD_ap, mulD_ap, modD_ap, divD_ap, powD_ap, tupK_ok, lstK_ok, methK_ok, tupG_ok, eqS_t, eqS_f, neS_t, neS_f, eqI_ap, neI_ap, inT_nil, inT_hit, inT_miss, ne_eq, not_false_eq_true, enP, prK]
      · simp -implicitDefEqProofs +decide only [varF_ap, cF_ap, opF_ap, opK_ap, bF_ap, boolK_ap, andT_ap, andK_ap, orT_ap, orK_ap, notT_ap, notK_ap, yesT_ap, andV_ap, andVK_ap, orV_ap, orVK_ap, notV_ap, notVK_ap, ifF_ap, ifFK_ap, nilA_ap, consA_ap, consK_ap, consJ_ap, tupA_ap, lstA_ap, newO_ap, dicF_ap, callF_ap, un1_ap, methF_ap, nonO_ap, someO_ap, someK_ap, slF_ap, slK_ap, slJ_ap, itF_ap, itA_ap, nilS_ap, bkS_ap, ctS_ap, seqS_ap, seqK_nx, seqK_rt, seqK_bk, seqK_ct, dropS_ap, dropK_ap, retS_ap, retK_ap, retN_ap, ifS_ap, ifK_ap, setS_ap, setK_ap, asgS_ap, asgK_ap, asgJ_ap, nameG_ap, nilG_ap, consG_ap, consGK_ap, fnF_ap, fnK_nx, fnK_rt, forS_ap, forK_ap, negD_ap, addI_ap, varK_ap, startE, yes2, isN, List.map_cons, List.map_nil, List.length_cons, List.length_nil, List.replicate, List.append_nil, List.cons_append, List.nil_append, List.getElem?_cons_zero, List.getElem?_cons_succ, List.set_cons_zero, List.set_cons_succ, R.bind_ok, R.bind_ex, R.bind_bad, R.noex_ok, if_true, if_false, Bool.false_eq_true, Bool.true_eq_false, ite_true, ite_false, reduceIte, Nat.reduceAdd, Nat.reduceSub, Nat.zero_add, Nat.sub_self, Nat.sub_zero, decide_true, decide_false, Bool.not_true, Bool.not_false, subD_ap, ltD_ap, leD_ap, gtD_ap, geD_ap, mulD_ap, modD_ap, divD_ap, powD_ap, tupK_ok, lstK_ok, methK_ok, tupG_ok, eqS_t, eqS_f, neS_t, neS_f, eqI_ap, neI_ap, inT_nil, inT_hit, inT_miss, ne_eq, not_false_eq_true, sz (by decide : 0 ≤ 100), sz (by decide : 2 ≤ 100), sz (by decide : 3 ≤ 100)]; rfl
  have em : ((WD es).map prK).map (fun d => match d with | .tup [.str n, .int w] => tnd n w | _ => .non) = es.map fun e => tnd e.n e.w := by
    rw [wd_prk, List.map_map]; rfl
  rw [em, lT] at e
  have q : q1_law [some (.ref 0), some (.ref 1), some (.ref r), some (.ref lw), z4, z5, z6, z7, z8, z9, z10, z11, z12] T = .ok (.ref U.length) (T ++ .lst (es.map fun e => tnd e.n e.w) :: j) := e
  refine ⟨j, lockS_go (n := lw) (kvs := WD es) rfl h.gl mpD_keys ?_⟩
  rw [← hT]
  simp -implicitDefEqProofs +decide only [varF_ap, cF_ap, opF_ap, opK_ap, bF_ap, boolK_ap, andT_ap, andK_ap, orT_ap, orK_ap, notT_ap, notK_ap, yesT_ap, andV_ap, andVK_ap, orV_ap, orVK_ap, notV_ap, notVK_ap, ifF_ap, ifFK_ap, nilA_ap, consA_ap, consK_ap, consJ_ap, tupA_ap, lstA_ap, newO_ap, dicF_ap, callF_ap, un1_ap, methF_ap, nonO_ap, someO_ap, someK_ap, slF_ap, slK_ap, slJ_ap, itF_ap, itA_ap, nilS_ap, bkS_ap, ctS_ap, seqS_ap, seqK_nx, seqK_rt, seqK_bk, seqK_ct, dropS_ap, dropK_ap, retS_ap, retK_ap, retN_ap, ifS_ap, ifK_ap, setS_ap, setK_ap, asgS_ap, asgK_ap, asgJ_ap, nameG_ap, nilG_ap, consG_ap, consGK_ap, fnF_ap, fnK_nx, fnK_rt, forS_ap, forK_ap, negD_ap, addI_ap, varK_ap, startE, yes2, isN, List.map_cons, List.map_nil, List.length_cons, List.length_nil, List.replicate, List.append_nil, List.cons_append, List.nil_append, List.getElem?_cons_zero, List.getElem?_cons_succ, List.set_cons_zero, List.set_cons_succ, R.bind_ok, R.bind_ex, R.bind_bad, R.noex_ok, if_true, if_false, Bool.false_eq_true, Bool.true_eq_false, ite_true, ite_false, reduceIte, Nat.reduceAdd, Nat.reduceSub, Nat.zero_add, Nat.sub_self, Nat.sub_zero, decide_true, decide_false, Bool.not_true, Bool.not_false, subD_ap, ltD_ap, leD_ap, gtD_ap, geD_ap, mulD_ap, modD_ap, divD_ap, powD_ap, tupK_ok, lstK_ok, methK_ok, tupG_ok, eqS_t, eqS_f, neS_t, neS_f, eqI_ap, neI_ap, inT_nil, inT_hit, inT_miss, ne_eq, not_false_eq_true, ↓q]
theorem law_fin48 (h : TI lw r ns es U) (hz : es.length ≤ 1000) :
    ∃ T, (seqS (lockS (varF 3) (setS 11 (q0_law)))
    (seqS (lockS (varF 3) (setS 12 (q1_law)))
    (retS (andV (opF (eqX false) (methO "Keeper" "kept" f_Keeper_kept (varF 1) nilA) (varF 11)) (andV (opF (eqX false) (methO "Keeper" "nodes" f_Keeper_nodes (varF 1) nilA) (varF 12)) (opF eqD (methO "Keeper" "depth" f_Keeper_depth (varF 1) nilA) (cF (.int 0)))))))) [some (.ref 0), some (.ref 1), some (.ref r), some (.ref lw), z4, z5, z6, z7, z8, z9, z10, z11, z12] U = .ok (.rt (.bl true)) T := by
  obtain ⟨ds, j, e1, kl⟩ := comp_kept (z4 := z4) (z5 := z5) (z6 := z6) (z7 := z7) (z8 := z8) (z9 := z9) (z10 := z10) (z11 := z11) (z12 := z12) h hz
  obtain ⟨U1, hU1⟩ : ∃ V, V = U ++ VL.O.lst ds :: j := ⟨_, rfl⟩
  have L1 : Le U U1 := hU1 ▸ Le.app _ _
  have g1 : U1[U.length]? = some (.lst ds) := hU1 ▸ get_at
  rw [← hU1] at e1 kl
  have h1 := h.kp (Kp.le L1)
  obtain ⟨j2, e2⟩ := comp_nodes (z4 := z4) (z5 := z5) (z6 := z6) (z7 := z7) (z8 := z8) (z9 := z9) (z10 := z10) (z11 := some (.ref U.length)) (z12 := z12) h1 hz
  obtain ⟨U2, hU2⟩ : ∃ V, V = U1 ++ VL.O.lst (es.map fun e => tnd e.n e.w) :: j2 := ⟨_, rfl⟩
  have L2' : Le U1 U2 := hU2 ▸ Le.app _ _
  have g2 : U2[U1.length]? = some (.lst (es.map fun e => tnd e.n e.w)) := hU2 ▸ get_at
  rw [← hU2] at e2
  have h2 := h1.kp (Kp.le L2')
  obtain ⟨rk, dk, U3, e3, g3, k3, q3, _⟩ := kept_ok h2.k.ks h2.k.nd hz
  have kp3 : KL es ds U3 := ⟨kl.1, fun k e he => by
    obtain ⟨x, hx, gx⟩ := kl.2 k e he
    exact ⟨x, hx, q3 _ _ (by simp) (L2'.get gx)⟩⟩
  have nm : ∀ e ∈ es, isNm e.n = true := fun e he => (h.k.nm e he).1
  have x1 := eqX_same (res_kept g3 k3) (res_kept (q3 _ _ (by simp) (L2'.get g1)) kp3) (shaped_k nm)
  have h3 := h2.kp q3
  have e4 := nodes_ok h3.k.ks
  obtain ⟨U4, hU4⟩ : ∃ V, V = U3 ++ [VL.O.lst (es.map fun e => tnd e.n e.w)] := ⟨_, rfl⟩
  have L4 : Le U3 U4 := hU4 ▸ Le.app _ _
  rw [← hU4] at e4
  have x2 := eqX_same (res_nodes (hU4 ▸ get_last : U4[U3.length]? = some (.lst (es.map fun e => tnd e.n e.w)))) (res_nodes (L4.get (q3 _ _ (by simp) g2))) (shaped_n nm)
  have h4 := h3.kp (Kp.le L4)
  have e5 := depth_ok h4.k.ks
  have m1 := fun fa env => methO_at (c := "Keeper") (m := "kept") (fn := f_Keeper_kept) (fo := varF 1) (fa := fa) (env := some (.ref 0) :: some (.ref 1) :: env) (st := U2) (n := 1) rfl h2.k.ks.k (by decide)
  have m2 := fun fa env => methO_at (c := "Keeper") (m := "nodes") (fn := f_Keeper_nodes) (fo := varF 1) (fa := fa) (env := some (.ref 0) :: some (.ref 1) :: env) (st := U3) (n := 1) rfl h3.k.ks.k (by decide)
  have m3 := fun fa env => methO_at (c := "Keeper") (m := "depth") (fn := f_Keeper_depth) (fo := varF 1) (fa := fa) (env := some (.ref 0) :: some (.ref 1) :: env) (st := U4) (n := 1) rfl h4.k.ks.k (by decide)
  exact ⟨U4, by simp -implicitDefEqProofs +decide only [varF_ap, cF_ap, opF_ap, opK_ap, bF_ap, boolK_ap, andT_ap, andK_ap, orT_ap, orK_ap, notT_ap, notK_ap, yesT_ap, andV_ap, andVK_ap, orV_ap, orVK_ap, notV_ap, notVK_ap, ifF_ap, ifFK_ap, nilA_ap, consA_ap, consK_ap, consJ_ap, tupA_ap, lstA_ap, newO_ap, dicF_ap, callF_ap, un1_ap, methF_ap, nonO_ap, someO_ap, someK_ap, slF_ap, slK_ap, slJ_ap, itF_ap, itA_ap, nilS_ap, bkS_ap, ctS_ap, seqS_ap, seqK_nx, seqK_rt, seqK_bk, seqK_ct, dropS_ap, dropK_ap, retS_ap, retK_ap, retN_ap, ifS_ap, ifK_ap, setS_ap, setK_ap, asgS_ap, asgK_ap, asgJ_ap, nameG_ap, nilG_ap, consG_ap, consGK_ap, fnF_ap, fnK_nx, fnK_rt, forS_ap, forK_ap, negD_ap, addI_ap, varK_ap, startE, yes2, isN, List.map_cons, List.map_nil, List.length_cons, List.length_nil, List.replicate, List.append_nil, List.cons_append, List.nil_append, List.getElem?_cons_zero, List.getElem?_cons_succ, List.set_cons_zero, List.set_cons_succ, R.bind_ok, R.bind_ex, R.bind_bad, R.noex_ok, if_true, if_false, Bool.false_eq_true, Bool.true_eq_false, ite_true, ite_false, reduceIte, Nat.reduceAdd, Nat.reduceSub, Nat.zero_add, Nat.sub_self, Nat.sub_zero, decide_true, decide_false, Bool.not_true, Bool.not_false, subD_ap, ltD_ap, leD_ap, gtD_ap, geD_ap, mulD_ap, modD_ap, divD_ap, powD_ap, tupK_ok, lstK_ok, methK_ok, tupG_ok, eqS_t, eqS_f, neS_t, neS_f, eqI_ap, neI_ap, inT_nil, inT_hit, inT_miss, ne_eq, not_false_eq_true, ↓e1, ↓e2, m1, fnC_ap, e3, x1, m2, e4, x2, m3, e5]⟩
end
theorem true_law : ∀ ns : List Int, ns.length ≤ 63 → ∃ st, f_law [.ref 0] [.rl (ns.map VL.D.int)] = .ok (.bl true) st := fun sc hsc => by
  have kn := fun env => keeper_new (o := VL.O.rl (sc.map VL.D.int)) (env := env)
  have ki := ki_new (o := VL.O.rl (sc.map VL.D.int))
  have h0 : listAt (k0S (VL.O.rl (sc.map VL.D.int))) 0 = some (sc.map VL.D.int) := rfl
  have k16 : (k0S (VL.O.rl (sc.map VL.D.int))).length = 16 := rfl
  generalize [VL.O.rl (sc.map VL.D.int)] = Z at kn
  generalize k0S (VL.O.rl (sc.map VL.D.int)) = T0 at kn ki h0 k16
  have ca : f__law_cell_at [.ref 0, .int 0] T0 = .ok (.int (sc.getD 0 0)) T0 := cell_at_ok (k := 0) h0
  obtain ⟨r, ns, T1, en, gr, n7, hn, L1, r16⟩ := names_ok (c := sc.getD 0 0) (T := T0)
  obtain ⟨T2, hT2⟩ : ∃ V, V = T1 ++ [VL.O.dic []] := ⟨_, rfl⟩
  have L2' : Le T1 T2 := hT2 ▸ Le.app _ _
  have rl : r < T1.length := (List.getElem?_eq_some_iff.mp gr).1
  have ti : TI T1.length r ns [] T2 := ⟨ki.kp (Kp.le (L1.trans L2')), hT2 ▸ get_last, L2'.get gr, by omega, by omega, by omega, fun e he => nomatch he⟩
  have sl := slD_list (lo := some 1) (hi := some 85) (L2'.listAt (L1.listAt h0))
  obtain ⟨ms, hms, ml⟩ : ∃ ms : List Int, cutD (sc.map .int) (some 1) (some 85) = ms.map .int ∧ ms.length ≤ 63 := ⟨(sc.drop (HT.sIx (sc.map VL.D.int).length 0 (some 1))).take (HT.sIx (sc.map VL.D.int).length (sc.map VL.D.int).length (some 85) - HT.sIx (sc.map VL.D.int).length 0 (some 1)), by unfold cutD; rw [← List.map_drop, ← List.map_take], by rw [List.length_take, List.length_drop]; omega⟩
  rw [hms] at sl
  obtain ⟨T3, hT3⟩ : ∃ V, V = T2 ++ [VL.O.lst (ms.map .int)] := ⟨_, rfl⟩
  rw [← hT3] at sl
  have L3 : Le T2 T3 := hT3 ▸ Le.app _ _
  have l2 : T2.length = T1.length + 1 := by rw [hT2, List.length_append]; rfl
  have g3 : T3[T2.length]? = some (.lst (ms.map .int)) := hT3 ▸ get_last
  have it := itD_list (listAt_lst g3)
  have t3 := ti.kp (Kp.le L3)
  obtain ⟨e', T4, fl, es, y4, y5, y6, y7, y8, y9, y10, he, t4, el, _⟩ := forL_inv (c := chkAt T3 T2.length) (gf := nameG 4) (b := l0_law) (ds := ms.map .int) (env := [some (.ref 0), some (.ref 1), some (.ref r), some (.ref T1.length), none, none, none, none, none, none, none, none, none]) (st := T3)
    (fun i env V => ∃ es y4 y5 y6 y7 y8 y9 y10, env = [some (.ref 0), some (.ref 1), some (.ref r), some (.ref T1.length), y4, y5, y6, y7, y8, y9, y10, none, none] ∧ TI T1.length r ns es V ∧ es.length ≤ i ∧ V[T2.length]? = some (.lst (ms.map .int))) ⟨[], none, none, none, none, none, none, none, rfl, t3, Nat.le_refl _, g3⟩
    (fun _ _ V ⟨_, _, _, _, _, _, _, _, _, _, _, g⟩ => by unfold chkAt; rw [g3]; exact ChkOk.one g) fun i x env V hx ⟨es, y4, y5, y6, y7, y8, y9, y10, he, ti, el, g⟩ => by
      subst he
      have il : i < ms.length := by
        have := (List.getElem?_eq_some_iff.mp hx).1
        rwa [List.length_map] at this
      rw [List.getElem?_map] at hx
      obtain ⟨c, _, rfl⟩ := Option.map_eq_some_iff.mp hx
      obtain ⟨z5, z6, z7, z8, z9, z10, es', V', e, t', el', qV⟩ := turn_ok (c := c) (z5 := y5) (z6 := y6) (z7 := y7) (z8 := y8) (z9 := y9) (z10 := y10) (z11 := none) (z12 := none) ti n7 hn (by omega)
      have gV := qV _ _ (by simp; omega) g
      exact ⟨[some (.ref 0), some (.ref 1), some (.ref r), some (.ref T1.length), some (.int c), y5, y6, y7, y8, y9, y10, none, none], V, _, V', rfl, e, es', _, _, _, _, _, _, _, rfl, t', by omega, gV⟩
  subst he
  rw [List.length_map] at el
  obtain ⟨T5, fin⟩ := law_fin48 (z4 := y4) (z5 := y5) (z6 := y6) (z7 := y7) (z8 := y8) (z9 := y9) (z10 := y10) (z11 := none) (z12 := none) t4 (by omega)
  have dc : ∀ env, dicF env T1 = .ok (.ref T1.length) T2 := fun env => by rw [dicF_ap, hT2]
  exact ⟨T5, by simp -implicitDefEqProofs +decide only [varF_ap, cF_ap, opF_ap, opK_ap, bF_ap, boolK_ap, andT_ap, andK_ap, orT_ap, orK_ap, notT_ap, notK_ap, yesT_ap, andV_ap, andVK_ap, orV_ap, orVK_ap, notV_ap, notVK_ap, ifF_ap, ifFK_ap, nilA_ap, consA_ap, consK_ap, consJ_ap, tupA_ap, lstA_ap, newO_ap, dicF_ap, callF_ap, un1_ap, methF_ap, nonO_ap, someO_ap, someK_ap, slF_ap, slK_ap, slJ_ap, itF_ap, itA_ap, nilS_ap, bkS_ap, ctS_ap, seqS_ap, seqK_nx, seqK_rt, seqK_bk, seqK_ct, dropS_ap, dropK_ap, retS_ap, retK_ap, retN_ap, ifS_ap, ifK_ap, setS_ap, setK_ap, asgS_ap, asgK_ap, asgJ_ap, nameG_ap, nilG_ap, consG_ap, consGK_ap, fnF_ap, fnK_nx, fnK_rt, forS_ap, forK_ap, negD_ap, addI_ap, varK_ap, startE, yes2, isN, List.map_cons, List.map_nil, List.length_cons, List.length_nil, List.replicate, List.append_nil, List.cons_append, List.nil_append, List.getElem?_cons_zero, List.getElem?_cons_succ, List.set_cons_zero, List.set_cons_succ, R.bind_ok, R.bind_ex, R.bind_bad, R.noex_ok, if_true, if_false, Bool.false_eq_true, Bool.true_eq_false, ite_true, ite_false, reduceIte, Nat.reduceAdd, Nat.reduceSub, Nat.zero_add, Nat.sub_self, Nat.sub_zero, decide_true, decide_false, Bool.not_true, Bool.not_false, subD_ap, ltD_ap, leD_ap, gtD_ap, geD_ap, mulD_ap, modD_ap, divD_ap, powD_ap, tupK_ok, lstK_ok, methK_ok, tupG_ok, eqS_t, eqS_f, neS_t, neS_f, eqI_ap, neI_ap, inT_nil, inT_hit, inT_miss, ne_eq, not_false_eq_true, f_law, b_law, ↓kn, ca, en, ↓dc, sl, it, fl, ↓fin]⟩
end Law
namespace Law
open PySem PySem.Spec PyProof.Rows L2 VL RZ RT
def topS (i : Nat) : Stmt := PySem.Challenge.pw_viewkeep_k48_tables_and_names.main.body.getD i (.Pass ⟨0, 0, 0, 0⟩)
abbrev s_is_whole : Stmt := topS 2
theorem sc_is_whole : FnScope ["thing"] ["thing"] (defScope s_is_whole) := ⟨rfl, rfl, rfl, by decide +kernel, rfl, by decide +kernel, by decide +kernel⟩
abbrev s_told : Stmt := topS 14
theorem sc_told : FnScope ["bag", "row", "count"] ["bag"] (defScope s_told) := ⟨rfl, rfl, rfl, by decide +kernel, rfl, by decide +kernel, by decide +kernel⟩
abbrev s_Net___init__ : Stmt := inClass (topS 88) 0
theorem sc_Net___init__ : FnScope ["self"] ["self"] (defScope s_Net___init__) := ⟨rfl, rfl, rfl, by decide +kernel, rfl, by decide +kernel, by decide +kernel⟩
abbrev s_Net_put : Stmt := inClass (topS 88) 1
theorem sc_Net_put : FnScope ["self", "node", "width"] ["self", "node", "width"] (defScope s_Net_put) := ⟨rfl, rfl, rfl, by decide +kernel, rfl, by decide +kernel, by decide +kernel⟩
abbrev s_Net_nodes : Stmt := inClass (topS 88) 7
theorem sc_Net_nodes : FnScope ["self"] ["self"] (defScope s_Net_nodes) := ⟨rfl, rfl, rfl, by decide +kernel, rfl, by decide +kernel, by decide +kernel⟩
abbrev s_Machine_rows_of : Stmt := inClass (topS 101) 6
theorem sc_Machine_rows_of : FnScope ["self", "k"] ["self", "k"] (defScope s_Machine_rows_of) := ⟨rfl, rfl, rfl, by decide +kernel, rfl, by decide +kernel, by decide +kernel⟩
abbrev s_Machine_memory : Stmt := inClass (topS 101) 7
theorem sc_Machine_memory : FnScope ["self", "k"] ["self", "k"] (defScope s_Machine_memory) := ⟨rfl, rfl, rfl, by decide +kernel, rfl, by decide +kernel, by decide +kernel⟩
abbrev s_is_name : Stmt := topS 105
theorem sc_is_name : FnScope ["thing", "sign"] ["thing"] (defScope s_is_name) := ⟨rfl, rfl, rfl, by decide +kernel, rfl, by decide +kernel, by decide +kernel⟩
abbrev s_Keeper_put_down : Stmt := inClass (topS 154) 2
theorem sc_Keeper_put_down : FnScope ["self", "name", "spot", "width", "many"] ["self", "name", "spot", "width", "many"] (defScope s_Keeper_put_down) := ⟨rfl, rfl, rfl, by decide +kernel, rfl, by decide +kernel, by decide +kernel⟩
abbrev s_Keeper_depth : Stmt := inClass (topS 154) 15
theorem sc_Keeper_depth : FnScope ["self"] ["self"] (defScope s_Keeper_depth) := ⟨rfl, rfl, rfl, by decide +kernel, rfl, by decide +kernel, by decide +kernel⟩
abbrev s__law_cell_at : Stmt := topS 156
theorem sc__law_cell_at : FnScope ["_law_script", "_law_k"] ["_law_script", "_law_k"] (defScope s__law_cell_at) := ⟨rfl, rfl, rfl, by decide +kernel, rfl, by decide +kernel, by decide +kernel⟩
abbrev s__law_mixed : Stmt := topS 157
theorem sc__law_mixed : FnScope ["_law_cell", "_law_k", "_law_one"] ["_law_cell", "_law_k"] (defScope s__law_mixed) := ⟨rfl, rfl, rfl, by decide +kernel, rfl, by decide +kernel, by decide +kernel⟩
abbrev s__law_which : Stmt := topS 159
theorem sc__law_which : FnScope ["_law_e", "_law_kinds"] ["_law_e"] (defScope s__law_which) := ⟨rfl, rfl, rfl, by decide +kernel, rfl, by decide +kernel, by decide +kernel⟩
abbrev s__law_no_name : Stmt := topS 160
theorem sc__law_no_name : FnScope ["_law_way", "_law_name", "_law_some"] ["_law_way", "_law_name"] (defScope s__law_no_name) := ⟨rfl, rfl, rfl, by decide +kernel, rfl, by decide +kernel, by decide +kernel⟩
abbrev s__law_no_width : Stmt := topS 161
theorem sc__law_no_width : FnScope ["_law_cell", "_law_many", "_law_some"] ["_law_cell"] (defScope s__law_no_width) := ⟨rfl, rfl, rfl, by decide +kernel, rfl, by decide +kernel, by decide +kernel⟩
abbrev s__law_due : Stmt := topS 165
theorem sc__law_due : FnScope ["_law_name", "_law_width", "_law_widths", "_law_odd"] ["_law_name", "_law_width", "_law_widths", "_law_odd"] (defScope s__law_due) := ⟨rfl, rfl, rfl, by decide +kernel, rfl, by decide +kernel, by decide +kernel⟩
abbrev s_Net_table : Stmt := inClass (topS 88) 2
theorem sc_Net_table : FnScope ["self", "name", "width"] ["self", "name", "width"] (defScope s_Net_table) := ⟨rfl, rfl, rfl, by decide +kernel, rfl, by decide +kernel, by decide +kernel⟩
abbrev s_Machine_nodes : Stmt := inClass (topS 101) 4
theorem sc_Machine_nodes : FnScope ["self"] ["self"] (defScope s_Machine_nodes) := ⟨rfl, rfl, rfl, by decide +kernel, rfl, by decide +kernel, by decide +kernel⟩
abbrev s_Keeper_not_taken : Stmt := inClass (topS 154) 1
theorem sc_Keeper_not_taken : FnScope ["self", "name"] ["self", "name"] (defScope s_Keeper_not_taken) := ⟨rfl, rfl, rfl, by decide +kernel, rfl, by decide +kernel, by decide +kernel⟩
abbrev s_Keeper_node : Stmt := inClass (topS 154) 9
theorem sc_Keeper_node : FnScope ["self", "name"] ["self", "name"] (defScope s_Keeper_node) := ⟨rfl, rfl, rfl, by decide +kernel, rfl, by decide +kernel, by decide +kernel⟩
abbrev s_Keeper_memory : Stmt := inClass (topS 154) 17
theorem sc_Keeper_memory : FnScope ["self", "k"] ["self", "k"] (defScope s_Keeper_memory) := ⟨rfl, rfl, rfl, by decide +kernel, rfl, by decide +kernel, by decide +kernel⟩
abbrev s_Keeper_kept : Stmt := inClass (topS 154) 18
theorem sc_Keeper_kept : FnScope ["self", "found", "name", "spot"] ["self"] (defScope s_Keeper_kept) := ⟨rfl, rfl, rfl, by decide +kernel, rfl, by decide +kernel, by decide +kernel⟩
abbrev s__law_names : Stmt := topS 158
theorem sc__law_names : FnScope ["_law_cell", "_law_many", "_law_letters", "_law_base", "_law_k", "_law_at", "_law_names_here", "_law_name", "_law_j"] ["_law_cell", "_law_many"] (defScope s__law_names) := ⟨rfl, rfl, rfl, by decide +kernel, rfl, by decide +kernel, by decide +kernel⟩
abbrev s_Machine___init__ : Stmt := inClass (topS 101) 0
theorem sc_Machine___init__ : FnScope ["self"] ["self"] (defScope s_Machine___init__) := ⟨rfl, rfl, rfl, by decide +kernel, rfl, by decide +kernel, by decide +kernel⟩
abbrev s_Machine_table : Stmt := inClass (topS 101) 1
theorem sc_Machine_table : FnScope ["self", "name", "width", "number"] ["self", "name", "width"] (defScope s_Machine_table) := ⟨rfl, rfl, rfl, by decide +kernel, rfl, by decide +kernel, by decide +kernel⟩
abbrev s_Keeper_ask : Stmt := inClass (topS 154) 10
theorem sc_Keeper_ask : FnScope ["self", "name"] ["self", "name"] (defScope s_Keeper_ask) := ⟨rfl, rfl, rfl, by decide +kernel, rfl, by decide +kernel, by decide +kernel⟩
abbrev s_Keeper_told : Stmt := inClass (topS 154) 11
theorem sc_Keeper_told : FnScope ["self", "name"] ["self", "name"] (defScope s_Keeper_told) := ⟨rfl, rfl, rfl, by decide +kernel, rfl, by decide +kernel, by decide +kernel⟩
abbrev s_Keeper_plainly : Stmt := inClass (topS 154) 12
theorem sc_Keeper_plainly : FnScope ["self", "name", "stocks", "widths", "other", "spot"] ["self", "name"] (defScope s_Keeper_plainly) := ⟨rfl, rfl, rfl, by decide +kernel, rfl, by decide +kernel, by decide +kernel⟩
abbrev s_Keeper_width : Stmt := inClass (topS 154) 13
theorem sc_Keeper_width : FnScope ["self", "name"] ["self", "name"] (defScope s_Keeper_width) := ⟨rfl, rfl, rfl, by decide +kernel, rfl, by decide +kernel, by decide +kernel⟩
abbrev s_Keeper_size : Stmt := inClass (topS 154) 14
theorem sc_Keeper_size : FnScope ["self", "name"] ["self", "name"] (defScope s_Keeper_size) := ⟨rfl, rfl, rfl, by decide +kernel, rfl, by decide +kernel, by decide +kernel⟩
abbrev s_Keeper_nodes : Stmt := inClass (topS 154) 16
theorem sc_Keeper_nodes : FnScope ["self"] ["self"] (defScope s_Keeper_nodes) := ⟨rfl, rfl, rfl, by decide +kernel, rfl, by decide +kernel, by decide +kernel⟩
abbrev s_Keeper_table : Stmt := inClass (topS 154) 3
theorem sc_Keeper_table : FnScope ["self", "name", "width"] ["self", "name", "width"] (defScope s_Keeper_table) := ⟨rfl, rfl, rfl, by decide +kernel, rfl, by decide +kernel, by decide +kernel⟩
abbrev s__law_asked : Stmt := topS 163
theorem sc__law_asked : FnScope ["_law_keeper", "_law_name", "_law_way", "_law_e"] ["_law_keeper", "_law_name", "_law_way"] (defScope s__law_asked) := ⟨rfl, rfl, rfl, by decide +kernel, rfl, by decide +kernel, by decide +kernel⟩
abbrev s_Keeper___init__ : Stmt := inClass (topS 154) 0
theorem sc_Keeper___init__ : FnScope ["self"] ["self"] (defScope s_Keeper___init__) := ⟨rfl, rfl, rfl, by decide +kernel, rfl, by decide +kernel, by decide +kernel⟩
abbrev s__law_made : Stmt := topS 162
theorem sc__law_made : FnScope ["_law_keeper", "_law_name", "_law_width", "_law_found", "_law_e"] ["_law_keeper", "_law_name", "_law_width"] (defScope s__law_made) := ⟨rfl, rfl, rfl, by decide +kernel, rfl, by decide +kernel, by decide +kernel⟩
abbrev s__law_look : Stmt := topS 164
theorem sc__law_look : FnScope ["_law_keeper", "_law_name", "_law_widths", "_law_known", "_law_due_here", "_law_way", "_law_found"] ["_law_keeper", "_law_name", "_law_widths", "_law_known"] (defScope s__law_look) := ⟨rfl, rfl, rfl, by decide +kernel, rfl, by decide +kernel, by decide +kernel⟩
abbrev s_law : Stmt := topS 166
theorem sc_law : FnScope ["_law_script", "_law_keeper", "_law_names_here", "_law_widths", "_law_cell", "_law_way", "_law_name", "_law_width", "_law_odd", "_law_due_here", "_law_other", "_law_kept", "_law_nodes"] ["_law_script"] (defScope s_law) := ⟨rfl, rfl, rfl, by decide +kernel, rfl, by decide +kernel, by decide +kernel⟩
structure Tx (K : PySem.W.Frag) (mg : Str → Option Value) where
  a_is_whole : Addr
  d_is_whole : FuncData
  F_is_whole : Fun K "is_whole" "is_whole" s_is_whole a_is_whole d_is_whole
  g_is_whole : mg "is_whole" = some (.ref a_is_whole)
  b_is_whole : Binds K d_is_whole ["thing"] []
  a_told : Addr
  d_told : FuncData
  F_told : Fun K "told" "told" s_told a_told d_told
  g_told : mg "told" = some (.ref a_told)
  b_told : Binds K d_told ["bag"] []
  a_Net___init__ : Addr
  d_Net___init__ : FuncData
  F_Net___init__ : Fun K "__init__" "Net.__init__" s_Net___init__ a_Net___init__ d_Net___init__
  b_Net___init__ : Binds K d_Net___init__ ["self"] []
  a_Net_put : Addr
  d_Net_put : FuncData
  F_Net_put : Fun K "put" "Net.put" s_Net_put a_Net_put d_Net_put
  b_Net_put : Binds K d_Net_put ["self", "node", "width"] []
  a_Net_nodes : Addr
  d_Net_nodes : FuncData
  F_Net_nodes : Fun K "nodes" "Net.nodes" s_Net_nodes a_Net_nodes d_Net_nodes
  b_Net_nodes : Binds K d_Net_nodes ["self"] []
  a_Machine_rows_of : Addr
  d_Machine_rows_of : FuncData
  F_Machine_rows_of : Fun K "rows_of" "Machine.rows_of" s_Machine_rows_of a_Machine_rows_of d_Machine_rows_of
  b_Machine_rows_of : Binds K d_Machine_rows_of ["self", "k"] []
  a_Machine_memory : Addr
  d_Machine_memory : FuncData
  F_Machine_memory : Fun K "memory" "Machine.memory" s_Machine_memory a_Machine_memory d_Machine_memory
  b_Machine_memory : Binds K d_Machine_memory ["self", "k"] []
  a_is_name : Addr
  d_is_name : FuncData
  F_is_name : Fun K "is_name" "is_name" s_is_name a_is_name d_is_name
  g_is_name : mg "is_name" = some (.ref a_is_name)
  b_is_name : Binds K d_is_name ["thing"] []
  a_Keeper_put_down : Addr
  d_Keeper_put_down : FuncData
  F_Keeper_put_down : Fun K "put_down" "Keeper.put_down" s_Keeper_put_down a_Keeper_put_down d_Keeper_put_down
  b_Keeper_put_down : Binds K d_Keeper_put_down ["self", "name", "spot", "width", "many"] []
  a_Keeper_depth : Addr
  d_Keeper_depth : FuncData
  F_Keeper_depth : Fun K "depth" "Keeper.depth" s_Keeper_depth a_Keeper_depth d_Keeper_depth
  b_Keeper_depth : Binds K d_Keeper_depth ["self"] []
  a__law_cell_at : Addr
  d__law_cell_at : FuncData
  F__law_cell_at : Fun K "_law_cell_at" "_law_cell_at" s__law_cell_at a__law_cell_at d__law_cell_at
  g__law_cell_at : mg "_law_cell_at" = some (.ref a__law_cell_at)
  b__law_cell_at : Binds K d__law_cell_at ["_law_script", "_law_k"] []
  a__law_mixed : Addr
  d__law_mixed : FuncData
  F__law_mixed : Fun K "_law_mixed" "_law_mixed" s__law_mixed a__law_mixed d__law_mixed
  g__law_mixed : mg "_law_mixed" = some (.ref a__law_mixed)
  b__law_mixed : Binds K d__law_mixed ["_law_cell", "_law_k"] []
  a__law_which : Addr
  d__law_which : FuncData
  F__law_which : Fun K "_law_which" "_law_which" s__law_which a__law_which d__law_which
  g__law_which : mg "_law_which" = some (.ref a__law_which)
  b__law_which : Binds K d__law_which ["_law_e"] []
  a__law_no_name : Addr
  d__law_no_name : FuncData
  F__law_no_name : Fun K "_law_no_name" "_law_no_name" s__law_no_name a__law_no_name d__law_no_name
  g__law_no_name : mg "_law_no_name" = some (.ref a__law_no_name)
  b__law_no_name : Binds K d__law_no_name ["_law_way", "_law_name"] []
  a__law_no_width : Addr
  d__law_no_width : FuncData
  F__law_no_width : Fun K "_law_no_width" "_law_no_width" s__law_no_width a__law_no_width d__law_no_width
  g__law_no_width : mg "_law_no_width" = some (.ref a__law_no_width)
  b__law_no_width : Binds K d__law_no_width ["_law_cell"] []
  a__law_due : Addr
  d__law_due : FuncData
  F__law_due : Fun K "_law_due" "_law_due" s__law_due a__law_due d__law_due
  g__law_due : mg "_law_due" = some (.ref a__law_due)
  b__law_due : Binds K d__law_due ["_law_name", "_law_width", "_law_widths", "_law_odd"] []
  a_Net_table : Addr
  d_Net_table : FuncData
  F_Net_table : Fun K "table" "Net.table" s_Net_table a_Net_table d_Net_table
  b_Net_table : Binds K d_Net_table ["self", "name", "width"] []
  a_Machine_nodes : Addr
  d_Machine_nodes : FuncData
  F_Machine_nodes : Fun K "nodes" "Machine.nodes" s_Machine_nodes a_Machine_nodes d_Machine_nodes
  b_Machine_nodes : Binds K d_Machine_nodes ["self"] []
  a_Keeper_not_taken : Addr
  d_Keeper_not_taken : FuncData
  F_Keeper_not_taken : Fun K "not_taken" "Keeper.not_taken" s_Keeper_not_taken a_Keeper_not_taken d_Keeper_not_taken
  b_Keeper_not_taken : Binds K d_Keeper_not_taken ["self", "name"] []
  a_Keeper_node : Addr
  d_Keeper_node : FuncData
  F_Keeper_node : Fun K "node" "Keeper.node" s_Keeper_node a_Keeper_node d_Keeper_node
  b_Keeper_node : Binds K d_Keeper_node ["self", "name"] []
  a_Keeper_memory : Addr
  d_Keeper_memory : FuncData
  F_Keeper_memory : Fun K "memory" "Keeper.memory" s_Keeper_memory a_Keeper_memory d_Keeper_memory
  b_Keeper_memory : Binds K d_Keeper_memory ["self", "k"] []
  a_Keeper_kept : Addr
  d_Keeper_kept : FuncData
  F_Keeper_kept : Fun K "kept" "Keeper.kept" s_Keeper_kept a_Keeper_kept d_Keeper_kept
  b_Keeper_kept : Binds K d_Keeper_kept ["self"] []
  a__law_names : Addr
  d__law_names : FuncData
  F__law_names : Fun K "_law_names" "_law_names" s__law_names a__law_names d__law_names
  g__law_names : mg "_law_names" = some (.ref a__law_names)
  b__law_names : Binds K d__law_names ["_law_cell", "_law_many"] []
  a_Machine___init__ : Addr
  d_Machine___init__ : FuncData
  F_Machine___init__ : Fun K "__init__" "Machine.__init__" s_Machine___init__ a_Machine___init__ d_Machine___init__
  b_Machine___init__ : Binds K d_Machine___init__ ["self"] []
  a_Machine_table : Addr
  d_Machine_table : FuncData
  F_Machine_table : Fun K "table" "Machine.table" s_Machine_table a_Machine_table d_Machine_table
  b_Machine_table : Binds K d_Machine_table ["self", "name", "width"] []
  a_Keeper_ask : Addr
  d_Keeper_ask : FuncData
  F_Keeper_ask : Fun K "ask" "Keeper.ask" s_Keeper_ask a_Keeper_ask d_Keeper_ask
  b_Keeper_ask : Binds K d_Keeper_ask ["self", "name"] []
  a_Keeper_told : Addr
  d_Keeper_told : FuncData
  F_Keeper_told : Fun K "told" "Keeper.told" s_Keeper_told a_Keeper_told d_Keeper_told
  b_Keeper_told : Binds K d_Keeper_told ["self", "name"] []
  a_Keeper_plainly : Addr
  d_Keeper_plainly : FuncData
  F_Keeper_plainly : Fun K "plainly" "Keeper.plainly" s_Keeper_plainly a_Keeper_plainly d_Keeper_plainly
  b_Keeper_plainly : Binds K d_Keeper_plainly ["self", "name"] []
  a_Keeper_width : Addr
  d_Keeper_width : FuncData
  F_Keeper_width : Fun K "width" "Keeper.width" s_Keeper_width a_Keeper_width d_Keeper_width
  b_Keeper_width : Binds K d_Keeper_width ["self", "name"] []
  a_Keeper_size : Addr
  d_Keeper_size : FuncData
  F_Keeper_size : Fun K "size" "Keeper.size" s_Keeper_size a_Keeper_size d_Keeper_size
  b_Keeper_size : Binds K d_Keeper_size ["self", "name"] []
  a_Keeper_nodes : Addr
  d_Keeper_nodes : FuncData
  F_Keeper_nodes : Fun K "nodes" "Keeper.nodes" s_Keeper_nodes a_Keeper_nodes d_Keeper_nodes
  b_Keeper_nodes : Binds K d_Keeper_nodes ["self"] []
  a_Keeper_table : Addr
  d_Keeper_table : FuncData
  F_Keeper_table : Fun K "table" "Keeper.table" s_Keeper_table a_Keeper_table d_Keeper_table
  b_Keeper_table : Binds K d_Keeper_table ["self", "name", "width"] []
  a__law_asked : Addr
  d__law_asked : FuncData
  F__law_asked : Fun K "_law_asked" "_law_asked" s__law_asked a__law_asked d__law_asked
  g__law_asked : mg "_law_asked" = some (.ref a__law_asked)
  b__law_asked : Binds K d__law_asked ["_law_keeper", "_law_name", "_law_way"] []
  a_Keeper___init__ : Addr
  d_Keeper___init__ : FuncData
  F_Keeper___init__ : Fun K "__init__" "Keeper.__init__" s_Keeper___init__ a_Keeper___init__ d_Keeper___init__
  b_Keeper___init__ : Binds K d_Keeper___init__ ["self"] []
  a__law_made : Addr
  d__law_made : FuncData
  F__law_made : Fun K "_law_made" "_law_made" s__law_made a__law_made d__law_made
  g__law_made : mg "_law_made" = some (.ref a__law_made)
  b__law_made : Binds K d__law_made ["_law_keeper", "_law_name", "_law_width"] []
  a__law_look : Addr
  d__law_look : FuncData
  F__law_look : Fun K "_law_look" "_law_look" s__law_look a__law_look d__law_look
  g__law_look : mg "_law_look" = some (.ref a__law_look)
  b__law_look : Binds K d__law_look ["_law_keeper", "_law_name", "_law_widths", "_law_known"] []
  a_law : Addr
  d_law : FuncData
  F_law : Fun K "law" "law" s_law a_law d_law
  g_law : mg "law" = some (.ref a_law)
  b_law : Binds K d_law ["_law_script"] []
  z_ValueError : mg "ValueError" = none
  z_all : mg "all" = none
  z_bool : mg "bool" = none
  z_dict : mg "dict" = none
  z_int : mg "int" = none
  z_isinstance : mg "isinstance" = none
  z_len : mg "len" = none
  z_list : mg "list" = none
  z_range : mg "range" = none
  z_sorted : mg "sorted" = none
  z_str : mg "str" = none
  e_ViewError : Addr
  x_ViewError : mg "ViewError" = some (.ref e_ViewError)
  e_NoName : Addr
  x_NoName : mg "NoName" = some (.ref e_NoName)
  e_NoPlace : Addr
  x_NoPlace : mg "NoPlace" = some (.ref e_NoPlace)
  e_Unlike : Addr
  x_Unlike : mg "Unlike" = some (.ref e_Unlike)
  e_Wide : Addr
  x_Wide : mg "Wide" = some (.ref e_Wide)
  e_Twice : Addr
  x_Twice : mg "Twice" = some (.ref e_Twice)
  e_NoText : Addr
  x_NoText : mg "NoText" = some (.ref e_NoText)
  e_TooLarge : Addr
  x_TooLarge : mg "TooLarge" = some (.ref e_TooLarge)
  e_NoWidth : Addr
  x_NoWidth : mg "NoWidth" = some (.ref e_NoWidth)
  e_NoRow : Addr
  x_NoRow : mg "NoRow" = some (.ref e_NoRow)
  e_NoCount : Addr
  x_NoCount : mg "NoCount" = some (.ref e_NoCount)
  e_Short : Addr
  x_Short : mg "Short" = some (.ref e_Short)
  e_NoChange : Addr
  x_NoChange : mg "NoChange" = some (.ref e_NoChange)
  r_NoName : ExcR K e_NoName [.type "ValueError", .type "Exception", .type "BaseException", .type "object"] "ValueError.__new__"
  r_Twice : ExcR K e_Twice [.type "ValueError", .type "Exception", .type "BaseException", .type "object"] "ValueError.__new__"
  r_NoWidth : ExcR K e_NoWidth [.type "ValueError", .type "Exception", .type "BaseException", .type "object"] "ValueError.__new__"
  xt : XTab K mg xtab xtabT
  xo : ∀ c, okcX c = true → ∃ D, mg c = some (.ref D) ∧ PySem.W.exmOne K (.ref D) (.ref e_ViewError) = some true
  g_told_bags : mg "told_bags" = some (.ref a_told)
  av_rank : Addr
  gv_rank : mg "rank" = some (.ref av_rank)
  v_LETTERS : ∃ u, mg "LETTERS" = some u ∧ RelV (V.str "abcdefghijklmnopqrstuvwxyz") u
  v_MOST_keeper : ∃ u, mg "MOST_keeper" = some u ∧ RelV (V.int 12) u
  e_Net : Addr
  k_Net : mg "Net" = some (.ref e_Net)
  cl_Net : Cls K e_Net
  mk_Net : Mk K e_Net a_Net___init__
  m_Net_put : Meth K e_Net "put" a_Net_put
  m_Net_nodes : Meth K e_Net "nodes" a_Net_nodes
  m_Net_table : Meth K e_Net "table" a_Net_table
  n_Net_laid : NoAttr K e_Net "laid"
  n_Net_wide : NoAttr K e_Net "wide"
  n_Net_numbers : NoAttr K e_Net "numbers"
  e_Machine : Addr
  k_Machine : mg "Machine" = some (.ref e_Machine)
  cl_Machine : Cls K e_Machine
  mk_Machine : Mk K e_Machine a_Machine___init__
  m_Machine_rows_of : Meth K e_Machine "rows_of" a_Machine_rows_of
  m_Machine_memory : Meth K e_Machine "memory" a_Machine_memory
  m_Machine_nodes : Meth K e_Machine "nodes" a_Machine_nodes
  m_Machine_table : Meth K e_Machine "table" a_Machine_table
  n_Machine_net : NoAttr K e_Machine "net"
  n_Machine_parts : NoAttr K e_Machine "parts"
  n_Machine_bags : NoAttr K e_Machine "bags"
  e_Keeper : Addr
  k_Keeper : mg "Keeper" = some (.ref e_Keeper)
  cl_Keeper : Cls K e_Keeper
  mk_Keeper : Mk K e_Keeper a_Keeper___init__
  m_Keeper_put_down : Meth K e_Keeper "put_down" a_Keeper_put_down
  m_Keeper_depth : Meth K e_Keeper "depth" a_Keeper_depth
  m_Keeper_not_taken : Meth K e_Keeper "not_taken" a_Keeper_not_taken
  m_Keeper_node : Meth K e_Keeper "node" a_Keeper_node
  m_Keeper_memory : Meth K e_Keeper "memory" a_Keeper_memory
  m_Keeper_kept : Meth K e_Keeper "kept" a_Keeper_kept
  m_Keeper_ask : Meth K e_Keeper "ask" a_Keeper_ask
  m_Keeper_told : Meth K e_Keeper "told" a_Keeper_told
  m_Keeper_plainly : Meth K e_Keeper "plainly" a_Keeper_plainly
  m_Keeper_width : Meth K e_Keeper "width" a_Keeper_width
  m_Keeper_size : Meth K e_Keeper "size" a_Keeper_size
  m_Keeper_nodes : Meth K e_Keeper "nodes" a_Keeper_nodes
  m_Keeper_table : Meth K e_Keeper "table" a_Keeper_table
  n_Keeper_machine : NoAttr K e_Keeper "machine"
  n_Keeper_spots : NoAttr K e_Keeper "spots"
  n_Keeper_wides : NoAttr K e_Keeper "wides"
  n_Keeper_sizes : NoAttr K e_Keeper "sizes"
  n_Keeper_texts : NoAttr K e_Keeper "texts"
  n_Keeper_trees : NoAttr K e_Keeper "trees"
  n_Keeper_news : NoAttr K e_Keeper "news"
  n_Keeper_pours : NoAttr K e_Keeper "pours"
section
variable {P : Program} {w : World} {K : PySem.W.Frag} {mg : Str → Option Value} {base : Heap}
theorem ok_is_whole (T : Tx K mg) : FnOk P w K mg base CX0 (1) T.a_is_whole T.d_is_whole ["thing"] (Sp0 ⟨P, w, K, mg, B0⟩ 1 f_is_whole) := by
  refine fn0 T.F_is_whole sc_is_whole rfl rfl fun cdv A outer s H E hr => ?_
  exact (lss_one (ls_ret (le_and (le_callB call_isiD (by rfl) T.z_isinstance (by decide +kernel) (la_cons (le_var (pv 0)) (la_cons (le_ty (by rfl) T.z_int (by decide +kernel)) la_nil))) (le_and1 (le_not (le_callB call_isiD (by rfl) T.z_isinstance (by decide +kernel) (la_cons (le_var (pv 0)) (la_cons (le_ty (by rfl) T.z_bool (by decide +kernel)) la_nil))))))))
theorem ok_told (T : Tx K mg) : FnOk P w K mg base CX0 (1) T.a_told T.d_told ["bag"] (Sp0 ⟨P, w, K, mg, B0⟩ 1 f_told) := by
  refine fn0 T.F_told sc_told rfl rfl fun cdv A outer s H E hr => ?_
  exact (lss_one (ls_ret (le_sort0 (by rfl) T.z_sorted (by decide +kernel) (le_lock (fo := (varF 0)) rfl (le_lc (own := [("row", 1), ("count", 2)]) rfl sc_told.nd (li_items (le_var (pv 0))) (blkOk_by (own := [("row", 1), ("count", 2)]) (N := ["bag", "row", "count"]) (sc := defScope s_told) (by decide +kernel)) (fun _ _ _ _ _ => (lgw_tup rfl (lgws_cons (lgw_name (pg_name (i := 1) sc_told.nd rfl (by first | exact Or.inl rfl | exact Or.inr rfl)) (by decide)) (lgws_cons (lgw_name (pg_name (i := 2) sc_told.nd rfl (by first | exact Or.inl rfl | exact Or.inr rfl)) (by decide)) lgws_nil)))) (fun _ _ _ _ _ => lts_nil) (fun _ _ _ _ _ => (le_tup (la_cons (le_var (pv 1)) (la_cons (le_var (pv 2)) la_nil)))))) (le_glb (by rfl) T.gv_rank))))
theorem ok_Net___init__ (T : Tx K mg) : FnOk P w K mg base CX0 (1) T.a_Net___init__ T.d_Net___init__ ["self"] (Sp0 ⟨P, w, K, mg, B0⟩ 1 f_Net___init__) := by
  refine fn0 T.F_Net___init__ sc_Net___init__ rfl rfl fun cdv A outer s H E hr => ?_
  exact (lss_cons (ls_fset T.cl_Net T.n_Net_laid T.k_Net (le_var (pv 0)) (le_lst la_nil))
    (lss_cons (ls_fset T.cl_Net T.n_Net_wide T.k_Net (le_var (pv 0)) (le_lst la_nil))
    (lss_one (ls_fset T.cl_Net T.n_Net_numbers T.k_Net (le_var (pv 0)) (le_dic pe_dnewK)))))
theorem ok_Net_put (T : Tx K mg) : FnOk P w K mg base CX0 (1) T.a_Net_put T.d_Net_put ["self", "node", "width"] (Sp0 ⟨P, w, K, mg, B0⟩ 3 f_Net_put) := by
  refine fn0 T.F_Net_put sc_Net_put rfl rfl fun cdv A outer s H E hr => ?_
  exact (lss_cons (ls_if (lt_cmp (op_knotin hr.units) (le_var (pv 1)) (le_fld T.cl_Net T.n_Net_numbers T.k_Net (le_var (pv 0))) (by rfl)) (lss_cons (ls_kput rfl hr.units (le_fld T.cl_Net T.n_Net_numbers T.k_Net (le_var (pv 0))) (le_var (pv 1)) (le_callB call_lenD (by rfl) T.z_len (by decide +kernel) (la_cons (le_fld T.cl_Net T.n_Net_laid T.k_Net (le_var (pv 0))) la_nil)))
    (lss_cons (ls_expr (le_bm PySem.F.plainAttrs_list PySem.F.slot_list_append PySem.F.type_list_append mt_appD (le_fld T.cl_Net T.n_Net_laid T.k_Net (le_var (pv 0))) (la_cons (le_var (pv 1)) la_nil)))
    (lss_one (ls_expr (le_bm PySem.F.plainAttrs_list PySem.F.slot_list_append PySem.F.type_list_append mt_appD (le_fld T.cl_Net T.n_Net_wide T.k_Net (le_var (pv 0))) (la_cons (le_var (pv 2)) la_nil)))))) lss_nil)
    (lss_one (ls_ret (le_kix hr.units (le_fld T.cl_Net T.n_Net_numbers T.k_Net (le_var (pv 0))) (le_var (pv 1)) (fun _ _ => rfl)))))
theorem ok_Net_nodes (T : Tx K mg) : FnOk P w K mg base CX0 (1) T.a_Net_nodes T.d_Net_nodes ["self"] (Sp0 ⟨P, w, K, mg, B0⟩ 1 f_Net_nodes) := by
  refine fn0 T.F_Net_nodes sc_Net_nodes rfl rfl fun cdv A outer s H E hr => ?_
  exact (lss_one (ls_ret (le_callTy call_listD (by rfl) T.z_list (by decide +kernel) (la_cons (le_fld T.cl_Net T.n_Net_laid T.k_Net (le_var (pv 0))) la_nil))))
theorem ok_Machine_rows_of (T : Tx K mg) : FnOk P w K mg base CX0 (1) T.a_Machine_rows_of T.d_Machine_rows_of ["self", "k"] (Sp0 ⟨P, w, K, mg, B0⟩ 2 f_Machine_rows_of) := by
  refine fn0 T.F_Machine_rows_of sc_Machine_rows_of rfl rfl fun cdv A outer s H E hr => ?_
  exact (lss_one (ls_ret (le_callTy call_dictDD (by rfl) T.z_dict (by decide +kernel) (la_cons (le_ix ix_D (le_fld T.cl_Machine T.n_Machine_bags T.k_Machine (le_var (pv 0))) (le_var (pv 1)) (fun _ _ => rfl)) la_nil))))
theorem ok_Machine_memory (T : Tx K mg) : FnOk P w K mg base CX0 (1) T.a_Machine_memory T.d_Machine_memory ["self", "k"] (Sp0 ⟨P, w, K, mg, B0⟩ 2 f_Machine_memory) := by
  refine fn0 T.F_Machine_memory sc_Machine_memory rfl rfl fun cdv A outer s H E hr => ?_
  exact (lss_cons (ls_if (lt_cmp op_isND (le_ix ix_D (le_fld T.cl_Machine T.n_Machine_parts T.k_Machine (le_var (pv 0))) (le_var (pv 1)) (fun _ _ => rfl)) le_non (nomark _)) (lss_one (ls_ret (le_lst la_nil))) lss_nil)
    (lss_one ls_bad))
theorem ok_is_name (T : Tx K mg) : FnOk P w K mg base CX0 (1) T.a_is_name T.d_is_name ["thing"] (Sp0 ⟨P, w, K, mg, B0⟩ 1 f_is_name) := by
  refine fn0 T.F_is_name sc_is_name rfl rfl fun cdv A outer s H E hr => ?_
  exact (lss_cons (ls_if (PW.pt (lw_or (lt_not (lt_val (le_callB call_isiD (by rfl) T.z_isinstance (by decide +kernel) (la_cons (le_var (pv 0)) (la_cons (le_ty (by rfl) T.z_str (by decide +kernel)) la_nil))))) (lw_or (lt_cmp op_ltD (le_callB call_lenD (by rfl) T.z_len (by decide +kernel) (la_cons (le_var (pv 0)) la_nil)) le_int (nomark _)) (lw_or1 (lt_cmp op_gtD (le_callB call_lenD (by rfl) T.z_len (by decide +kernel) (la_cons (le_var (pv 0)) la_nil)) le_int (nomark _)))))) (lss_one (ls_ret le_bl)) lss_nil)
    (lss_one (ls_ret (le_callB (call_allD rfl) (by rfl) T.z_all (by decide +kernel) (la_cons (le_lc (own := [("sign", 1)]) rfl sc_is_name.nd (li_seq (le_var (pv 0))) (blkOk_by (own := [("sign", 1)]) (N := ["thing", "sign"]) (sc := defScope s_is_name) (by decide +kernel)) (fun _ _ _ _ _ => (lgw_name (pg_name (i := 1) sc_is_name.nd rfl (by first | exact Or.inl rfl | exact Or.inr rfl)) (by decide))) (fun _ _ _ _ _ => lts_nil) (fun _ _ _ _ _ => (le_cmp op_inTxD (le_var (pv 1)) (le_gc (by rfl) T.v_LETTERS (fun _ _ => .str _)) (by rfl)))) la_nil)))))
theorem ok_Keeper_put_down (T : Tx K mg) : FnOk P w K mg base CX0 (1) T.a_Keeper_put_down T.d_Keeper_put_down ["self", "name", "spot", "width", "many"] (Sp0 ⟨P, w, K, mg, B0⟩ 5 f_Keeper_put_down) := by
  refine fn0 T.F_Keeper_put_down sc_Keeper_put_down rfl rfl fun cdv A outer s H E hr => ?_
  exact (lss_cons (ls_dput (uu hr.units) (le_fld T.cl_Keeper T.n_Keeper_spots T.k_Keeper (le_var (pv 0))) (le_var (pv 1)) (le_var (pv 2)))
    (lss_cons (ls_dput (uu hr.units) (le_fld T.cl_Keeper T.n_Keeper_wides T.k_Keeper (le_var (pv 0))) (le_var (pv 1)) (le_var (pv 3)))
    (lss_cons (ls_dput (uu hr.units) (le_fld T.cl_Keeper T.n_Keeper_sizes T.k_Keeper (le_var (pv 0))) (le_var (pv 1)) (le_var (pv 4)))
    (lss_one (ls_dput (uu hr.units) (le_fld T.cl_Keeper T.n_Keeper_news T.k_Keeper (le_var (pv 0))) (le_var (pv 1)) (le_dic pe_dnewK))))))
theorem ok_Keeper_depth (T : Tx K mg) : FnOk P w K mg base CX0 (1) T.a_Keeper_depth T.d_Keeper_depth ["self"] (Sp0 ⟨P, w, K, mg, B0⟩ 1 f_Keeper_depth) := by
  refine fn0 T.F_Keeper_depth sc_Keeper_depth rfl rfl fun cdv A outer s H E hr => ?_
  exact (lss_one (ls_ret (le_callB call_lenD (by rfl) T.z_len (by decide +kernel) (la_cons (le_fld T.cl_Keeper T.n_Keeper_pours T.k_Keeper (le_var (pv 0))) la_nil))))
theorem ok__law_cell_at (T : Tx K mg) : FnOk P w K mg base CX0 (1) T.a__law_cell_at T.d__law_cell_at ["_law_script", "_law_k"] (Sp0 ⟨P, w, K, mg, B0⟩ 2 f__law_cell_at) := by
  refine fn0 T.F__law_cell_at sc__law_cell_at rfl rfl fun cdv A outer s H E hr => ?_
  exact (lss_cons (ls_if (lt_cmp op_ltD (le_var (pv 1)) (le_callB call_lenD (by rfl) T.z_len (by decide +kernel) (la_cons (le_var (pv 0)) la_nil)) (nomark _)) (lss_one (ls_ret (le_ix ix_D (le_var (pv 0)) (le_var (pv 1)) (fun _ _ => rfl)))) lss_nil)
    (lss_one (ls_ret le_int)))
theorem ok__law_mixed (T : Tx K mg) : FnOk P w K mg base CX0 (1) T.a__law_mixed T.d__law_mixed ["_law_cell", "_law_k"] (Sp0 ⟨P, w, K, mg, B0⟩ 2 f__law_mixed) := by
  refine fn0 T.F__law_mixed sc__law_mixed rfl rfl fun cdv A outer s H E hr => ?_
  exact (lss_cons (ls_set (i := 2) sc__law_mixed.nd (le_op op_modD (le_op op_mulD (le_op op_addD (le_op op_addD (le_op op_modD (le_var (pv 0)) le_int) (le_op op_mulD (le_op op_mulD le_int (le_var (pv 1))) (le_var (pv 1)))) (le_var (pv 1))) le_int) le_int))
    (lss_one (ls_ret (le_op op_modD (le_op op_mulD (le_var (pv 2)) (le_var (pv 2))) le_int))))
theorem ok__law_which {B : Tb} (T : Tx K mg) (hx : XcOk B base mg) : L2H.FnH P w K mg base CX0 (1) T.a__law_which T.d__law_which ["_law_e"] (Sp0 ⟨P, w, K, mg, B⟩ 1 f__law_which) := by
  refine fnH0 T.F__law_which sc__law_which rfl rfl fun cdv A outer s H E p hr => ?_
  exact (lss_cons (ls_set (i := 1) sc__law_which.nd (le_lst (la_cons (le_callB (call_isxD hx T.xt) (by rfl) T.z_isinstance (by decide +kernel) (la_cons (le_var (pv 0)) (la_cons (le_glb (by rfl) T.x_NoName) la_nil))) (la_cons (le_callB (call_isxD hx T.xt) (by rfl) T.z_isinstance (by decide +kernel) (la_cons (le_var (pv 0)) (la_cons (le_glb (by rfl) T.x_Twice) la_nil))) (la_cons (le_callB (call_isxD hx T.xt) (by rfl) T.z_isinstance (by decide +kernel) (la_cons (le_var (pv 0)) (la_cons (le_glb (by rfl) T.x_NoWidth) la_nil))) (la_cons (le_callB (call_isxD hx T.xt) (by rfl) T.z_isinstance (by decide +kernel) (la_cons (le_var (pv 0)) (la_cons (le_glb (by rfl) T.x_NoText) la_nil))) la_nil))))))
    (lss_cons (ls_set (i := 1) sc__law_which.nd (le_op op_addD (le_var (pv 1)) (le_lst (la_cons (le_callB (call_isxD hx T.xt) (by rfl) T.z_isinstance (by decide +kernel) (la_cons (le_var (pv 0)) (la_cons (le_glb (by rfl) T.x_NoPlace) la_nil))) (la_cons (le_callB (call_isxD hx T.xt) (by rfl) T.z_isinstance (by decide +kernel) (la_cons (le_var (pv 0)) (la_cons (le_glb (by rfl) T.x_Unlike) la_nil))) (la_cons (le_callB (call_isxD hx T.xt) (by rfl) T.z_isinstance (by decide +kernel) (la_cons (le_var (pv 0)) (la_cons (le_glb (by rfl) T.x_Wide) la_nil))) (la_cons (le_callB (call_isxD hx T.xt) (by rfl) T.z_isinstance (by decide +kernel) (la_cons (le_var (pv 0)) (la_cons (le_glb (by rfl) T.x_TooLarge) la_nil))) la_nil)))))))
    (lss_cons (ls_set (i := 1) sc__law_which.nd (le_op op_addD (le_var (pv 1)) (le_lst (la_cons (le_callB (call_isxD hx T.xt) (by rfl) T.z_isinstance (by decide +kernel) (la_cons (le_var (pv 0)) (la_cons (le_glb (by rfl) T.x_NoRow) la_nil))) (la_cons (le_callB (call_isxD hx T.xt) (by rfl) T.z_isinstance (by decide +kernel) (la_cons (le_var (pv 0)) (la_cons (le_glb (by rfl) T.x_NoCount) la_nil))) (la_cons (le_callB (call_isxD hx T.xt) (by rfl) T.z_isinstance (by decide +kernel) (la_cons (le_var (pv 0)) (la_cons (le_glb (by rfl) T.x_Short) la_nil))) (la_cons (le_callB (call_isxD hx T.xt) (by rfl) T.z_isinstance (by decide +kernel) (la_cons (le_var (pv 0)) (la_cons (le_glb (by rfl) T.x_NoChange) la_nil))) la_nil)))))))
    (lss_cons (ls_if (PW.pt (lw_or (lt_not (lt_val (le_callB (call_isxD hx T.xt) (by rfl) T.z_isinstance (by decide +kernel) (la_cons (le_var (pv 0)) (la_cons (le_ty (by rfl) T.z_ValueError (by decide +kernel)) la_nil))))) (lw_or1 (lt_cmp (op_neDD (hu_H hr)) (le_bm PySem.F.plainAttrs_list PySem.F.slot_list_count PySem.F.type_list_count (mt_cntD (hu_H hr)) (le_var (pv 1)) (la_cons le_bl la_nil)) le_int (nomark _))))) (lss_one (ls_ret (le_neg le_int))) lss_nil)
    (lss_one (ls_ret (le_bm PySem.F.plainAttrs_list PySem.F.slot_list_index PySem.F.type_list_index mt_idxD (le_var (pv 1)) (la_cons le_bl la_nil))))))))
theorem ok__law_no_name (T : Tx K mg) : FnOk P w K mg base CX0 (1) T.a__law_no_name T.d__law_no_name ["_law_way", "_law_name"] (Sp0 ⟨P, w, K, mg, B0⟩ 2 f__law_no_name) := by
  refine fn0 T.F__law_no_name sc__law_no_name rfl rfl fun cdv A outer s H E hr => ?_
  exact (lss_cons (ls_set (i := 2) sc__law_no_name.nd (le_lst (la_cons le_non (la_cons le_int (la_cons le_bl (la_cons le_str (la_cons le_str (la_cons le_str (la_cons le_str (la_cons le_str (la_cons (le_lst (la_cons (le_var (pv 1)) la_nil)) (la_cons (le_tup (la_cons (le_var (pv 1)) la_nil)) (la_cons (le_dic pe_dnewK) (la_cons (le_op op_addD (le_var (pv 1)) le_str) (la_cons (le_op op_addD (le_var (pv 1)) le_str) (la_cons le_str la_nil))))))))))))))))
    (lss_one (ls_ret (le_ix ix_D (le_var (pv 2)) (le_op op_modD (le_var (pv 0)) le_int) (fun _ _ => rfl)))))
theorem ok__law_no_width (T : Tx K mg) : FnOk P w K mg base CX0 (1) T.a__law_no_width T.d__law_no_width ["_law_cell"] (Sp0 ⟨P, w, K, mg, B0⟩ 1 f__law_no_width) := by
  refine fn0 T.F__law_no_width sc__law_no_width rfl rfl fun cdv A outer s H E hr => ?_
  exact (lss_cons (ls_set (i := 1) sc__law_no_width.nd (le_op op_modD (le_op op_divD (le_var (pv 0)) le_int) (le_op op_powD le_int le_int)))
    (lss_cons (ls_set (i := 2) sc__law_no_width.nd (le_lst (la_cons le_int (la_cons le_int (la_cons (le_op op_subD (le_neg le_int) (le_var (pv 1))) (la_cons (le_op op_addD le_int (le_var (pv 1))) (la_cons le_bl (la_cons le_bl (la_cons le_non (la_cons le_str (la_cons (le_tup (la_cons le_int la_nil)) (la_cons (le_lst (la_cons le_int la_nil)) (la_cons (le_dic pe_dnewK) la_nil)))))))))))))
    (lss_one (ls_ret (le_ix ix_D (le_var (pv 2)) (le_op op_modD (le_var (pv 0)) le_int) (fun _ _ => rfl))))))
theorem ok__law_due (T : Tx K mg) : FnOk P w K mg base CX0 (1) T.a__law_due T.d__law_due ["_law_name", "_law_width", "_law_widths", "_law_odd"] (Sp0 ⟨P, w, K, mg, B0⟩ 4 f__law_due) := by
  refine fn0 T.F__law_due sc__law_due rfl rfl fun cdv A outer s H E hr => ?_
  exact (lss_cons (ls_if (lt_val (le_ix ix_D (le_var (pv 3)) le_int (fun _ _ => rfl))) (lss_one (ls_ret le_int)) lss_nil)
    (lss_cons (ls_if (lt_din (uu hr.units) (le_var (pv 0)) (le_var (pv 2))) (lss_one (ls_ret le_int)) lss_nil)
    (lss_cons (ls_if (lt_val (le_ix ix_D (le_var (pv 3)) le_int (fun _ _ => rfl))) (lss_one (ls_ret le_int)) lss_nil)
    (lss_one (ls_ret (le_neg le_int))))))
theorem ok_Net_table (T : Tx K mg) : FnOk P w K mg base CX0 (2) T.a_Net_table T.d_Net_table ["self", "name", "width"] (Sp0 ⟨P, w, K, mg, B0⟩ 3 f_Net_table) := by
  refine fn0 T.F_Net_table sc_Net_table rfl rfl fun cdv A outer s H E hr => ?_
  exact (lss_one (ls_ret (le_meth (ok_Net_put T) (hr.mono (by omega)) T.cl_Net T.m_Net_put T.k_Net T.b_Net_put (le_var (pv 0)) (la_cons (le_tup (la_cons le_str (la_cons (le_tup (la_cons (le_var (pv 1)) (la_cons (le_var (pv 2)) la_nil))) (la_cons (le_tup la_nil) la_nil)))) (la_cons (le_var (pv 2)) la_nil)) (len_cons (len_cons (fun _ _ _ _ h => len_nil h))))))
theorem ok_Machine_nodes (T : Tx K mg) : FnOk P w K mg base CX0 (2) T.a_Machine_nodes T.d_Machine_nodes ["self"] (Sp0 ⟨P, w, K, mg, B0⟩ 1 f_Machine_nodes) := by
  refine fn0 T.F_Machine_nodes sc_Machine_nodes rfl rfl fun cdv A outer s H E hr => ?_
  exact (lss_one (ls_ret (le_meth0 (ok_Net_nodes T) (hr.mono (by omega)) T.cl_Net T.m_Net_nodes T.k_Net T.b_Net_nodes (le_fld T.cl_Machine T.n_Machine_net T.k_Machine (le_var (pv 0))))))
theorem ok_Keeper_not_taken (T : Tx K mg) : FnOk P w K mg base (L2N.CX P w) (2) T.a_Keeper_not_taken T.d_Keeper_not_taken ["self", "name"] (SpD ⟨P, w, K, mg, B0⟩ 2 f_Keeper_not_taken) := by
  refine fn1n T.F_Keeper_not_taken sc_Keeper_not_taken rfl rfl fun cdv A outer s H E hr => ?_
  exact (lss_cons (ls_if (lt_not (lt_val (le_callN (ok_is_name T) (hr.mono (by omega)) T.g_is_name T.F_is_name.kp T.b_is_name (la_cons (le_var (pv 1)) la_nil) (len_cons (fun _ _ _ _ h => len_nil h))))) (lss_one (ls_raisen rfl (L2N.takes_of rfl rfl rfl rfl) PySem.F.excBase_ValueError T.x_NoName T.r_NoName)) lss_nil)
    (lss_one (ls_if (lt_din (uu hr.units) (le_var (pv 1)) (le_fld T.cl_Keeper T.n_Keeper_spots T.k_Keeper (le_var (pv 0)))) (lss_one (ls_raisen rfl (L2N.takes_of rfl rfl rfl rfl) PySem.F.excBase_ValueError T.x_Twice T.r_Twice)) lss_nil)))
theorem ok_Keeper_node (T : Tx K mg) : FnOk P w K mg base (L2N.CX P w) (2) T.a_Keeper_node T.d_Keeper_node ["self", "name"] (SpD ⟨P, w, K, mg, B0⟩ 2 f_Keeper_node) := by
  refine fn1n T.F_Keeper_node sc_Keeper_node rfl rfl fun cdv A outer s H E hr => ?_
  exact (lss_cons (ls_if (PW.pt (lw_or (lt_not (lt_val (le_callN (ok_is_name T) (hr.mono (by omega)) T.g_is_name T.F_is_name.kp T.b_is_name (la_cons (le_var (pv 1)) la_nil) (len_cons (fun _ _ _ _ h => len_nil h))))) (lw_or1 (lt_dnotin (uu hr.units) (le_var (pv 1)) (le_fld T.cl_Keeper T.n_Keeper_spots T.k_Keeper (le_var (pv 0))))))) (lss_one (ls_raisen rfl (L2N.takes_of rfl rfl rfl rfl) PySem.F.excBase_ValueError T.x_NoName T.r_NoName)) lss_nil)
    (lss_one (ls_ret (le_dix (uu hr.units) (le_fld T.cl_Keeper T.n_Keeper_spots T.k_Keeper (le_var (pv 0))) (le_var (pv 1)) (fun _ _ => rfl)))))
theorem ok_Keeper_memory (T : Tx K mg) : FnOk P w K mg base CX0 (2) T.a_Keeper_memory T.d_Keeper_memory ["self", "k"] (Sp0 ⟨P, w, K, mg, B0⟩ 2 f_Keeper_memory) := by
  refine fn0 T.F_Keeper_memory sc_Keeper_memory rfl rfl fun cdv A outer s H E hr => ?_
  exact (lss_one (ls_ret (le_meth (ok_Machine_memory T) (hr.mono (by omega)) T.cl_Machine T.m_Machine_memory T.k_Machine T.b_Machine_memory (le_fld T.cl_Keeper T.n_Keeper_machine T.k_Keeper (le_var (pv 0))) (la_cons (le_var (pv 1)) la_nil) (len_cons (fun _ _ _ _ h => len_nil h)))))
theorem ok_Keeper_kept (T : Tx K mg) : FnOk P w K mg base CX0 (2) T.a_Keeper_kept T.d_Keeper_kept ["self"] (Sp0 ⟨P, w, K, mg, B0⟩ 1 f_Keeper_kept) := by
  refine fn0 T.F_Keeper_kept sc_Keeper_kept rfl rfl fun cdv A outer s H E hr => ?_
  exact (lss_cons (ls_set (i := 1) sc_Keeper_kept.nd (le_lst la_nil))
    (lss_cons (ls_lock (fo := (un1 (fldK "Keeper" "spots") (varF 0))) rfl (ls_for PassesOwn.never rfl (li_items (le_fld T.cl_Keeper T.n_Keeper_spots T.k_Keeper (le_var (pv 0)))) (lg_tup rfl (lgs_cons (lg_name (pg_name (i := 2) sc_Keeper_kept.nd rfl (by first | exact Or.inl rfl | exact Or.inr rfl))) (lgs_cons (lg_name (pg_name (i := 3) sc_Keeper_kept.nd rfl (by first | exact Or.inl rfl | exact Or.inr rfl))) lgs_nil))) (lss_one (ls_if (lt_din (uu hr.units) (le_var (pv 2)) (le_fld T.cl_Keeper T.n_Keeper_texts T.k_Keeper (le_var (pv 0)))) (lss_one (ls_expr (le_bm PySem.F.plainAttrs_list PySem.F.slot_list_append PySem.F.type_list_append mt_appD (le_var (pv 1)) (la_cons (le_tup (la_cons le_str (la_cons (le_var (pv 2)) (la_cons (le_dix (uu hr.units) (le_fld T.cl_Keeper T.n_Keeper_texts T.k_Keeper (le_var (pv 0))) (le_var (pv 2)) (fun _ _ => rfl)) la_nil)))) la_nil)))) (lss_one (ls_expr (le_bm PySem.F.plainAttrs_list PySem.F.slot_list_append PySem.F.type_list_append mt_appD (le_var (pv 1)) (la_cons (le_tup (la_cons le_str (la_cons (le_var (pv 2)) (la_cons (le_dix (uu hr.units) (le_fld T.cl_Keeper T.n_Keeper_wides T.k_Keeper (le_var (pv 0))) (le_var (pv 2)) (fun _ _ => rfl)) (la_cons (le_call0 (ok_told T) (hr.mono (by omega)) T.g_told_bags T.F_told.kp T.b_told (la_cons (le_meth (ok_Machine_rows_of T) (hr.mono (by omega)) T.cl_Machine T.m_Machine_rows_of T.k_Machine T.b_Machine_rows_of (le_fld T.cl_Keeper T.n_Keeper_machine T.k_Keeper (le_var (pv 0))) (la_cons (le_var (pv 3)) la_nil) (len_cons (fun _ _ _ _ h => len_nil h))) la_nil) (len_cons (fun _ _ _ _ h => len_nil h))) la_nil))))) la_nil))))))))
    (lss_one (ls_ret (le_var (pv 1))))))
theorem ok__law_names (T : Tx K mg) : FnOk P w K mg base CX0 (2) T.a__law_names T.d__law_names ["_law_cell", "_law_many"] (Sp0 ⟨P, w, K, mg, B0⟩ 2 f__law_names) := by
  refine fn0 T.F__law_names sc__law_names rfl rfl fun cdv A outer s H E hr => ?_
  exact (lss_cons (ls_set (i := 2) sc__law_names.nd le_str)
    (lss_cons (ls_setLc (i := 3) (own := [("_law_k", 4)]) rfl sc__law_names.nd (sw_true rfl rfl rfl (by decide +kernel)) (li_rng1 (by rfl) T.z_range (la_cons (le_op op_addD le_int (le_op op_modD (le_var (pv 0)) le_int)) la_nil)) (blkOk_by (own := [("_law_k", 4)]) (N := ["_law_cell", "_law_many", "_law_letters", "_law_base", "_law_k", "_law_at", "_law_names_here", "_law_name", "_law_j"]) (sc := defScope s__law_names) (by decide +kernel)) (fun _ _ _ _ _ => (lgw_name (pg_name (i := 4) sc__law_names.nd rfl (by first | exact Or.inl rfl | exact Or.inr rfl)) (by decide))) (fun _ _ _ _ _ => lts_nil) (fun _ _ _ _ _ => (le_op op_modD (le_call0 (ok__law_mixed T) (hr.mono (by omega)) T.g__law_mixed T.F__law_mixed.kp T.b__law_mixed (la_cons (le_var (pv 0)) (la_cons (le_op op_addD le_int (le_var (pv 4))) la_nil)) (len_cons (len_cons (fun _ _ _ _ h => len_nil h)))) le_int)))
    (lss_cons (ls_set (i := 5) sc__law_names.nd (le_op op_modD (le_call0 (ok__law_mixed T) (hr.mono (by omega)) T.g__law_mixed T.F__law_mixed.kp T.b__law_mixed (la_cons (le_var (pv 0)) (la_cons le_int la_nil)) (len_cons (len_cons (fun _ _ _ _ h => len_nil h)))) (le_callB call_lenD (by rfl) T.z_len (by decide +kernel) (la_cons (le_var (pv 3)) la_nil))))
    (lss_cons (ls_set (i := 6) sc__law_names.nd (le_lst la_nil))
    (lss_cons (ls_for PassesOwn.never rfl (li_rng1 (by rfl) T.z_range (la_cons (le_var (pv 1)) la_nil)) (lg_name (pg_name (i := 4) sc__law_names.nd rfl (by first | exact Or.inl rfl | exact Or.inr rfl))) (lss_cons (ls_set (i := 7) sc__law_names.nd le_str)
    (lss_cons (ls_for PassesOwn.never rfl (li_rng1 (by rfl) T.z_range (la_cons (le_callB call_lenD (by rfl) T.z_len (by decide +kernel) (la_cons (le_var (pv 3)) la_nil)) la_nil)) (lg_name (pg_name (i := 8) sc__law_names.nd rfl (by first | exact Or.inl rfl | exact Or.inr rfl))) (lss_one (ls_set (i := 7) sc__law_names.nd (le_op op_addD (le_var (pv 7)) (le_ix ix_D (le_var (pv 2)) (le_op op_modD (le_op op_addD (le_ix ix_D (le_var (pv 3)) (le_var (pv 8)) (fun _ _ => rfl)) (le_op op_mulD (le_op op_mulD le_int (le_var (pv 4))) (le_callTy call_int1D (by rfl) T.z_int (by decide +kernel) (la_cons (le_cmp (op_eqDD hr.units) (le_var (pv 8)) (le_var (pv 5)) (nomark _)) la_nil)))) le_int) (fun _ _ => rfl))))))
    (lss_one (ls_expr (le_bm PySem.F.plainAttrs_list PySem.F.slot_list_append PySem.F.type_list_append mt_appD (le_var (pv 6)) (la_cons (le_var (pv 7)) la_nil)))))))
    (lss_cons (ls_if (PW.pt (lw_and (lt_cmp op_ltD (le_callB call_lenD (by rfl) T.z_len (by decide +kernel) (la_cons (le_var (pv 3)) la_nil)) le_int (nomark _)) (lw_and1 (lt_cmp (op_eqDD hr.units) (le_op op_modD (le_op op_divD (le_var (pv 0)) le_int) le_int) le_int (nomark _))))) (lss_one (ls_asg (le_op op_addD (le_ix ix_D (le_var (pv 6)) le_int (fun _ _ => rfl)) (le_ix ix_D (le_var (pv 2)) (le_ix ix_D (le_var (pv 3)) le_int (fun _ _ => rfl)) (fun _ _ => rfl))) (lg_sub (le_var (pv 6)) (le_op op_subD (le_var (pv 1)) le_int)))) lss_nil)
    (lss_one (ls_ret (le_var (pv 6))))))))))
theorem ok_Machine___init__ (T : Tx K mg) : FnOk P w K mg base CX0 (3) T.a_Machine___init__ T.d_Machine___init__ ["self"] (Sp0 ⟨P, w, K, mg, B0⟩ 1 f_Machine___init__) := by
  refine fn0 T.F_Machine___init__ sc_Machine___init__ rfl rfl fun cdv A outer s H E hr => ?_
  exact (lss_cons (ls_fset T.cl_Machine T.n_Machine_net T.k_Machine (le_var (pv 0)) (le_make0 T.mk_Net (ok_Net___init__ T) (hr.mono (by omega)) T.k_Net T.b_Net___init__))
    (lss_cons (ls_fset T.cl_Machine T.n_Machine_parts T.k_Machine (le_var (pv 0)) (le_lst la_nil))
    (lss_one (ls_fset T.cl_Machine T.n_Machine_bags T.k_Machine (le_var (pv 0)) (le_lst la_nil)))))
theorem ok_Machine_table (T : Tx K mg) : FnOk P w K mg base CX0 (3) T.a_Machine_table T.d_Machine_table ["self", "name", "width"] (Sp0 ⟨P, w, K, mg, B0⟩ 3 f_Machine_table) := by
  refine fn0 T.F_Machine_table sc_Machine_table rfl rfl fun cdv A outer s H E hr => ?_
  exact (lss_cons (ls_set (i := 3) sc_Machine_table.nd (le_meth (ok_Net_table T) (hr.mono (by omega)) T.cl_Net T.m_Net_table T.k_Net T.b_Net_table (le_fld T.cl_Machine T.n_Machine_net T.k_Machine (le_var (pv 0))) (la_cons (le_var (pv 1)) (la_cons (le_var (pv 2)) la_nil)) (len_cons (len_cons (fun _ _ _ _ h => len_nil h)))))
    (lss_cons (ls_expr (le_bm PySem.F.plainAttrs_list PySem.F.slot_list_append PySem.F.type_list_append mt_appD (le_fld T.cl_Machine T.n_Machine_parts T.k_Machine (le_var (pv 0))) (la_cons le_non la_nil)))
    (lss_cons (ls_expr (le_bm PySem.F.plainAttrs_list PySem.F.slot_list_append PySem.F.type_list_append mt_appD (le_fld T.cl_Machine T.n_Machine_bags T.k_Machine (le_var (pv 0))) (la_cons (le_dic pe_dnewK) la_nil)))
    (lss_one (ls_ret (le_var (pv 3)))))))
theorem ok_Keeper_ask (T : Tx K mg) : FnOk P w K mg base (L2N.CX P w) (3) T.a_Keeper_ask T.d_Keeper_ask ["self", "name"] (SpD ⟨P, w, K, mg, B0⟩ 2 f_Keeper_ask) := by
  refine fn1n T.F_Keeper_ask sc_Keeper_ask rfl rfl fun cdv A outer s H E hr => ?_
  exact (lss_one (ls_ret (le_callN (ok_told T) (hr.mono (by omega)) T.g_told_bags T.F_told.kp T.b_told (la_cons (le_methN (ok_Machine_rows_of T) (hr.mono (by omega)) T.cl_Machine T.m_Machine_rows_of T.k_Machine T.b_Machine_rows_of (le_fld T.cl_Keeper T.n_Keeper_machine T.k_Keeper (le_var (pv 0))) (la_cons (le_methQn (ok_Keeper_node T) (hr.mono (by omega)) T.cl_Keeper T.m_Keeper_node T.k_Keeper T.b_Keeper_node (L2N.takes_of rfl rfl rfl rfl) (le_var (pv 0)) (la_cons (le_var (pv 1)) la_nil) (len_cons (fun _ _ _ _ h => len_nil h))) la_nil) (len_cons (fun _ _ _ _ h => len_nil h))) la_nil) (len_cons (fun _ _ _ _ h => len_nil h)))))
theorem ok_Keeper_told (T : Tx K mg) : FnOk P w K mg base (L2N.CX P w) (3) T.a_Keeper_told T.d_Keeper_told ["self", "name"] (SpD ⟨P, w, K, mg, B0⟩ 2 f_Keeper_told) := by
  refine fn1n T.F_Keeper_told sc_Keeper_told rfl rfl fun cdv A outer s H E hr => ?_
  exact (lss_cons (ls_expr (le_methQn (ok_Keeper_node T) (hr.mono (by omega)) T.cl_Keeper T.m_Keeper_node T.k_Keeper T.b_Keeper_node (L2N.takes_of rfl rfl rfl rfl) (le_var (pv 0)) (la_cons (le_var (pv 1)) la_nil) (len_cons (fun _ _ _ _ h => len_nil h))))
    (lss_one (ls_ret (le_callN (ok_told T) (hr.mono (by omega)) T.g_told_bags T.F_told.kp T.b_told (la_cons (le_dix (uu hr.units) (le_fld T.cl_Keeper T.n_Keeper_news T.k_Keeper (le_var (pv 0))) (le_var (pv 1)) (fun _ _ => rfl)) la_nil) (len_cons (fun _ _ _ _ h => len_nil h))))))
theorem ok_Keeper_plainly (T : Tx K mg) : FnOk P w K mg base (L2N.CX P w) (3) T.a_Keeper_plainly T.d_Keeper_plainly ["self", "name"] (SpD ⟨P, w, K, mg, B0⟩ 2 f_Keeper_plainly) := by
  refine fn1n T.F_Keeper_plainly sc_Keeper_plainly rfl rfl fun cdv A outer s H E hr => ?_
  exact (lss_cons (ls_expr (le_methQn (ok_Keeper_node T) (hr.mono (by omega)) T.cl_Keeper T.m_Keeper_node T.k_Keeper T.b_Keeper_node (L2N.takes_of rfl rfl rfl rfl) (le_var (pv 0)) (la_cons (le_var (pv 1)) la_nil) (len_cons (fun _ _ _ _ h => len_nil h))))
    (lss_cons (ls_set (i := 2) sc_Keeper_plainly.nd (le_dic pe_dnewK))
    (lss_cons (ls_set (i := 3) sc_Keeper_plainly.nd (le_dic pe_dnewK))
    (lss_cons (ls_lock (fo := (un1 (fldK "Keeper" "spots") (varF 0))) rfl (ls_for (passes_of rfl) rfl (li_items (le_fld T.cl_Keeper T.n_Keeper_spots T.k_Keeper (le_var (pv 0)))) (lg_tup rfl (lgs_cons (lg_name (pg_name (i := 4) sc_Keeper_plainly.nd rfl (by first | exact Or.inl rfl | exact Or.inr rfl))) (lgs_cons (lg_name (pg_name (i := 5) sc_Keeper_plainly.nd rfl (by first | exact Or.inl rfl | exact Or.inr rfl))) lgs_nil))) (lss_cons (ls_if (lt_din (uu hr.units) (le_var (pv 4)) (le_fld T.cl_Keeper T.n_Keeper_trees T.k_Keeper (le_var (pv 0)))) (lss_one ls_bad) (lss_one (ls_dput (uu hr.units) (le_var (pv 2)) (le_var (pv 4)) (le_methN (ok_Machine_rows_of T) (hr.mono (by omega)) T.cl_Machine T.m_Machine_rows_of T.k_Machine T.b_Machine_rows_of (le_fld T.cl_Keeper T.n_Keeper_machine T.k_Keeper (le_var (pv 0))) (la_cons (le_var (pv 5)) la_nil) (len_cons (fun _ _ _ _ h => len_nil h))))))
    (lss_cons (ls_if (lt_cmp (op_eqDD hr.units) (le_var (pv 4)) (le_var (pv 1)) (nomark _)) (lss_one (ls_ret (le_callN (ok_told T) (hr.mono (by omega)) T.g_told_bags T.F_told.kp T.b_told (la_cons (le_dix (uu hr.units) (le_var (pv 2)) (le_var (pv 1)) (fun _ _ => rfl)) la_nil) (len_cons (fun _ _ _ _ h => len_nil h))))) lss_nil)
    (lss_one (ls_dput (uu hr.units) (le_var (pv 3)) (le_var (pv 4)) (le_dix (uu hr.units) (le_fld T.cl_Keeper T.n_Keeper_wides T.k_Keeper (le_var (pv 0))) (le_var (pv 4)) (fun _ _ => rfl))))))))
    (lss_one (ls_ret (le_lst la_nil)))))))
theorem ok_Keeper_width (T : Tx K mg) : FnOk P w K mg base (L2N.CX P w) (3) T.a_Keeper_width T.d_Keeper_width ["self", "name"] (SpD ⟨P, w, K, mg, B0⟩ 2 f_Keeper_width) := by
  refine fn1n T.F_Keeper_width sc_Keeper_width rfl rfl fun cdv A outer s H E hr => ?_
  exact (lss_cons (ls_expr (le_methQn (ok_Keeper_node T) (hr.mono (by omega)) T.cl_Keeper T.m_Keeper_node T.k_Keeper T.b_Keeper_node (L2N.takes_of rfl rfl rfl rfl) (le_var (pv 0)) (la_cons (le_var (pv 1)) la_nil) (len_cons (fun _ _ _ _ h => len_nil h))))
    (lss_one (ls_ret (le_dix (uu hr.units) (le_fld T.cl_Keeper T.n_Keeper_wides T.k_Keeper (le_var (pv 0))) (le_var (pv 1)) (fun _ _ => rfl)))))
theorem ok_Keeper_size (T : Tx K mg) : FnOk P w K mg base (L2N.CX P w) (3) T.a_Keeper_size T.d_Keeper_size ["self", "name"] (SpD ⟨P, w, K, mg, B0⟩ 2 f_Keeper_size) := by
  refine fn1n T.F_Keeper_size sc_Keeper_size rfl rfl fun cdv A outer s H E hr => ?_
  exact (lss_cons (ls_expr (le_methQn (ok_Keeper_node T) (hr.mono (by omega)) T.cl_Keeper T.m_Keeper_node T.k_Keeper T.b_Keeper_node (L2N.takes_of rfl rfl rfl rfl) (le_var (pv 0)) (la_cons (le_var (pv 1)) la_nil) (len_cons (fun _ _ _ _ h => len_nil h))))
    (lss_one (ls_ret (le_dix (uu hr.units) (le_fld T.cl_Keeper T.n_Keeper_sizes T.k_Keeper (le_var (pv 0))) (le_var (pv 1)) (fun _ _ => rfl)))))
theorem ok_Keeper_nodes (T : Tx K mg) : FnOk P w K mg base CX0 (3) T.a_Keeper_nodes T.d_Keeper_nodes ["self"] (Sp0 ⟨P, w, K, mg, B0⟩ 1 f_Keeper_nodes) := by
  refine fn0 T.F_Keeper_nodes sc_Keeper_nodes rfl rfl fun cdv A outer s H E hr => ?_
  exact (lss_one (ls_ret (le_meth0 (ok_Machine_nodes T) (hr.mono (by omega)) T.cl_Machine T.m_Machine_nodes T.k_Machine T.b_Machine_nodes (le_fld T.cl_Keeper T.n_Keeper_machine T.k_Keeper (le_var (pv 0))))))
theorem ok_Keeper_table (T : Tx K mg) : FnOk P w K mg base (L2N.CX P w) (4) T.a_Keeper_table T.d_Keeper_table ["self", "name", "width"] (SpD ⟨P, w, K, mg, B0⟩ 3 f_Keeper_table) := by
  refine fn1n T.F_Keeper_table sc_Keeper_table rfl rfl fun cdv A outer s H E hr => ?_
  exact (lss_cons (ls_expr (le_methQn (ok_Keeper_not_taken T) (hr.mono (by omega)) T.cl_Keeper T.m_Keeper_not_taken T.k_Keeper T.b_Keeper_not_taken (L2N.takes_of rfl rfl rfl rfl) (le_var (pv 0)) (la_cons (le_var (pv 1)) la_nil) (len_cons (fun _ _ _ _ h => len_nil h))))
    (lss_cons (ls_if (PW.pt (lw_or (lt_not (lt_val (le_callN (ok_is_whole T) (hr.mono (by omega)) T.g_is_whole T.F_is_whole.kp T.b_is_whole (la_cons (le_var (pv 2)) la_nil) (len_cons (fun _ _ _ _ h => len_nil h))))) (lw_or (lt_cmp op_ltD (le_var (pv 2)) le_int (nomark _)) (lw_or1 (lt_cmp op_gtD (le_var (pv 2)) (le_gc (by rfl) T.v_MOST_keeper (fun _ _ => .int _)) (nomark _)))))) (lss_one (ls_raisen rfl (L2N.takes_of rfl rfl rfl rfl) PySem.F.excBase_ValueError T.x_NoWidth T.r_NoWidth)) lss_nil)
    (lss_one (ls_expr (le_methN (ok_Keeper_put_down T) (hr.mono (by omega)) T.cl_Keeper T.m_Keeper_put_down T.k_Keeper T.b_Keeper_put_down (le_var (pv 0)) (la_cons (le_var (pv 1)) (la_cons (le_methN (ok_Machine_table T) (hr.mono (by omega)) T.cl_Machine T.m_Machine_table T.k_Machine T.b_Machine_table (le_fld T.cl_Keeper T.n_Keeper_machine T.k_Keeper (le_var (pv 0))) (la_cons (le_var (pv 1)) (la_cons (le_var (pv 2)) la_nil)) (len_cons (len_cons (fun _ _ _ _ h => len_nil h)))) (la_cons (le_var (pv 2)) (la_cons le_int la_nil)))) (len_cons (len_cons (len_cons (len_cons (fun _ _ _ _ h => len_nil h))))))))))
theorem ok__law_asked (T : Tx K mg) : FnOk P w K mg base CX0 (4) T.a__law_asked T.d__law_asked ["_law_keeper", "_law_name", "_law_way"] (Sp0 ⟨P, w, K, mg, B0⟩ 3 f__law_asked) := by
  refine fn0 T.F__law_asked sc__law_asked rfl rfl fun cdv A outer s H E hr => ?_
  exact (lss_one (ls_tryX (B := B0) (n := 4) (ie := 3) (okc := okcX) (cV := Value.ref T.e_ViewError) rfl rfl rfl sc__law_asked.nd rfl rfl rfl ⟨by rfl, by decide, .inl T.x_ViewError⟩ takes0n (fun E pn xe tk => (lss_cons (ls_if (lt_cmp (op_eqDD hr.units) (le_var (pv 2)) le_int (nomark _)) (lss_one (ls_ret (le_methQn (ok_Keeper_ask T) (hr.mono (by omega)) T.cl_Keeper T.m_Keeper_ask T.k_Keeper T.b_Keeper_ask tk (le_var (pv 0)) (la_cons (le_var (pv 1)) la_nil) (len_cons (fun _ _ _ _ h => len_nil h))))) lss_nil)
    (lss_cons (ls_if (lt_cmp (op_eqDD hr.units) (le_var (pv 2)) le_int (nomark _)) (lss_one (ls_ret (le_methQn (ok_Keeper_told T) (hr.mono (by omega)) T.cl_Keeper T.m_Keeper_told T.k_Keeper T.b_Keeper_told tk (le_var (pv 0)) (la_cons (le_var (pv 1)) la_nil) (len_cons (fun _ _ _ _ h => len_nil h))))) lss_nil)
    (lss_cons (ls_if (lt_cmp (op_eqDD hr.units) (le_var (pv 2)) le_int (nomark _)) (lss_one (ls_ret (le_methQn (ok_Keeper_plainly T) (hr.mono (by omega)) T.cl_Keeper T.m_Keeper_plainly T.k_Keeper T.b_Keeper_plainly tk (le_var (pv 0)) (la_cons (le_var (pv 1)) la_nil) (len_cons (fun _ _ _ _ h => len_nil h))))) lss_nil)
    (lss_cons (ls_if (lt_cmp (op_eqDD hr.units) (le_var (pv 2)) le_int (nomark _)) (lss_one (ls_ret (le_methQn (ok_Keeper_width T) (hr.mono (by omega)) T.cl_Keeper T.m_Keeper_width T.k_Keeper T.b_Keeper_width tk (le_var (pv 0)) (la_cons (le_var (pv 1)) la_nil) (len_cons (fun _ _ _ _ h => len_nil h))))) lss_nil)
    (lss_cons (ls_if (lt_cmp (op_eqDD hr.units) (le_var (pv 2)) le_int (nomark _)) (lss_one (ls_ret (le_methQn (ok_Keeper_size T) (hr.mono (by omega)) T.cl_Keeper T.m_Keeper_size T.k_Keeper T.b_Keeper_size tk (le_var (pv 0)) (la_cons (le_var (pv 1)) la_nil) (len_cons (fun _ _ _ _ h => len_nil h))))) lss_nil)
    (lss_one (ls_ret (le_methQn (ok_Keeper_node T) (hr.mono (by omega)) T.cl_Keeper T.m_Keeper_node T.k_Keeper T.b_Keeper_node tk (le_var (pv 0)) (la_cons (le_var (pv 1)) la_nil) (len_cons (fun _ _ _ _ h => len_nil h))))))))))) (fun a c oe D pn hD hz hv => (lss_one (ls_ret (le_tup (la_cons le_str (la_cons (le_callX (B := { B0 with xc := some (a, c) }) rfl hD hz hv (fun base hx => ok__law_which T hx) (hr.mono (by omega)) T.g__law_which T.F__law_which.kp T.b__law_which (la_cons (le_var (pv 3)) la_nil) (len_cons (fun _ _ _ _ h => len_nil h))) la_nil)))))) T.xo))
theorem ok_Keeper___init__ (T : Tx K mg) : FnOk P w K mg base CX0 (5) T.a_Keeper___init__ T.d_Keeper___init__ ["self"] (Sp0 ⟨P, w, K, mg, B0⟩ 1 f_Keeper___init__) := by
  refine fn0 T.F_Keeper___init__ sc_Keeper___init__ rfl rfl fun cdv A outer s H E hr => ?_
  exact (lss_cons (ls_fset T.cl_Keeper T.n_Keeper_machine T.k_Keeper (le_var (pv 0)) (le_make0 T.mk_Machine (ok_Machine___init__ T) (hr.mono (by omega)) T.k_Machine T.b_Machine___init__))
    (lss_cons (ls_fset T.cl_Keeper T.n_Keeper_spots T.k_Keeper (le_var (pv 0)) (le_dic pe_dnewK))
    (lss_cons (ls_fset T.cl_Keeper T.n_Keeper_wides T.k_Keeper (le_var (pv 0)) (le_dic pe_dnewK))
    (lss_cons (ls_fset T.cl_Keeper T.n_Keeper_sizes T.k_Keeper (le_var (pv 0)) (le_dic pe_dnewK))
    (lss_cons (ls_fset T.cl_Keeper T.n_Keeper_texts T.k_Keeper (le_var (pv 0)) (le_dic pe_dnewK))
    (lss_cons (ls_fset T.cl_Keeper T.n_Keeper_trees T.k_Keeper (le_var (pv 0)) (le_dic pe_dnewK))
    (lss_cons (ls_fset T.cl_Keeper T.n_Keeper_news T.k_Keeper (le_var (pv 0)) (le_dic pe_dnewK))
    (lss_one (ls_fset T.cl_Keeper T.n_Keeper_pours T.k_Keeper (le_var (pv 0)) (le_lst la_nil))))))))))
theorem ok__law_made (T : Tx K mg) : FnOk P w K mg base CX0 (5) T.a__law_made T.d__law_made ["_law_keeper", "_law_name", "_law_width"] (Sp0 ⟨P, w, K, mg, B0⟩ 3 f__law_made) := by
  refine fn0 T.F__law_made sc__law_made rfl rfl fun cdv A outer s H E hr => ?_
  exact (lss_cons (ls_tryX (B := B0) (n := 5) (ie := 4) (okc := okcX) (cV := Value.ref T.e_ViewError) rfl rfl rfl sc__law_made.nd rfl rfl rfl ⟨by rfl, by decide, .inl T.x_ViewError⟩ takes0n (fun E pn xe tk => (lss_one (ls_set (i := 3) sc__law_made.nd (le_methQn (ok_Keeper_table T) (hr.mono (by omega)) T.cl_Keeper T.m_Keeper_table T.k_Keeper T.b_Keeper_table tk (le_var (pv 0)) (la_cons (le_var (pv 1)) (la_cons (le_var (pv 2)) la_nil)) (len_cons (len_cons (fun _ _ _ _ h => len_nil h))))))) (fun a c oe D pn hD hz hv => (lss_one (ls_ret (le_callX (B := { B0 with xc := some (a, c) }) rfl hD hz hv (fun base hx => ok__law_which T hx) (hr.mono (by omega)) T.g__law_which T.F__law_which.kp T.b__law_which (la_cons (le_var (pv 4)) la_nil) (len_cons (fun _ _ _ _ h => len_nil h)))))) T.xo)
    (lss_cons (ls_if (lt_cmp op_isND (le_var (pv 3)) le_non (nomark _)) (lss_one (ls_ret (le_neg le_int))) lss_nil)
    (lss_one (ls_ret (le_neg le_int)))))
theorem ok__law_look (T : Tx K mg) : FnOk P w K mg base CX0 (5) T.a__law_look T.d__law_look ["_law_keeper", "_law_name", "_law_widths", "_law_known"] (Sp0 ⟨P, w, K, mg, B0⟩ 4 f__law_look) := by
  refine fn0 T.F__law_look sc__law_look rfl rfl fun cdv A outer s H E hr => ?_
  exact (lss_cons (ls_set (i := 4) sc__law_look.nd (le_op op_repD (le_lst (la_cons (le_tup (la_cons le_str (la_cons le_int la_nil))) la_nil)) le_int))
    (lss_cons (ls_if (lt_val (le_var (pv 3))) (lss_one (ls_set (i := 4) sc__law_look.nd (le_lst (la_cons (le_lst la_nil) (la_cons (le_lst la_nil) (la_cons (le_lst la_nil) (la_cons (le_dix (uu hr.units) (le_var (pv 2)) (le_var (pv 1)) (fun _ _ => rfl)) (la_cons le_int (la_cons (le_bm PySem.F.plainAttrs_list PySem.F.slot_list_index PySem.F.type_list_index mt_idxD (le_callTy (call_listKD rfl) (by rfl) T.z_list (by decide +kernel) (la_cons (le_var (pv 2)) la_nil)) (la_cons (le_var (pv 1)) la_nil)) la_nil))))))))) lss_nil)
    (lss_cons (ls_for PassesOwn.never rfl (li_rng1 (by rfl) T.z_range (la_cons le_int la_nil)) (lg_name (pg_name (i := 5) sc__law_look.nd rfl (by first | exact Or.inl rfl | exact Or.inr rfl))) (lss_cons (ls_set (i := 6) sc__law_look.nd (le_call0 (ok__law_asked T) (hr.mono (by omega)) T.g__law_asked T.F__law_asked.kp T.b__law_asked (la_cons (le_var (pv 0)) (la_cons (le_var (pv 1)) (la_cons (le_var (pv 5)) la_nil))) (len_cons (len_cons (len_cons (fun _ _ _ _ h => len_nil h))))))
    (lss_one (ls_if (PW.pt (lw_or (lt_val (le_callB call_isiD (by rfl) T.z_isinstance (by decide +kernel) (la_cons (le_var (pv 6)) (la_cons (le_ty (by rfl) T.z_bool (by decide +kernel)) la_nil)))) (lw_or1 (lt_cmp (op_neX hr.units) (le_var (pv 6)) (le_ix ix_D (le_var (pv 4)) (le_var (pv 5)) (fun _ _ => rfl)) (nomark _))))) (lss_one (ls_ret le_bl)) lss_nil))))
    (lss_cons (ls_if (lt_not (lt_val (le_var (pv 3)))) (lss_one (ls_ret le_bl)) lss_nil)
    (lss_cons (ls_expr (le_bm PySem.F.plainAttrs_list PySem.F.slot_list_append PySem.F.type_list_append mt_appD (le_methE (ok_Keeper_ask T) (hr.mono (by omega)) T.cl_Keeper T.m_Keeper_ask T.k_Keeper T.b_Keeper_ask (le_var (pv 0)) (la_cons (le_var (pv 1)) la_nil) (len_cons (fun _ _ _ _ h => len_nil h))) (la_cons (le_tup (la_cons (le_tup (la_cons le_int la_nil)) (la_cons le_int la_nil))) la_nil)))
    (lss_cons (ls_expr (le_bm0 PySem.F.plainAttrs_list PySem.F.slot_list_clear PySem.F.type_list_clear mt_clearD (le_meth0 (ok_Keeper_kept T) (hr.mono (by omega)) T.cl_Keeper T.m_Keeper_kept T.k_Keeper T.b_Keeper_kept (le_var (pv 0)))))
    (lss_cons (ls_expr (le_bm PySem.F.plainAttrs_list PySem.F.slot_list_append PySem.F.type_list_append mt_appD (le_meth0 (ok_Keeper_nodes T) (hr.mono (by omega)) T.cl_Keeper T.m_Keeper_nodes T.k_Keeper T.b_Keeper_nodes (le_var (pv 0))) (la_cons (le_var (pv 1)) la_nil)))
    (lss_one (ls_ret (le_and (le_cmp (op_eqX hr.units) (le_methE (ok_Keeper_ask T) (hr.mono (by omega)) T.cl_Keeper T.m_Keeper_ask T.k_Keeper T.b_Keeper_ask (le_var (pv 0)) (la_cons (le_var (pv 1)) la_nil) (len_cons (fun _ _ _ _ h => len_nil h))) (le_lst la_nil) (nomark _)) (le_and1 (le_cmp (op_eqX hr.units) (le_meth (ok_Keeper_memory T) (hr.mono (by omega)) T.cl_Keeper T.m_Keeper_memory T.k_Keeper T.b_Keeper_memory (le_var (pv 0)) (la_cons (le_methE (ok_Keeper_node T) (hr.mono (by omega)) T.cl_Keeper T.m_Keeper_node T.k_Keeper T.b_Keeper_node (le_var (pv 0)) (la_cons (le_var (pv 1)) la_nil) (len_cons (fun _ _ _ _ h => len_nil h))) la_nil) (len_cons (fun _ _ _ _ h => len_nil h))) (le_lst la_nil) (nomark _)))))))))))))
theorem ok_law (T : Tx K mg) : FnOk P w K mg base CX0 (7) T.a_law T.d_law ["_law_script"] (Sp0 ⟨P, w, K, mg, B0⟩ 1 f_law) := by
  refine fn0 T.F_law sc_law rfl rfl fun cdv A outer s H E hr => ?_
  exact (lss_cons (ls_set (i := 1) sc_law.nd (le_make0 T.mk_Keeper (ok_Keeper___init__ T) (hr.mono (by omega)) T.k_Keeper T.b_Keeper___init__))
    (lss_cons (ls_set (i := 2) sc_law.nd (le_call0 (ok__law_names T) (hr.mono (by omega)) T.g__law_names T.F__law_names.kp T.b__law_names (la_cons (le_call0 (ok__law_cell_at T) (hr.mono (by omega)) T.g__law_cell_at T.F__law_cell_at.kp T.b__law_cell_at (la_cons (le_var (pv 0)) (la_cons le_int la_nil)) (len_cons (len_cons (fun _ _ _ _ h => len_nil h)))) (la_cons le_int la_nil)) (len_cons (len_cons (fun _ _ _ _ h => len_nil h)))))
    (lss_cons (ls_set (i := 3) sc_law.nd (le_dic pe_dnewK))
    (lss_cons (ls_for PassesOwn.never rfl (li_seq (le_slice (le_var (pv 0)) (lo_some le_int) (lo_some le_int))) (lg_name (pg_name (i := 4) sc_law.nd rfl (by first | exact Or.inl rfl | exact Or.inr rfl))) (lss_cons (ls_set (i := 5) sc_law.nd (le_call0 (ok__law_mixed T) (hr.mono (by omega)) T.g__law_mixed T.F__law_mixed.kp T.b__law_mixed (la_cons (le_var (pv 4)) (la_cons le_int la_nil)) (len_cons (len_cons (fun _ _ _ _ h => len_nil h)))))
    (lss_cons (ls_set (i := 6) sc_law.nd (le_ix ix_D (le_var (pv 2)) (le_op op_modD (le_var (pv 5)) le_int) (fun _ _ => rfl)))
    (lss_cons (ls_set (i := 7) sc_law.nd (le_op op_addD le_int (le_op op_modD (le_op op_divD (le_var (pv 5)) le_int) le_int)))
    (lss_cons (ls_set (i := 8) sc_law.nd (le_lst (la_cons (le_cmp (op_eqDD hr.units) (le_op op_modD (le_call0 (ok__law_mixed T) (hr.mono (by omega)) T.g__law_mixed T.F__law_mixed.kp T.b__law_mixed (la_cons (le_var (pv 4)) (la_cons le_int la_nil)) (len_cons (len_cons (fun _ _ _ _ h => len_nil h)))) le_int) le_int (nomark _)) (la_cons (le_cmp (op_eqDD hr.units) (le_op op_modD (le_call0 (ok__law_mixed T) (hr.mono (by omega)) T.g__law_mixed T.F__law_mixed.kp T.b__law_mixed (la_cons (le_var (pv 4)) (la_cons le_int la_nil)) (len_cons (len_cons (fun _ _ _ _ h => len_nil h)))) le_int) le_int (nomark _)) la_nil))))
    (lss_cons (ls_if (lt_val (le_ix ix_D (le_var (pv 8)) le_int (fun _ _ => rfl))) (lss_one (ls_set (i := 6) sc_law.nd (le_call0 (ok__law_no_name T) (hr.mono (by omega)) T.g__law_no_name T.F__law_no_name.kp T.b__law_no_name (la_cons (le_call0 (ok__law_mixed T) (hr.mono (by omega)) T.g__law_mixed T.F__law_mixed.kp T.b__law_mixed (la_cons (le_var (pv 4)) (la_cons le_int la_nil)) (len_cons (len_cons (fun _ _ _ _ h => len_nil h)))) (la_cons (le_var (pv 6)) la_nil)) (len_cons (len_cons (fun _ _ _ _ h => len_nil h)))))) lss_nil)
    (lss_cons (ls_if (lt_val (le_ix ix_D (le_var (pv 8)) le_int (fun _ _ => rfl))) (lss_one (ls_set (i := 7) sc_law.nd (le_call0 (ok__law_no_width T) (hr.mono (by omega)) T.g__law_no_width T.F__law_no_width.kp T.b__law_no_width (la_cons (le_var (pv 4)) la_nil) (len_cons (fun _ _ _ _ h => len_nil h))))) lss_nil)
    (lss_cons (ls_set (i := 9) sc_law.nd (le_call0 (ok__law_due T) (hr.mono (by omega)) T.g__law_due T.F__law_due.kp T.b__law_due (la_cons (le_var (pv 6)) (la_cons (le_var (pv 7)) (la_cons (le_var (pv 3)) (la_cons (le_var (pv 8)) la_nil)))) (len_cons (len_cons (len_cons (len_cons (fun _ _ _ _ h => len_nil h)))))))
    (lss_cons (ls_if (lt_cmp (op_neDD hr.units) (le_call0 (ok__law_made T) (hr.mono (by omega)) T.g__law_made T.F__law_made.kp T.b__law_made (la_cons (le_var (pv 1)) (la_cons (le_var (pv 6)) (la_cons (le_var (pv 7)) la_nil))) (len_cons (len_cons (len_cons (fun _ _ _ _ h => len_nil h))))) (le_var (pv 9)) (nomark _)) (lss_one (ls_ret le_bl)) lss_nil)
    (lss_cons (ls_if (lt_cmp (op_eqDD hr.units) (le_var (pv 9)) (le_neg le_int) (nomark _)) (lss_one (ls_dput (uu hr.units) (le_var (pv 3)) (le_var (pv 6)) (le_var (pv 7)))) lss_nil)
    (lss_cons (ls_set (i := 10) sc_law.nd (le_ix ix_D (le_var (pv 2)) (le_op op_modD (le_call0 (ok__law_mixed T) (hr.mono (by omega)) T.g__law_mixed T.F__law_mixed.kp T.b__law_mixed (la_cons (le_var (pv 4)) (la_cons le_int la_nil)) (len_cons (len_cons (fun _ _ _ _ h => len_nil h)))) le_int) (fun _ _ => rfl)))
    (lss_cons (ls_if (lt_not (lt_val (le_call0 (ok__law_look T) (hr.mono (by omega)) T.g__law_look T.F__law_look.kp T.b__law_look (la_cons (le_var (pv 1)) (la_cons (le_var (pv 10)) (la_cons (le_var (pv 3)) (la_cons (le_din (uu hr.units) (le_var (pv 10)) (le_var (pv 3))) la_nil)))) (len_cons (len_cons (len_cons (len_cons (fun _ _ _ _ h => len_nil h)))))))) (lss_one (ls_ret le_bl)) lss_nil)
    (lss_one (ls_if (lt_not (lt_val (le_call0 (ok__law_look T) (hr.mono (by omega)) T.g__law_look T.F__law_look.kp T.b__law_look (la_cons (le_var (pv 1)) (la_cons (le_call0 (ok__law_no_name T) (hr.mono (by omega)) T.g__law_no_name T.F__law_no_name.kp T.b__law_no_name (la_cons (le_call0 (ok__law_mixed T) (hr.mono (by omega)) T.g__law_mixed T.F__law_mixed.kp T.b__law_mixed (la_cons (le_var (pv 4)) (la_cons le_int la_nil)) (len_cons (len_cons (fun _ _ _ _ h => len_nil h)))) (la_cons (le_var (pv 10)) la_nil)) (len_cons (len_cons (fun _ _ _ _ h => len_nil h)))) (la_cons (le_var (pv 3)) (la_cons le_bl la_nil)))) (len_cons (len_cons (len_cons (len_cons (fun _ _ _ _ h => len_nil h)))))))) (lss_one (ls_ret le_bl)) lss_nil))))))))))))))
    (lss_cons (ls_lock (fo := (varF 3)) rfl (ls_setLc (i := 11) (own := [("_law_name", 6), ("_law_width", 7)]) rfl sc_law.nd (sw_true rfl rfl rfl (by decide +kernel)) (li_items (le_var (pv 3))) (blkOk_by (own := [("_law_name", 6), ("_law_width", 7)]) (N := ["_law_script", "_law_keeper", "_law_names_here", "_law_widths", "_law_cell", "_law_way", "_law_name", "_law_width", "_law_odd", "_law_due_here", "_law_other", "_law_kept", "_law_nodes"]) (sc := defScope s_law) (by decide +kernel)) (fun _ _ _ _ _ => (lgw_tup rfl (lgws_cons (lgw_name (pg_name (i := 6) sc_law.nd rfl (by first | exact Or.inl rfl | exact Or.inr rfl)) (by decide)) (lgws_cons (lgw_name (pg_name (i := 7) sc_law.nd rfl (by first | exact Or.inl rfl | exact Or.inr rfl)) (by decide)) lgws_nil)))) (fun _ _ _ _ _ => lts_nil) (fun _ _ _ _ _ => (le_tup (la_cons le_str (la_cons (le_var (pv 6)) (la_cons (le_var (pv 7)) (la_cons (le_lst la_nil) la_nil))))))))
    (lss_cons (ls_lock (fo := (varF 3)) rfl (ls_setLc (i := 12) (own := [("_law_name", 6), ("_law_width", 7)]) rfl sc_law.nd (sw_true rfl rfl rfl (by decide +kernel)) (li_items (le_var (pv 3))) (blkOk_by (own := [("_law_name", 6), ("_law_width", 7)]) (N := ["_law_script", "_law_keeper", "_law_names_here", "_law_widths", "_law_cell", "_law_way", "_law_name", "_law_width", "_law_odd", "_law_due_here", "_law_other", "_law_kept", "_law_nodes"]) (sc := defScope s_law) (by decide +kernel)) (fun _ _ _ _ _ => (lgw_tup rfl (lgws_cons (lgw_name (pg_name (i := 6) sc_law.nd rfl (by first | exact Or.inl rfl | exact Or.inr rfl)) (by decide)) (lgws_cons (lgw_name (pg_name (i := 7) sc_law.nd rfl (by first | exact Or.inl rfl | exact Or.inr rfl)) (by decide)) lgws_nil)))) (fun _ _ _ _ _ => lts_nil) (fun _ _ _ _ _ => (le_tup (la_cons le_str (la_cons (le_tup (la_cons (le_var (pv 6)) (la_cons (le_var (pv 7)) la_nil))) (la_cons (le_tup la_nil) la_nil)))))))
    (lss_one (ls_ret (le_and (le_cmp (op_eqX hr.units) (le_meth0 (ok_Keeper_kept T) (hr.mono (by omega)) T.cl_Keeper T.m_Keeper_kept T.k_Keeper T.b_Keeper_kept (le_var (pv 1))) (le_var (pv 11)) (nomark _)) (le_and (le_cmp (op_eqX hr.units) (le_meth0 (ok_Keeper_nodes T) (hr.mono (by omega)) T.cl_Keeper T.m_Keeper_nodes T.k_Keeper T.b_Keeper_nodes (le_var (pv 1))) (le_var (pv 12)) (nomark _)) (le_and1 (le_cmp (op_eqDD hr.units) (le_meth0 (ok_Keeper_depth T) (hr.mono (by omega)) T.cl_Keeper T.m_Keeper_depth T.k_Keeper T.b_Keeper_depth (le_var (pv 1))) le_int (nomark _)))))))))))))
end
theorem all_mk {l : PySem.W.OpenLaw} {w : World} {K : PySem.W.Frag} {h : Heap} {mg : Str → Option Value} {fa f0 f1 f2 f3 f4 f5 f6 f7 f8 f9 f10 f11 f12 f13 f14 f15 f16 f17 f18 f19 f20 f21 f22 f23 f24 f25 f26 f27 f28 f29 f30 f31 f32 f33 f34 f35 f36 : Addr} (X : K.In h) (G : h.Ns mainGlobals mg) (hfa : mg "law" = some (.ref fa))
    {od0 an0 od1 an1 od2 an2 od3 an3 od4 an4 od5 an5 od6 an6 od7 an7 od8 an8 od9 an9 od10 an10 od11 an11 od12 an12 od13 an13 od14 an14 od15 an15 od16 an16 od17 an17 od18 an18 od19 an19 od20 an20 od21 an21 od22 an22 od23 an23 od24 an24 od25 an25 od26 an26 od27 an27 od28 an28 od29 an29 od30 an30 od31 an31 od32 an32 od33 an33 od34 an34 od35 an35 od36 an36 : Option Addr} {sl0 sl1 sl2 sl3 sl4 sl5 sl6 sl7 sl8 sl9 sl10 sl11 sl12 sl13 sl14 sl15 sl16 sl17 sl18 sl19 sl20 sl21 sl22 sl23 sl24 sl25 sl26 sl27 sl28 sl29 sl30 sl31 sl32 sl33 sl34 sl35 sl36 : Array (Option Value)} {oc0 kV0 dc0 pm0 cd0 ct0 oc1 kV1 dc1 pm1 cd1 ct1 oc2 kV2 dc2 pm2 cd2 ct2 oc3 kV3 dc3 pm3 cd3 ct3 oc4 kV4 dc4 pm4 cd4 ct4 oc5 kV5 dc5 pm5 cd5 ct5 oc6 kV6 dc6 pm6 cd6 ct6 oc7 kV7 dc7 pm7 cd7 ct7 oc8 kV8 dc8 pm8 cd8 ct8 oc9 kV9 dc9 pm9 cd9 ct9 oc10 kV10 dc10 pm10 cd10 ct10 oc11 kV11 dc11 pm11 cd11 ct11 oc12 kV12 dc12 pm12 cd12 ct12 oc13 kV13 dc13 pm13 cd13 ct13 oc14 kV14 dc14 pm14 cd14 ct14 oc15 kV15 dc15 pm15 cd15 ct15 oc16 kV16 dc16 pm16 cd16 ct16 oc17 kV17 dc17 pm17 cd17 ct17 oc18 kV18 dc18 pm18 cd18 ct18 oc19 kV19 dc19 pm19 cd19 ct19 oc20 kV20 dc20 pm20 cd20 ct20 oc21 kV21 dc21 pm21 cd21 ct21 oc22 kV22 dc22 pm22 cd22 ct22 oc23 kV23 dc23 pm23 cd23 ct23 oc24 kV24 dc24 pm24 cd24 ct24 oc25 kV25 dc25 pm25 cd25 ct25 oc26 kV26 dc26 pm26 cd26 ct26 oc27 kV27 dc27 pm27 cd27 ct27 oc28 kV28 dc28 pm28 cd28 ct28 oc29 kV29 dc29 pm29 cd29 ct29 oc30 kV30 dc30 pm30 cd30 ct30 oc31 kV31 dc31 pm31 cd31 ct31 oc32 kV32 dc32 pm32 cd32 ct32 oc33 kV33 dc33 pm33 cd33 ct33 oc34 kV34 dc34 pm34 cd34 ct34 oc35 kV35 dc35 pm35 cd35 ct35 oc36 kV36 dc36 pm36 cd36 ct36 : Value}
    {C_Net C_Machine C_Keeper : Addr}
    (a0 : PySem.W.nsIn K mainGlobals "is_whole" = some (some (.ref f0))) (l0 : K.lookup f0 = some ⟨oc0, od0, .func (PySem.W.fnOf "is_whole" "is_whole" (defArgs s_is_whole) (defBody s_is_whole) (defScope s_is_whole) .none kV0 dc0 pm0 an0 cd0 ct0), sl0⟩) (c0 : PySem.W.codeIn K cd0 "is_whole" = true) (k0 : PySem.W.keepIn K (.ref f0) = true)
    (a1 : PySem.W.nsIn K mainGlobals "told" = some (some (.ref f1))) (l1 : K.lookup f1 = some ⟨oc1, od1, .func (PySem.W.fnOf "told" "told" (defArgs s_told) (defBody s_told) (defScope s_told) .none kV1 dc1 pm1 an1 cd1 ct1), sl1⟩) (c1 : PySem.W.codeIn K cd1 "told" = true) (k1 : PySem.W.keepIn K (.ref f1) = true)
    (a2 : PySem.W.findIn K (.ref C_Net) "__init__" = some (some (.ref f2))) (i2 : PySem.W.isFn K (.ref f2) = true) (l2 : K.lookup f2 = some ⟨oc2, od2, .func (PySem.W.fnOf "__init__" "Net.__init__" (defArgs s_Net___init__) (defBody s_Net___init__) (defScope s_Net___init__) .none kV2 dc2 pm2 an2 cd2 ct2), sl2⟩) (c2 : PySem.W.codeIn K cd2 "Net.__init__" = true) (k2 : PySem.W.keepIn K (.ref f2) = true)
    (a3 : PySem.W.findIn K (.ref C_Net) "put" = some (some (.ref f3))) (i3 : PySem.W.isFn K (.ref f3) = true) (l3 : K.lookup f3 = some ⟨oc3, od3, .func (PySem.W.fnOf "put" "Net.put" (defArgs s_Net_put) (defBody s_Net_put) (defScope s_Net_put) .none kV3 dc3 pm3 an3 cd3 ct3), sl3⟩) (c3 : PySem.W.codeIn K cd3 "Net.put" = true) (k3 : PySem.W.keepIn K (.ref f3) = true)
    (a4 : PySem.W.findIn K (.ref C_Net) "nodes" = some (some (.ref f4))) (i4 : PySem.W.isFn K (.ref f4) = true) (l4 : K.lookup f4 = some ⟨oc4, od4, .func (PySem.W.fnOf "nodes" "Net.nodes" (defArgs s_Net_nodes) (defBody s_Net_nodes) (defScope s_Net_nodes) .none kV4 dc4 pm4 an4 cd4 ct4), sl4⟩) (c4 : PySem.W.codeIn K cd4 "Net.nodes" = true) (k4 : PySem.W.keepIn K (.ref f4) = true)
    (a5 : PySem.W.findIn K (.ref C_Machine) "rows_of" = some (some (.ref f5))) (i5 : PySem.W.isFn K (.ref f5) = true) (l5 : K.lookup f5 = some ⟨oc5, od5, .func (PySem.W.fnOf "rows_of" "Machine.rows_of" (defArgs s_Machine_rows_of) (defBody s_Machine_rows_of) (defScope s_Machine_rows_of) .none kV5 dc5 pm5 an5 cd5 ct5), sl5⟩) (c5 : PySem.W.codeIn K cd5 "Machine.rows_of" = true) (k5 : PySem.W.keepIn K (.ref f5) = true)
    (a6 : PySem.W.findIn K (.ref C_Machine) "memory" = some (some (.ref f6))) (i6 : PySem.W.isFn K (.ref f6) = true) (l6 : K.lookup f6 = some ⟨oc6, od6, .func (PySem.W.fnOf "memory" "Machine.memory" (defArgs s_Machine_memory) (defBody s_Machine_memory) (defScope s_Machine_memory) .none kV6 dc6 pm6 an6 cd6 ct6), sl6⟩) (c6 : PySem.W.codeIn K cd6 "Machine.memory" = true) (k6 : PySem.W.keepIn K (.ref f6) = true)
    (a7 : PySem.W.nsIn K mainGlobals "is_name" = some (some (.ref f7))) (l7 : K.lookup f7 = some ⟨oc7, od7, .func (PySem.W.fnOf "is_name" "is_name" (defArgs s_is_name) (defBody s_is_name) (defScope s_is_name) .none kV7 dc7 pm7 an7 cd7 ct7), sl7⟩) (c7 : PySem.W.codeIn K cd7 "is_name" = true) (k7 : PySem.W.keepIn K (.ref f7) = true)
    (a8 : PySem.W.findIn K (.ref C_Keeper) "put_down" = some (some (.ref f8))) (i8 : PySem.W.isFn K (.ref f8) = true) (l8 : K.lookup f8 = some ⟨oc8, od8, .func (PySem.W.fnOf "put_down" "Keeper.put_down" (defArgs s_Keeper_put_down) (defBody s_Keeper_put_down) (defScope s_Keeper_put_down) .none kV8 dc8 pm8 an8 cd8 ct8), sl8⟩) (c8 : PySem.W.codeIn K cd8 "Keeper.put_down" = true) (k8 : PySem.W.keepIn K (.ref f8) = true)
    (a9 : PySem.W.findIn K (.ref C_Keeper) "depth" = some (some (.ref f9))) (i9 : PySem.W.isFn K (.ref f9) = true) (l9 : K.lookup f9 = some ⟨oc9, od9, .func (PySem.W.fnOf "depth" "Keeper.depth" (defArgs s_Keeper_depth) (defBody s_Keeper_depth) (defScope s_Keeper_depth) .none kV9 dc9 pm9 an9 cd9 ct9), sl9⟩) (c9 : PySem.W.codeIn K cd9 "Keeper.depth" = true) (k9 : PySem.W.keepIn K (.ref f9) = true)
    (a10 : PySem.W.nsIn K mainGlobals "_law_cell_at" = some (some (.ref f10))) (l10 : K.lookup f10 = some ⟨oc10, od10, .func (PySem.W.fnOf "_law_cell_at" "_law_cell_at" (defArgs s__law_cell_at) (defBody s__law_cell_at) (defScope s__law_cell_at) .none kV10 dc10 pm10 an10 cd10 ct10), sl10⟩) (c10 : PySem.W.codeIn K cd10 "_law_cell_at" = true) (k10 : PySem.W.keepIn K (.ref f10) = true)
    (a11 : PySem.W.nsIn K mainGlobals "_law_mixed" = some (some (.ref f11))) (l11 : K.lookup f11 = some ⟨oc11, od11, .func (PySem.W.fnOf "_law_mixed" "_law_mixed" (defArgs s__law_mixed) (defBody s__law_mixed) (defScope s__law_mixed) .none kV11 dc11 pm11 an11 cd11 ct11), sl11⟩) (c11 : PySem.W.codeIn K cd11 "_law_mixed" = true) (k11 : PySem.W.keepIn K (.ref f11) = true)
    (a12 : PySem.W.nsIn K mainGlobals "_law_which" = some (some (.ref f12))) (l12 : K.lookup f12 = some ⟨oc12, od12, .func (PySem.W.fnOf "_law_which" "_law_which" (defArgs s__law_which) (defBody s__law_which) (defScope s__law_which) .none kV12 dc12 pm12 an12 cd12 ct12), sl12⟩) (c12 : PySem.W.codeIn K cd12 "_law_which" = true) (k12 : PySem.W.keepIn K (.ref f12) = true)
    (a13 : PySem.W.nsIn K mainGlobals "_law_no_name" = some (some (.ref f13))) (l13 : K.lookup f13 = some ⟨oc13, od13, .func (PySem.W.fnOf "_law_no_name" "_law_no_name" (defArgs s__law_no_name) (defBody s__law_no_name) (defScope s__law_no_name) .none kV13 dc13 pm13 an13 cd13 ct13), sl13⟩) (c13 : PySem.W.codeIn K cd13 "_law_no_name" = true) (k13 : PySem.W.keepIn K (.ref f13) = true)
    (a14 : PySem.W.nsIn K mainGlobals "_law_no_width" = some (some (.ref f14))) (l14 : K.lookup f14 = some ⟨oc14, od14, .func (PySem.W.fnOf "_law_no_width" "_law_no_width" (defArgs s__law_no_width) (defBody s__law_no_width) (defScope s__law_no_width) .none kV14 dc14 pm14 an14 cd14 ct14), sl14⟩) (c14 : PySem.W.codeIn K cd14 "_law_no_width" = true) (k14 : PySem.W.keepIn K (.ref f14) = true)
    (a15 : PySem.W.nsIn K mainGlobals "_law_due" = some (some (.ref f15))) (l15 : K.lookup f15 = some ⟨oc15, od15, .func (PySem.W.fnOf "_law_due" "_law_due" (defArgs s__law_due) (defBody s__law_due) (defScope s__law_due) .none kV15 dc15 pm15 an15 cd15 ct15), sl15⟩) (c15 : PySem.W.codeIn K cd15 "_law_due" = true) (k15 : PySem.W.keepIn K (.ref f15) = true)
    (a16 : PySem.W.findIn K (.ref C_Net) "table" = some (some (.ref f16))) (i16 : PySem.W.isFn K (.ref f16) = true) (l16 : K.lookup f16 = some ⟨oc16, od16, .func (PySem.W.fnOf "table" "Net.table" (defArgs s_Net_table) (defBody s_Net_table) (defScope s_Net_table) .none kV16 dc16 pm16 an16 cd16 ct16), sl16⟩) (c16 : PySem.W.codeIn K cd16 "Net.table" = true) (k16 : PySem.W.keepIn K (.ref f16) = true)
    (a17 : PySem.W.findIn K (.ref C_Machine) "nodes" = some (some (.ref f17))) (i17 : PySem.W.isFn K (.ref f17) = true) (l17 : K.lookup f17 = some ⟨oc17, od17, .func (PySem.W.fnOf "nodes" "Machine.nodes" (defArgs s_Machine_nodes) (defBody s_Machine_nodes) (defScope s_Machine_nodes) .none kV17 dc17 pm17 an17 cd17 ct17), sl17⟩) (c17 : PySem.W.codeIn K cd17 "Machine.nodes" = true) (k17 : PySem.W.keepIn K (.ref f17) = true)
    (a18 : PySem.W.findIn K (.ref C_Keeper) "not_taken" = some (some (.ref f18))) (i18 : PySem.W.isFn K (.ref f18) = true) (l18 : K.lookup f18 = some ⟨oc18, od18, .func (PySem.W.fnOf "not_taken" "Keeper.not_taken" (defArgs s_Keeper_not_taken) (defBody s_Keeper_not_taken) (defScope s_Keeper_not_taken) .none kV18 dc18 pm18 an18 cd18 ct18), sl18⟩) (c18 : PySem.W.codeIn K cd18 "Keeper.not_taken" = true) (k18 : PySem.W.keepIn K (.ref f18) = true)
    (a19 : PySem.W.findIn K (.ref C_Keeper) "node" = some (some (.ref f19))) (i19 : PySem.W.isFn K (.ref f19) = true) (l19 : K.lookup f19 = some ⟨oc19, od19, .func (PySem.W.fnOf "node" "Keeper.node" (defArgs s_Keeper_node) (defBody s_Keeper_node) (defScope s_Keeper_node) .none kV19 dc19 pm19 an19 cd19 ct19), sl19⟩) (c19 : PySem.W.codeIn K cd19 "Keeper.node" = true) (k19 : PySem.W.keepIn K (.ref f19) = true)
    (a20 : PySem.W.findIn K (.ref C_Keeper) "memory" = some (some (.ref f20))) (i20 : PySem.W.isFn K (.ref f20) = true) (l20 : K.lookup f20 = some ⟨oc20, od20, .func (PySem.W.fnOf "memory" "Keeper.memory" (defArgs s_Keeper_memory) (defBody s_Keeper_memory) (defScope s_Keeper_memory) .none kV20 dc20 pm20 an20 cd20 ct20), sl20⟩) (c20 : PySem.W.codeIn K cd20 "Keeper.memory" = true) (k20 : PySem.W.keepIn K (.ref f20) = true)
    (a21 : PySem.W.findIn K (.ref C_Keeper) "kept" = some (some (.ref f21))) (i21 : PySem.W.isFn K (.ref f21) = true) (l21 : K.lookup f21 = some ⟨oc21, od21, .func (PySem.W.fnOf "kept" "Keeper.kept" (defArgs s_Keeper_kept) (defBody s_Keeper_kept) (defScope s_Keeper_kept) .none kV21 dc21 pm21 an21 cd21 ct21), sl21⟩) (c21 : PySem.W.codeIn K cd21 "Keeper.kept" = true) (k21 : PySem.W.keepIn K (.ref f21) = true)
    (a22 : PySem.W.nsIn K mainGlobals "_law_names" = some (some (.ref f22))) (l22 : K.lookup f22 = some ⟨oc22, od22, .func (PySem.W.fnOf "_law_names" "_law_names" (defArgs s__law_names) (defBody s__law_names) (defScope s__law_names) .none kV22 dc22 pm22 an22 cd22 ct22), sl22⟩) (c22 : PySem.W.codeIn K cd22 "_law_names" = true) (k22 : PySem.W.keepIn K (.ref f22) = true)
    (a23 : PySem.W.findIn K (.ref C_Machine) "__init__" = some (some (.ref f23))) (i23 : PySem.W.isFn K (.ref f23) = true) (l23 : K.lookup f23 = some ⟨oc23, od23, .func (PySem.W.fnOf "__init__" "Machine.__init__" (defArgs s_Machine___init__) (defBody s_Machine___init__) (defScope s_Machine___init__) .none kV23 dc23 pm23 an23 cd23 ct23), sl23⟩) (c23 : PySem.W.codeIn K cd23 "Machine.__init__" = true) (k23 : PySem.W.keepIn K (.ref f23) = true)
    (a24 : PySem.W.findIn K (.ref C_Machine) "table" = some (some (.ref f24))) (i24 : PySem.W.isFn K (.ref f24) = true) (l24 : K.lookup f24 = some ⟨oc24, od24, .func (PySem.W.fnOf "table" "Machine.table" (defArgs s_Machine_table) (defBody s_Machine_table) (defScope s_Machine_table) .none kV24 dc24 pm24 an24 cd24 ct24), sl24⟩) (c24 : PySem.W.codeIn K cd24 "Machine.table" = true) (k24 : PySem.W.keepIn K (.ref f24) = true)
    (a25 : PySem.W.findIn K (.ref C_Keeper) "ask" = some (some (.ref f25))) (i25 : PySem.W.isFn K (.ref f25) = true) (l25 : K.lookup f25 = some ⟨oc25, od25, .func (PySem.W.fnOf "ask" "Keeper.ask" (defArgs s_Keeper_ask) (defBody s_Keeper_ask) (defScope s_Keeper_ask) .none kV25 dc25 pm25 an25 cd25 ct25), sl25⟩) (c25 : PySem.W.codeIn K cd25 "Keeper.ask" = true) (k25 : PySem.W.keepIn K (.ref f25) = true)
    (a26 : PySem.W.findIn K (.ref C_Keeper) "told" = some (some (.ref f26))) (i26 : PySem.W.isFn K (.ref f26) = true) (l26 : K.lookup f26 = some ⟨oc26, od26, .func (PySem.W.fnOf "told" "Keeper.told" (defArgs s_Keeper_told) (defBody s_Keeper_told) (defScope s_Keeper_told) .none kV26 dc26 pm26 an26 cd26 ct26), sl26⟩) (c26 : PySem.W.codeIn K cd26 "Keeper.told" = true) (k26 : PySem.W.keepIn K (.ref f26) = true)
    (a27 : PySem.W.findIn K (.ref C_Keeper) "plainly" = some (some (.ref f27))) (i27 : PySem.W.isFn K (.ref f27) = true) (l27 : K.lookup f27 = some ⟨oc27, od27, .func (PySem.W.fnOf "plainly" "Keeper.plainly" (defArgs s_Keeper_plainly) (defBody s_Keeper_plainly) (defScope s_Keeper_plainly) .none kV27 dc27 pm27 an27 cd27 ct27), sl27⟩) (c27 : PySem.W.codeIn K cd27 "Keeper.plainly" = true) (k27 : PySem.W.keepIn K (.ref f27) = true)
    (a28 : PySem.W.findIn K (.ref C_Keeper) "width" = some (some (.ref f28))) (i28 : PySem.W.isFn K (.ref f28) = true) (l28 : K.lookup f28 = some ⟨oc28, od28, .func (PySem.W.fnOf "width" "Keeper.width" (defArgs s_Keeper_width) (defBody s_Keeper_width) (defScope s_Keeper_width) .none kV28 dc28 pm28 an28 cd28 ct28), sl28⟩) (c28 : PySem.W.codeIn K cd28 "Keeper.width" = true) (k28 : PySem.W.keepIn K (.ref f28) = true)
    (a29 : PySem.W.findIn K (.ref C_Keeper) "size" = some (some (.ref f29))) (i29 : PySem.W.isFn K (.ref f29) = true) (l29 : K.lookup f29 = some ⟨oc29, od29, .func (PySem.W.fnOf "size" "Keeper.size" (defArgs s_Keeper_size) (defBody s_Keeper_size) (defScope s_Keeper_size) .none kV29 dc29 pm29 an29 cd29 ct29), sl29⟩) (c29 : PySem.W.codeIn K cd29 "Keeper.size" = true) (k29 : PySem.W.keepIn K (.ref f29) = true)
    (a30 : PySem.W.findIn K (.ref C_Keeper) "nodes" = some (some (.ref f30))) (i30 : PySem.W.isFn K (.ref f30) = true) (l30 : K.lookup f30 = some ⟨oc30, od30, .func (PySem.W.fnOf "nodes" "Keeper.nodes" (defArgs s_Keeper_nodes) (defBody s_Keeper_nodes) (defScope s_Keeper_nodes) .none kV30 dc30 pm30 an30 cd30 ct30), sl30⟩) (c30 : PySem.W.codeIn K cd30 "Keeper.nodes" = true) (k30 : PySem.W.keepIn K (.ref f30) = true)
    (a31 : PySem.W.findIn K (.ref C_Keeper) "table" = some (some (.ref f31))) (i31 : PySem.W.isFn K (.ref f31) = true) (l31 : K.lookup f31 = some ⟨oc31, od31, .func (PySem.W.fnOf "table" "Keeper.table" (defArgs s_Keeper_table) (defBody s_Keeper_table) (defScope s_Keeper_table) .none kV31 dc31 pm31 an31 cd31 ct31), sl31⟩) (c31 : PySem.W.codeIn K cd31 "Keeper.table" = true) (k31 : PySem.W.keepIn K (.ref f31) = true)
    (a32 : PySem.W.nsIn K mainGlobals "_law_asked" = some (some (.ref f32))) (l32 : K.lookup f32 = some ⟨oc32, od32, .func (PySem.W.fnOf "_law_asked" "_law_asked" (defArgs s__law_asked) (defBody s__law_asked) (defScope s__law_asked) .none kV32 dc32 pm32 an32 cd32 ct32), sl32⟩) (c32 : PySem.W.codeIn K cd32 "_law_asked" = true) (k32 : PySem.W.keepIn K (.ref f32) = true)
    (a33 : PySem.W.findIn K (.ref C_Keeper) "__init__" = some (some (.ref f33))) (i33 : PySem.W.isFn K (.ref f33) = true) (l33 : K.lookup f33 = some ⟨oc33, od33, .func (PySem.W.fnOf "__init__" "Keeper.__init__" (defArgs s_Keeper___init__) (defBody s_Keeper___init__) (defScope s_Keeper___init__) .none kV33 dc33 pm33 an33 cd33 ct33), sl33⟩) (c33 : PySem.W.codeIn K cd33 "Keeper.__init__" = true) (k33 : PySem.W.keepIn K (.ref f33) = true)
    (a34 : PySem.W.nsIn K mainGlobals "_law_made" = some (some (.ref f34))) (l34 : K.lookup f34 = some ⟨oc34, od34, .func (PySem.W.fnOf "_law_made" "_law_made" (defArgs s__law_made) (defBody s__law_made) (defScope s__law_made) .none kV34 dc34 pm34 an34 cd34 ct34), sl34⟩) (c34 : PySem.W.codeIn K cd34 "_law_made" = true) (k34 : PySem.W.keepIn K (.ref f34) = true)
    (a35 : PySem.W.nsIn K mainGlobals "_law_look" = some (some (.ref f35))) (l35 : K.lookup f35 = some ⟨oc35, od35, .func (PySem.W.fnOf "_law_look" "_law_look" (defArgs s__law_look) (defBody s__law_look) (defScope s__law_look) .none kV35 dc35 pm35 an35 cd35 ct35), sl35⟩) (c35 : PySem.W.codeIn K cd35 "_law_look" = true) (k35 : PySem.W.keepIn K (.ref f35) = true)
    (a36 : PySem.W.nsIn K mainGlobals "law" = some (some (.ref f36))) (l36 : K.lookup f36 = some ⟨oc36, od36, .func (PySem.W.fnOf "law" "law" (defArgs s_law) (defBody s_law) (defScope s_law) .none kV36 dc36 pm36 an36 cd36 ct36), sl36⟩) (c36 : PySem.W.codeIn K cd36 "law" = true) (k36 : PySem.W.keepIn K (.ref f36) = true)
    (z_ValueError : PySem.W.nsIn K mainGlobals "ValueError" = some none)
    (z_all : PySem.W.nsIn K mainGlobals "all" = some none)
    (z_bool : PySem.W.nsIn K mainGlobals "bool" = some none)
    (z_dict : PySem.W.nsIn K mainGlobals "dict" = some none)
    (z_int : PySem.W.nsIn K mainGlobals "int" = some none)
    (z_isinstance : PySem.W.nsIn K mainGlobals "isinstance" = some none)
    (z_len : PySem.W.nsIn K mainGlobals "len" = some none)
    (z_list : PySem.W.nsIn K mainGlobals "list" = some none)
    (z_range : PySem.W.nsIn K mainGlobals "range" = some none)
    (z_sorted : PySem.W.nsIn K mainGlobals "sorted" = some none)
    (z_str : PySem.W.nsIn K mainGlobals "str" = some none)
    {vv_LETTERS : Value} (v_LETTERS : PySem.W.nsIn K mainGlobals "LETTERS" = some (some vv_LETTERS)) (r_LETTERS : RelV (V.str "abcdefghijklmnopqrstuvwxyz") vv_LETTERS)
    {vv_MOST_keeper : Value} (v_MOST_keeper : PySem.W.nsIn K mainGlobals "MOST_keeper" = some (some vv_MOST_keeper)) (r_MOST_keeper : RelV (V.int 12) vv_MOST_keeper)
    (al_told_bags : PySem.W.nsIn K mainGlobals "told_bags" = some (some (.ref f1)))
    {fv_rank : Addr} (kf_rank : PySem.W.nsIn K mainGlobals "rank" = some (some (.ref fv_rank)))
    (xn_Net : PySem.W.nsIn K mainGlobals "Net" = some (some (.ref C_Net)))
    (xg_Net : PySem.W.plainGet K C_Net Str.empty = true)
    (xh_Net : PySem.W.hasDictIn K C_Net = true)
    (xp_Net : PySem.W.plainOver K C_Net = true)
    (xs_Net : PySem.W.findIn K (.ref C_Net) "__setattr__" = some (some (.builtin "object.__setattr__")))
    (xm_Net : PySem.W.makesIn K C_Net = true)
    (xk_Net : PySem.W.keepIn K (.ref C_Net) = true)
    (xf_Net_laid : PySem.W.findIn K (.ref C_Net) "laid" = some none)
    (xf_Net_wide : PySem.W.findIn K (.ref C_Net) "wide" = some none)
    (xf_Net_numbers : PySem.W.findIn K (.ref C_Net) "numbers" = some none)
    (xn_Machine : PySem.W.nsIn K mainGlobals "Machine" = some (some (.ref C_Machine)))
    (xg_Machine : PySem.W.plainGet K C_Machine Str.empty = true)
    (xh_Machine : PySem.W.hasDictIn K C_Machine = true)
    (xp_Machine : PySem.W.plainOver K C_Machine = true)
    (xs_Machine : PySem.W.findIn K (.ref C_Machine) "__setattr__" = some (some (.builtin "object.__setattr__")))
    (xm_Machine : PySem.W.makesIn K C_Machine = true)
    (xk_Machine : PySem.W.keepIn K (.ref C_Machine) = true)
    (xf_Machine_net : PySem.W.findIn K (.ref C_Machine) "net" = some none)
    (xf_Machine_parts : PySem.W.findIn K (.ref C_Machine) "parts" = some none)
    (xf_Machine_bags : PySem.W.findIn K (.ref C_Machine) "bags" = some none)
    (xn_Keeper : PySem.W.nsIn K mainGlobals "Keeper" = some (some (.ref C_Keeper)))
    (xg_Keeper : PySem.W.plainGet K C_Keeper Str.empty = true)
    (xh_Keeper : PySem.W.hasDictIn K C_Keeper = true)
    (xp_Keeper : PySem.W.plainOver K C_Keeper = true)
    (xs_Keeper : PySem.W.findIn K (.ref C_Keeper) "__setattr__" = some (some (.builtin "object.__setattr__")))
    (xm_Keeper : PySem.W.makesIn K C_Keeper = true)
    (xk_Keeper : PySem.W.keepIn K (.ref C_Keeper) = true)
    (xf_Keeper_machine : PySem.W.findIn K (.ref C_Keeper) "machine" = some none)
    (xf_Keeper_spots : PySem.W.findIn K (.ref C_Keeper) "spots" = some none)
    (xf_Keeper_wides : PySem.W.findIn K (.ref C_Keeper) "wides" = some none)
    (xf_Keeper_sizes : PySem.W.findIn K (.ref C_Keeper) "sizes" = some none)
    (xf_Keeper_texts : PySem.W.findIn K (.ref C_Keeper) "texts" = some none)
    (xf_Keeper_trees : PySem.W.findIn K (.ref C_Keeper) "trees" = some none)
    (xf_Keeper_news : PySem.W.findIn K (.ref C_Keeper) "news" = some none)
    (xf_Keeper_pours : PySem.W.findIn K (.ref C_Keeper) "pours" = some none)
    {e0 e1 e2 e3 e4 e5 e6 e7 e8 e9 e10 e11 e12 : Addr}
    (xa0 : PySem.W.nsIn K mainGlobals "ViewError" = some (some (.ref e0)))
    (xt0 : PySem.W.typeIn K (.ref e0) = some (.type "type"))
    (xh0 : PySem.W.hasDictIn K e0 = true)
    (xs0 : PySem.W.subIn K (.ref e0) (.ref e0) = some true)
    (xa1 : PySem.W.nsIn K mainGlobals "NoName" = some (some (.ref e1)))
    (xt1 : PySem.W.typeIn K (.ref e1) = some (.type "type"))
    (xh1 : PySem.W.hasDictIn K e1 = true)
    (xs1 : PySem.W.subIn K (.ref e1) (.ref e1) = some true)
    (xa2 : PySem.W.nsIn K mainGlobals "NoPlace" = some (some (.ref e2)))
    (xt2 : PySem.W.typeIn K (.ref e2) = some (.type "type"))
    (xh2 : PySem.W.hasDictIn K e2 = true)
    (xs2 : PySem.W.subIn K (.ref e2) (.ref e2) = some true)
    (xa3 : PySem.W.nsIn K mainGlobals "Unlike" = some (some (.ref e3)))
    (xt3 : PySem.W.typeIn K (.ref e3) = some (.type "type"))
    (xh3 : PySem.W.hasDictIn K e3 = true)
    (xs3 : PySem.W.subIn K (.ref e3) (.ref e3) = some true)
    (xa4 : PySem.W.nsIn K mainGlobals "Wide" = some (some (.ref e4)))
    (xt4 : PySem.W.typeIn K (.ref e4) = some (.type "type"))
    (xh4 : PySem.W.hasDictIn K e4 = true)
    (xs4 : PySem.W.subIn K (.ref e4) (.ref e4) = some true)
    (xa5 : PySem.W.nsIn K mainGlobals "Twice" = some (some (.ref e5)))
    (xt5 : PySem.W.typeIn K (.ref e5) = some (.type "type"))
    (xh5 : PySem.W.hasDictIn K e5 = true)
    (xs5 : PySem.W.subIn K (.ref e5) (.ref e5) = some true)
    (xa6 : PySem.W.nsIn K mainGlobals "NoText" = some (some (.ref e6)))
    (xt6 : PySem.W.typeIn K (.ref e6) = some (.type "type"))
    (xh6 : PySem.W.hasDictIn K e6 = true)
    (xs6 : PySem.W.subIn K (.ref e6) (.ref e6) = some true)
    (xa7 : PySem.W.nsIn K mainGlobals "TooLarge" = some (some (.ref e7)))
    (xt7 : PySem.W.typeIn K (.ref e7) = some (.type "type"))
    (xh7 : PySem.W.hasDictIn K e7 = true)
    (xs7 : PySem.W.subIn K (.ref e7) (.ref e7) = some true)
    (xa8 : PySem.W.nsIn K mainGlobals "NoWidth" = some (some (.ref e8)))
    (xt8 : PySem.W.typeIn K (.ref e8) = some (.type "type"))
    (xh8 : PySem.W.hasDictIn K e8 = true)
    (xs8 : PySem.W.subIn K (.ref e8) (.ref e8) = some true)
    (xa9 : PySem.W.nsIn K mainGlobals "NoRow" = some (some (.ref e9)))
    (xt9 : PySem.W.typeIn K (.ref e9) = some (.type "type"))
    (xh9 : PySem.W.hasDictIn K e9 = true)
    (xs9 : PySem.W.subIn K (.ref e9) (.ref e9) = some true)
    (xa10 : PySem.W.nsIn K mainGlobals "NoCount" = some (some (.ref e10)))
    (xt10 : PySem.W.typeIn K (.ref e10) = some (.type "type"))
    (xh10 : PySem.W.hasDictIn K e10 = true)
    (xs10 : PySem.W.subIn K (.ref e10) (.ref e10) = some true)
    (xa11 : PySem.W.nsIn K mainGlobals "Short" = some (some (.ref e11)))
    (xt11 : PySem.W.typeIn K (.ref e11) = some (.type "type"))
    (xh11 : PySem.W.hasDictIn K e11 = true)
    (xs11 : PySem.W.subIn K (.ref e11) (.ref e11) = some true)
    (xa12 : PySem.W.nsIn K mainGlobals "NoChange" = some (some (.ref e12)))
    (xt12 : PySem.W.typeIn K (.ref e12) = some (.type "type"))
    (xh12 : PySem.W.hasDictIn K e12 = true)
    (xs12 : PySem.W.subIn K (.ref e12) (.ref e12) = some true)
    (xv : PySem.W.subIn K (.ref e0) (.type "BaseException") = some true)
    (xn1 : PySem.W.specialIn K (.builtin "object.__class__") "__get__" = some (some (.builtin "getset_descriptor.__get__")))
    (xn2 : PySem.W.takesIn K (.builtin "object.__class__") = some true)
    (rq1 : PySem.W.excIn K e1 [.type "ValueError", .type "Exception", .type "BaseException", .type "object"] "ValueError.__new__" = true)
    (rk1 : PySem.W.keepIn K (.ref e1) = true)
    (rb1 : PySem.W.subIn K (.ref e1) (.type "BaseException") = some true)
    (rg1 : PySem.W.findIn K (.ref e1) "__getattribute__" = some (some (.builtin "BaseException.__getattribute__")))
    (rh1 : PySem.W.findIn K (.ref e1) "__getattr__" = some none)
    (rc1 : PySem.W.findIn K (.ref e1) "__class__" = some (some (.builtin "object.__class__")))
    (rm1 : PySem.W.mroIn K e1 (.type "object") = some true)
    (rv1 : PySem.W.subIn K (.ref e1) (.ref e0) = some true)
    (rp1_1 : PySem.W.subIn K (.ref e1) (.ref e1) = some true)
    (rp1_5 : PySem.W.subIn K (.ref e1) (.ref e5) = some false)
    (rp1_8 : PySem.W.subIn K (.ref e1) (.ref e8) = some false)
    (rp1_6 : PySem.W.subIn K (.ref e1) (.ref e6) = some false)
    (rp1_2 : PySem.W.subIn K (.ref e1) (.ref e2) = some false)
    (rp1_3 : PySem.W.subIn K (.ref e1) (.ref e3) = some false)
    (rp1_4 : PySem.W.subIn K (.ref e1) (.ref e4) = some false)
    (rp1_7 : PySem.W.subIn K (.ref e1) (.ref e7) = some false)
    (rp1_9 : PySem.W.subIn K (.ref e1) (.ref e9) = some false)
    (rp1_10 : PySem.W.subIn K (.ref e1) (.ref e10) = some false)
    (rp1_11 : PySem.W.subIn K (.ref e1) (.ref e11) = some false)
    (rp1_12 : PySem.W.subIn K (.ref e1) (.ref e12) = some false)
    (rp1_ValueError : PySem.W.subIn K (.ref e1) (.type "ValueError") = some true)
    (rq5 : PySem.W.excIn K e5 [.type "ValueError", .type "Exception", .type "BaseException", .type "object"] "ValueError.__new__" = true)
    (rk5 : PySem.W.keepIn K (.ref e5) = true)
    (rb5 : PySem.W.subIn K (.ref e5) (.type "BaseException") = some true)
    (rg5 : PySem.W.findIn K (.ref e5) "__getattribute__" = some (some (.builtin "BaseException.__getattribute__")))
    (rh5 : PySem.W.findIn K (.ref e5) "__getattr__" = some none)
    (rc5 : PySem.W.findIn K (.ref e5) "__class__" = some (some (.builtin "object.__class__")))
    (rm5 : PySem.W.mroIn K e5 (.type "object") = some true)
    (rv5 : PySem.W.subIn K (.ref e5) (.ref e0) = some true)
    (rp5_1 : PySem.W.subIn K (.ref e5) (.ref e1) = some false)
    (rp5_5 : PySem.W.subIn K (.ref e5) (.ref e5) = some true)
    (rp5_8 : PySem.W.subIn K (.ref e5) (.ref e8) = some false)
    (rp5_6 : PySem.W.subIn K (.ref e5) (.ref e6) = some false)
    (rp5_2 : PySem.W.subIn K (.ref e5) (.ref e2) = some false)
    (rp5_3 : PySem.W.subIn K (.ref e5) (.ref e3) = some false)
    (rp5_4 : PySem.W.subIn K (.ref e5) (.ref e4) = some false)
    (rp5_7 : PySem.W.subIn K (.ref e5) (.ref e7) = some false)
    (rp5_9 : PySem.W.subIn K (.ref e5) (.ref e9) = some false)
    (rp5_10 : PySem.W.subIn K (.ref e5) (.ref e10) = some false)
    (rp5_11 : PySem.W.subIn K (.ref e5) (.ref e11) = some false)
    (rp5_12 : PySem.W.subIn K (.ref e5) (.ref e12) = some false)
    (rp5_ValueError : PySem.W.subIn K (.ref e5) (.type "ValueError") = some true)
    (rq8 : PySem.W.excIn K e8 [.type "ValueError", .type "Exception", .type "BaseException", .type "object"] "ValueError.__new__" = true)
    (rk8 : PySem.W.keepIn K (.ref e8) = true)
    (rb8 : PySem.W.subIn K (.ref e8) (.type "BaseException") = some true)
    (rg8 : PySem.W.findIn K (.ref e8) "__getattribute__" = some (some (.builtin "BaseException.__getattribute__")))
    (rh8 : PySem.W.findIn K (.ref e8) "__getattr__" = some none)
    (rc8 : PySem.W.findIn K (.ref e8) "__class__" = some (some (.builtin "object.__class__")))
    (rm8 : PySem.W.mroIn K e8 (.type "object") = some true)
    (rv8 : PySem.W.subIn K (.ref e8) (.ref e0) = some true)
    (rp8_1 : PySem.W.subIn K (.ref e8) (.ref e1) = some false)
    (rp8_5 : PySem.W.subIn K (.ref e8) (.ref e5) = some false)
    (rp8_8 : PySem.W.subIn K (.ref e8) (.ref e8) = some true)
    (rp8_6 : PySem.W.subIn K (.ref e8) (.ref e6) = some false)
    (rp8_2 : PySem.W.subIn K (.ref e8) (.ref e2) = some false)
    (rp8_3 : PySem.W.subIn K (.ref e8) (.ref e3) = some false)
    (rp8_4 : PySem.W.subIn K (.ref e8) (.ref e4) = some false)
    (rp8_7 : PySem.W.subIn K (.ref e8) (.ref e7) = some false)
    (rp8_9 : PySem.W.subIn K (.ref e8) (.ref e9) = some false)
    (rp8_10 : PySem.W.subIn K (.ref e8) (.ref e10) = some false)
    (rp8_11 : PySem.W.subIn K (.ref e8) (.ref e11) = some false)
    (rp8_12 : PySem.W.subIn K (.ref e8) (.ref e12) = some false)
    (rp8_ValueError : PySem.W.subIn K (.ref e8) (.type "ValueError") = some true)
    (true_law : ∀ ns : List Int, ns.length ≤ 63 → ∃ st, f_law [.ref 0] [.rl (ns.map D.int)] = .ok (.bl true) st) :
    ∃ fd : FuncData, (∀ (s : Shared) (v : Value), BindsTo s fd ⟨[v], []⟩ [("_law_script", v)]) ∧ ∀ base : Heap, K.In base → base.Ns mainGlobals mg → FnOk l.prog w K mg base CX0 7 fa fd ["_law_script"] (spLaw K) := by
  have e := hfa.symm.trans (PySem.W.mg_of X G a36)
  cases e
  have F0 := fun_mk (st := s_is_whole) l0 c0 k0
  have b0 := F0.binds (ps := ["thing"]) fun _ _ _ _ _ _ us hl => match us, hl with | [_], _ => rfl
  have F1 := fun_mk (st := s_told) l1 c1 k1
  have b1 := F1.binds (ps := ["bag"]) fun _ _ _ _ _ _ us hl => match us, hl with | [_], _ => rfl
  have F2 := fun_mk (st := s_Net___init__) l2 c2 k2
  have b2 := F2.binds (ps := ["self"]) fun _ _ _ _ _ _ us hl => match us, hl with | [_], _ => rfl
  have F3 := fun_mk (st := s_Net_put) l3 c3 k3
  have b3 := F3.binds (ps := ["self", "node", "width"]) fun _ _ _ _ _ _ us hl => match us, hl with | [_, _, _], _ => rfl
  have F4 := fun_mk (st := s_Net_nodes) l4 c4 k4
  have b4 := F4.binds (ps := ["self"]) fun _ _ _ _ _ _ us hl => match us, hl with | [_], _ => rfl
  have F5 := fun_mk (st := s_Machine_rows_of) l5 c5 k5
  have b5 := F5.binds (ps := ["self", "k"]) fun _ _ _ _ _ _ us hl => match us, hl with | [_, _], _ => rfl
  have F6 := fun_mk (st := s_Machine_memory) l6 c6 k6
  have b6 := F6.binds (ps := ["self", "k"]) fun _ _ _ _ _ _ us hl => match us, hl with | [_, _], _ => rfl
  have F7 := fun_mk (st := s_is_name) l7 c7 k7
  have b7 := F7.binds (ps := ["thing"]) fun _ _ _ _ _ _ us hl => match us, hl with | [_], _ => rfl
  have F8 := fun_mk (st := s_Keeper_put_down) l8 c8 k8
  have b8 := F8.binds (ps := ["self", "name", "spot", "width", "many"]) fun _ _ _ _ _ _ us hl => match us, hl with | [_, _, _, _, _], _ => rfl
  have F9 := fun_mk (st := s_Keeper_depth) l9 c9 k9
  have b9 := F9.binds (ps := ["self"]) fun _ _ _ _ _ _ us hl => match us, hl with | [_], _ => rfl
  have F10 := fun_mk (st := s__law_cell_at) l10 c10 k10
  have b10 := F10.binds (ps := ["_law_script", "_law_k"]) fun _ _ _ _ _ _ us hl => match us, hl with | [_, _], _ => rfl
  have F11 := fun_mk (st := s__law_mixed) l11 c11 k11
  have b11 := F11.binds (ps := ["_law_cell", "_law_k"]) fun _ _ _ _ _ _ us hl => match us, hl with | [_, _], _ => rfl
  have F12 := fun_mk (st := s__law_which) l12 c12 k12
  have b12 := F12.binds (ps := ["_law_e"]) fun _ _ _ _ _ _ us hl => match us, hl with | [_], _ => rfl
  have F13 := fun_mk (st := s__law_no_name) l13 c13 k13
  have b13 := F13.binds (ps := ["_law_way", "_law_name"]) fun _ _ _ _ _ _ us hl => match us, hl with | [_, _], _ => rfl
  have F14 := fun_mk (st := s__law_no_width) l14 c14 k14
  have b14 := F14.binds (ps := ["_law_cell"]) fun _ _ _ _ _ _ us hl => match us, hl with | [_], _ => rfl
  have F15 := fun_mk (st := s__law_due) l15 c15 k15
  have b15 := F15.binds (ps := ["_law_name", "_law_width", "_law_widths", "_law_odd"]) fun _ _ _ _ _ _ us hl => match us, hl with | [_, _, _, _], _ => rfl
  have F16 := fun_mk (st := s_Net_table) l16 c16 k16
  have b16 := F16.binds (ps := ["self", "name", "width"]) fun _ _ _ _ _ _ us hl => match us, hl with | [_, _, _], _ => rfl
  have F17 := fun_mk (st := s_Machine_nodes) l17 c17 k17
  have b17 := F17.binds (ps := ["self"]) fun _ _ _ _ _ _ us hl => match us, hl with | [_], _ => rfl
  have F18 := fun_mk (st := s_Keeper_not_taken) l18 c18 k18
  have b18 := F18.binds (ps := ["self", "name"]) fun _ _ _ _ _ _ us hl => match us, hl with | [_, _], _ => rfl
  have F19 := fun_mk (st := s_Keeper_node) l19 c19 k19
  have b19 := F19.binds (ps := ["self", "name"]) fun _ _ _ _ _ _ us hl => match us, hl with | [_, _], _ => rfl
  have F20 := fun_mk (st := s_Keeper_memory) l20 c20 k20
  have b20 := F20.binds (ps := ["self", "k"]) fun _ _ _ _ _ _ us hl => match us, hl with | [_, _], _ => rfl
  have F21 := fun_mk (st := s_Keeper_kept) l21 c21 k21
  have b21 := F21.binds (ps := ["self"]) fun _ _ _ _ _ _ us hl => match us, hl with | [_], _ => rfl
  have F22 := fun_mk (st := s__law_names) l22 c22 k22
  have b22 := F22.binds (ps := ["_law_cell", "_law_many"]) fun _ _ _ _ _ _ us hl => match us, hl with | [_, _], _ => rfl
  have F23 := fun_mk (st := s_Machine___init__) l23 c23 k23
  have b23 := F23.binds (ps := ["self"]) fun _ _ _ _ _ _ us hl => match us, hl with | [_], _ => rfl
  have F24 := fun_mk (st := s_Machine_table) l24 c24 k24
  have b24 := F24.binds (ps := ["self", "name", "width"]) fun _ _ _ _ _ _ us hl => match us, hl with | [_, _, _], _ => rfl
  have F25 := fun_mk (st := s_Keeper_ask) l25 c25 k25
  have b25 := F25.binds (ps := ["self", "name"]) fun _ _ _ _ _ _ us hl => match us, hl with | [_, _], _ => rfl
  have F26 := fun_mk (st := s_Keeper_told) l26 c26 k26
  have b26 := F26.binds (ps := ["self", "name"]) fun _ _ _ _ _ _ us hl => match us, hl with | [_, _], _ => rfl
  have F27 := fun_mk (st := s_Keeper_plainly) l27 c27 k27
  have b27 := F27.binds (ps := ["self", "name"]) fun _ _ _ _ _ _ us hl => match us, hl with | [_, _], _ => rfl
  have F28 := fun_mk (st := s_Keeper_width) l28 c28 k28
  have b28 := F28.binds (ps := ["self", "name"]) fun _ _ _ _ _ _ us hl => match us, hl with | [_, _], _ => rfl
  have F29 := fun_mk (st := s_Keeper_size) l29 c29 k29
  have b29 := F29.binds (ps := ["self", "name"]) fun _ _ _ _ _ _ us hl => match us, hl with | [_, _], _ => rfl
  have F30 := fun_mk (st := s_Keeper_nodes) l30 c30 k30
  have b30 := F30.binds (ps := ["self"]) fun _ _ _ _ _ _ us hl => match us, hl with | [_], _ => rfl
  have F31 := fun_mk (st := s_Keeper_table) l31 c31 k31
  have b31 := F31.binds (ps := ["self", "name", "width"]) fun _ _ _ _ _ _ us hl => match us, hl with | [_, _, _], _ => rfl
  have F32 := fun_mk (st := s__law_asked) l32 c32 k32
  have b32 := F32.binds (ps := ["_law_keeper", "_law_name", "_law_way"]) fun _ _ _ _ _ _ us hl => match us, hl with | [_, _, _], _ => rfl
  have F33 := fun_mk (st := s_Keeper___init__) l33 c33 k33
  have b33 := F33.binds (ps := ["self"]) fun _ _ _ _ _ _ us hl => match us, hl with | [_], _ => rfl
  have F34 := fun_mk (st := s__law_made) l34 c34 k34
  have b34 := F34.binds (ps := ["_law_keeper", "_law_name", "_law_width"]) fun _ _ _ _ _ _ us hl => match us, hl with | [_, _, _], _ => rfl
  have F35 := fun_mk (st := s__law_look) l35 c35 k35
  have b35 := F35.binds (ps := ["_law_keeper", "_law_name", "_law_widths", "_law_known"]) fun _ _ _ _ _ _ us hl => match us, hl with | [_, _, _, _], _ => rfl
  have F36 := fun_mk (st := s_law) l36 c36 k36
  have b36 := F36.binds (ps := ["_law_script"]) fun _ _ _ _ _ _ us hl => match us, hl with | [_], _ => rfl
  have T : Tx K mg := ⟨_, _, F0, PySem.W.mg_of X G a0, b0, _, _, F1, PySem.W.mg_of X G a1, b1, _, _, F2, b2, _, _, F3, b3, _, _, F4, b4, _, _, F5, b5, _, _, F6, b6, _, _, F7, PySem.W.mg_of X G a7, b7, _, _, F8, b8, _, _, F9, b9, _, _, F10, PySem.W.mg_of X G a10, b10, _, _, F11, PySem.W.mg_of X G a11, b11, _, _, F12, PySem.W.mg_of X G a12, b12, _, _, F13, PySem.W.mg_of X G a13, b13, _, _, F14, PySem.W.mg_of X G a14, b14, _, _, F15, PySem.W.mg_of X G a15, b15, _, _, F16, b16, _, _, F17, b17, _, _, F18, b18, _, _, F19, b19, _, _, F20, b20, _, _, F21, b21, _, _, F22, PySem.W.mg_of X G a22, b22, _, _, F23, b23, _, _, F24, b24, _, _, F25, b25, _, _, F26, b26, _, _, F27, b27, _, _, F28, b28, _, _, F29, b29, _, _, F30, b30, _, _, F31, b31, _, _, F32, PySem.W.mg_of X G a32, b32, _, _, F33, b33, _, _, F34, PySem.W.mg_of X G a34, b34, _, _, F35, PySem.W.mg_of X G a35, b35, _, _, F36, PySem.W.mg_of X G a36, b36, PySem.W.mg_none_of X G z_ValueError, PySem.W.mg_none_of X G z_all, PySem.W.mg_none_of X G z_bool, PySem.W.mg_none_of X G z_dict, PySem.W.mg_none_of X G z_int, PySem.W.mg_none_of X G z_isinstance, PySem.W.mg_none_of X G z_len, PySem.W.mg_none_of X G z_list, PySem.W.mg_none_of X G z_range, PySem.W.mg_none_of X G z_sorted, PySem.W.mg_none_of X G z_str, _, PySem.W.mg_of X G xa0, _, PySem.W.mg_of X G xa1, _, PySem.W.mg_of X G xa2, _, PySem.W.mg_of X G xa3, _, PySem.W.mg_of X G xa4, _, PySem.W.mg_of X G xa5, _, PySem.W.mg_of X G xa6, _, PySem.W.mg_of X G xa7, _, PySem.W.mg_of X G xa8, _, PySem.W.mg_of X G xa9, _, PySem.W.mg_of X G xa10, _, PySem.W.mg_of X G xa11, _, PySem.W.mg_of X G xa12, ⟨rq1, rk1, rb1, xt1⟩, ⟨rq5, rk5, rb5, xt5⟩, ⟨rq8, rk8, rb8, xt8⟩, xtab_of (.cons ⟨_, _, PySem.W.mg_of X G xa1, PySem.W.mg_of X G xa1, ⟨rg1, rh1, rb1, xh1, rc1, xn1, xn2, rm1⟩, kit_ref xh1 xt1 xs1 rp1_1⟩ (.cons ⟨_, _, PySem.W.mg_of X G xa1, PySem.W.mg_of X G xa5, ⟨rg1, rh1, rb1, xh1, rc1, xn1, xn2, rm1⟩, kit_ref xh5 xt5 xs5 rp1_5⟩ (.cons ⟨_, _, PySem.W.mg_of X G xa1, PySem.W.mg_of X G xa8, ⟨rg1, rh1, rb1, xh1, rc1, xn1, xn2, rm1⟩, kit_ref xh8 xt8 xs8 rp1_8⟩ (.cons ⟨_, _, PySem.W.mg_of X G xa1, PySem.W.mg_of X G xa6, ⟨rg1, rh1, rb1, xh1, rc1, xn1, xn2, rm1⟩, kit_ref xh6 xt6 xs6 rp1_6⟩ (.cons ⟨_, _, PySem.W.mg_of X G xa1, PySem.W.mg_of X G xa2, ⟨rg1, rh1, rb1, xh1, rc1, xn1, xn2, rm1⟩, kit_ref xh2 xt2 xs2 rp1_2⟩ (.cons ⟨_, _, PySem.W.mg_of X G xa1, PySem.W.mg_of X G xa3, ⟨rg1, rh1, rb1, xh1, rc1, xn1, xn2, rm1⟩, kit_ref xh3 xt3 xs3 rp1_3⟩ (.cons ⟨_, _, PySem.W.mg_of X G xa1, PySem.W.mg_of X G xa4, ⟨rg1, rh1, rb1, xh1, rc1, xn1, xn2, rm1⟩, kit_ref xh4 xt4 xs4 rp1_4⟩ (.cons ⟨_, _, PySem.W.mg_of X G xa1, PySem.W.mg_of X G xa7, ⟨rg1, rh1, rb1, xh1, rc1, xn1, xn2, rm1⟩, kit_ref xh7 xt7 xs7 rp1_7⟩ (.cons ⟨_, _, PySem.W.mg_of X G xa1, PySem.W.mg_of X G xa9, ⟨rg1, rh1, rb1, xh1, rc1, xn1, xn2, rm1⟩, kit_ref xh9 xt9 xs9 rp1_9⟩ (.cons ⟨_, _, PySem.W.mg_of X G xa1, PySem.W.mg_of X G xa10, ⟨rg1, rh1, rb1, xh1, rc1, xn1, xn2, rm1⟩, kit_ref xh10 xt10 xs10 rp1_10⟩ (.cons ⟨_, _, PySem.W.mg_of X G xa1, PySem.W.mg_of X G xa11, ⟨rg1, rh1, rb1, xh1, rc1, xn1, xn2, rm1⟩, kit_ref xh11 xt11 xs11 rp1_11⟩ (.cons ⟨_, _, PySem.W.mg_of X G xa1, PySem.W.mg_of X G xa12, ⟨rg1, rh1, rb1, xh1, rc1, xn1, xn2, rm1⟩, kit_ref xh12 xt12 xs12 rp1_12⟩ (.cons ⟨_, _, PySem.W.mg_of X G xa5, PySem.W.mg_of X G xa1, ⟨rg5, rh5, rb5, xh5, rc5, xn1, xn2, rm5⟩, kit_ref xh1 xt1 xs1 rp5_1⟩ (.cons ⟨_, _, PySem.W.mg_of X G xa5, PySem.W.mg_of X G xa5, ⟨rg5, rh5, rb5, xh5, rc5, xn1, xn2, rm5⟩, kit_ref xh5 xt5 xs5 rp5_5⟩ (.cons ⟨_, _, PySem.W.mg_of X G xa5, PySem.W.mg_of X G xa8, ⟨rg5, rh5, rb5, xh5, rc5, xn1, xn2, rm5⟩, kit_ref xh8 xt8 xs8 rp5_8⟩ (.cons ⟨_, _, PySem.W.mg_of X G xa5, PySem.W.mg_of X G xa6, ⟨rg5, rh5, rb5, xh5, rc5, xn1, xn2, rm5⟩, kit_ref xh6 xt6 xs6 rp5_6⟩ (.cons ⟨_, _, PySem.W.mg_of X G xa5, PySem.W.mg_of X G xa2, ⟨rg5, rh5, rb5, xh5, rc5, xn1, xn2, rm5⟩, kit_ref xh2 xt2 xs2 rp5_2⟩ (.cons ⟨_, _, PySem.W.mg_of X G xa5, PySem.W.mg_of X G xa3, ⟨rg5, rh5, rb5, xh5, rc5, xn1, xn2, rm5⟩, kit_ref xh3 xt3 xs3 rp5_3⟩ (.cons ⟨_, _, PySem.W.mg_of X G xa5, PySem.W.mg_of X G xa4, ⟨rg5, rh5, rb5, xh5, rc5, xn1, xn2, rm5⟩, kit_ref xh4 xt4 xs4 rp5_4⟩ (.cons ⟨_, _, PySem.W.mg_of X G xa5, PySem.W.mg_of X G xa7, ⟨rg5, rh5, rb5, xh5, rc5, xn1, xn2, rm5⟩, kit_ref xh7 xt7 xs7 rp5_7⟩ (.cons ⟨_, _, PySem.W.mg_of X G xa5, PySem.W.mg_of X G xa9, ⟨rg5, rh5, rb5, xh5, rc5, xn1, xn2, rm5⟩, kit_ref xh9 xt9 xs9 rp5_9⟩ (.cons ⟨_, _, PySem.W.mg_of X G xa5, PySem.W.mg_of X G xa10, ⟨rg5, rh5, rb5, xh5, rc5, xn1, xn2, rm5⟩, kit_ref xh10 xt10 xs10 rp5_10⟩ (.cons ⟨_, _, PySem.W.mg_of X G xa5, PySem.W.mg_of X G xa11, ⟨rg5, rh5, rb5, xh5, rc5, xn1, xn2, rm5⟩, kit_ref xh11 xt11 xs11 rp5_11⟩ (.cons ⟨_, _, PySem.W.mg_of X G xa5, PySem.W.mg_of X G xa12, ⟨rg5, rh5, rb5, xh5, rc5, xn1, xn2, rm5⟩, kit_ref xh12 xt12 xs12 rp5_12⟩ (.cons ⟨_, _, PySem.W.mg_of X G xa8, PySem.W.mg_of X G xa1, ⟨rg8, rh8, rb8, xh8, rc8, xn1, xn2, rm8⟩, kit_ref xh1 xt1 xs1 rp8_1⟩ (.cons ⟨_, _, PySem.W.mg_of X G xa8, PySem.W.mg_of X G xa5, ⟨rg8, rh8, rb8, xh8, rc8, xn1, xn2, rm8⟩, kit_ref xh5 xt5 xs5 rp8_5⟩ (.cons ⟨_, _, PySem.W.mg_of X G xa8, PySem.W.mg_of X G xa8, ⟨rg8, rh8, rb8, xh8, rc8, xn1, xn2, rm8⟩, kit_ref xh8 xt8 xs8 rp8_8⟩ (.cons ⟨_, _, PySem.W.mg_of X G xa8, PySem.W.mg_of X G xa6, ⟨rg8, rh8, rb8, xh8, rc8, xn1, xn2, rm8⟩, kit_ref xh6 xt6 xs6 rp8_6⟩ (.cons ⟨_, _, PySem.W.mg_of X G xa8, PySem.W.mg_of X G xa2, ⟨rg8, rh8, rb8, xh8, rc8, xn1, xn2, rm8⟩, kit_ref xh2 xt2 xs2 rp8_2⟩ (.cons ⟨_, _, PySem.W.mg_of X G xa8, PySem.W.mg_of X G xa3, ⟨rg8, rh8, rb8, xh8, rc8, xn1, xn2, rm8⟩, kit_ref xh3 xt3 xs3 rp8_3⟩ (.cons ⟨_, _, PySem.W.mg_of X G xa8, PySem.W.mg_of X G xa4, ⟨rg8, rh8, rb8, xh8, rc8, xn1, xn2, rm8⟩, kit_ref xh4 xt4 xs4 rp8_4⟩ (.cons ⟨_, _, PySem.W.mg_of X G xa8, PySem.W.mg_of X G xa7, ⟨rg8, rh8, rb8, xh8, rc8, xn1, xn2, rm8⟩, kit_ref xh7 xt7 xs7 rp8_7⟩ (.cons ⟨_, _, PySem.W.mg_of X G xa8, PySem.W.mg_of X G xa9, ⟨rg8, rh8, rb8, xh8, rc8, xn1, xn2, rm8⟩, kit_ref xh9 xt9 xs9 rp8_9⟩ (.cons ⟨_, _, PySem.W.mg_of X G xa8, PySem.W.mg_of X G xa10, ⟨rg8, rh8, rb8, xh8, rc8, xn1, xn2, rm8⟩, kit_ref xh10 xt10 xs10 rp8_10⟩ (.cons ⟨_, _, PySem.W.mg_of X G xa8, PySem.W.mg_of X G xa11, ⟨rg8, rh8, rb8, xh8, rc8, xn1, xn2, rm8⟩, kit_ref xh11 xt11 xs11 rp8_11⟩ (.cons ⟨_, _, PySem.W.mg_of X G xa8, PySem.W.mg_of X G xa12, ⟨rg8, rh8, rb8, xh8, rc8, xn1, xn2, rm8⟩, kit_ref xh12 xt12 xs12 rp8_12⟩ .nil)))))))))))))))))))))))))))))))))))) (.cons ⟨_, PySem.W.mg_of X G xa1, ⟨rg1, rh1, rb1, xh1, rc1, xn1, xn2, rm1⟩, kit_VE rp1_ValueError⟩ (.cons ⟨_, PySem.W.mg_of X G xa5, ⟨rg5, rh5, rb5, xh5, rc5, xn1, xn2, rm5⟩, kit_VE rp5_ValueError⟩ (.cons ⟨_, PySem.W.mg_of X G xa8, ⟨rg8, rh8, rb8, xh8, rc8, xn1, xn2, rm8⟩, kit_VE rp8_ValueError⟩ .nil))), xo_of (.cons ⟨_, PySem.W.mg_of X G xa1, PySem.W.exm_ref xv xh0 xt0 rv1⟩ (.cons ⟨_, PySem.W.mg_of X G xa5, PySem.W.exm_ref xv xh0 xt0 rv5⟩ (.cons ⟨_, PySem.W.mg_of X G xa8, PySem.W.exm_ref xv xh0 xt0 rv8⟩ .nil))), PySem.W.mg_of X G al_told_bags, _, PySem.W.mg_of X G kf_rank, ⟨_, PySem.W.mg_of X G v_LETTERS, r_LETTERS⟩, ⟨_, PySem.W.mg_of X G v_MOST_keeper, r_MOST_keeper⟩, _, PySem.W.mg_of X G xn_Net, ⟨xg_Net, xh_Net, xp_Net, xs_Net⟩, ⟨xm_Net, a2, i2, xk_Net⟩, ⟨a3, i3, k3⟩, ⟨a4, i4, k4⟩, ⟨a16, i16, k16⟩, xf_Net_laid, xf_Net_wide, xf_Net_numbers, _, PySem.W.mg_of X G xn_Machine, ⟨xg_Machine, xh_Machine, xp_Machine, xs_Machine⟩, ⟨xm_Machine, a23, i23, xk_Machine⟩, ⟨a5, i5, k5⟩, ⟨a6, i6, k6⟩, ⟨a17, i17, k17⟩, ⟨a24, i24, k24⟩, xf_Machine_net, xf_Machine_parts, xf_Machine_bags, _, PySem.W.mg_of X G xn_Keeper, ⟨xg_Keeper, xh_Keeper, xp_Keeper, xs_Keeper⟩, ⟨xm_Keeper, a33, i33, xk_Keeper⟩, ⟨a8, i8, k8⟩, ⟨a9, i9, k9⟩, ⟨a18, i18, k18⟩, ⟨a19, i19, k19⟩, ⟨a20, i20, k20⟩, ⟨a21, i21, k21⟩, ⟨a25, i25, k25⟩, ⟨a26, i26, k26⟩, ⟨a27, i27, k27⟩, ⟨a28, i28, k28⟩, ⟨a29, i29, k29⟩, ⟨a30, i30, k30⟩, ⟨a31, i31, k31⟩, xf_Keeper_machine, xf_Keeper_spots, xf_Keeper_wides, xf_Keeper_sizes, xf_Keeper_texts, xf_Keeper_trees, xf_Keeper_news, xf_Keeper_pours⟩
  exact ⟨_, fun s v => .of_eq rfl, fun base _ _ => by
    have T : Tx K mg := ⟨_, _, F0, PySem.W.mg_of X G a0, b0, _, _, F1, PySem.W.mg_of X G a1, b1, _, _, F2, b2, _, _, F3, b3, _, _, F4, b4, _, _, F5, b5, _, _, F6, b6, _, _, F7, PySem.W.mg_of X G a7, b7, _, _, F8, b8, _, _, F9, b9, _, _, F10, PySem.W.mg_of X G a10, b10, _, _, F11, PySem.W.mg_of X G a11, b11, _, _, F12, PySem.W.mg_of X G a12, b12, _, _, F13, PySem.W.mg_of X G a13, b13, _, _, F14, PySem.W.mg_of X G a14, b14, _, _, F15, PySem.W.mg_of X G a15, b15, _, _, F16, b16, _, _, F17, b17, _, _, F18, b18, _, _, F19, b19, _, _, F20, b20, _, _, F21, b21, _, _, F22, PySem.W.mg_of X G a22, b22, _, _, F23, b23, _, _, F24, b24, _, _, F25, b25, _, _, F26, b26, _, _, F27, b27, _, _, F28, b28, _, _, F29, b29, _, _, F30, b30, _, _, F31, b31, _, _, F32, PySem.W.mg_of X G a32, b32, _, _, F33, b33, _, _, F34, PySem.W.mg_of X G a34, b34, _, _, F35, PySem.W.mg_of X G a35, b35, _, _, F36, PySem.W.mg_of X G a36, b36, PySem.W.mg_none_of X G z_ValueError, PySem.W.mg_none_of X G z_all, PySem.W.mg_none_of X G z_bool, PySem.W.mg_none_of X G z_dict, PySem.W.mg_none_of X G z_int, PySem.W.mg_none_of X G z_isinstance, PySem.W.mg_none_of X G z_len, PySem.W.mg_none_of X G z_list, PySem.W.mg_none_of X G z_range, PySem.W.mg_none_of X G z_sorted, PySem.W.mg_none_of X G z_str, _, PySem.W.mg_of X G xa0, _, PySem.W.mg_of X G xa1, _, PySem.W.mg_of X G xa2, _, PySem.W.mg_of X G xa3, _, PySem.W.mg_of X G xa4, _, PySem.W.mg_of X G xa5, _, PySem.W.mg_of X G xa6, _, PySem.W.mg_of X G xa7, _, PySem.W.mg_of X G xa8, _, PySem.W.mg_of X G xa9, _, PySem.W.mg_of X G xa10, _, PySem.W.mg_of X G xa11, _, PySem.W.mg_of X G xa12, ⟨rq1, rk1, rb1, xt1⟩, ⟨rq5, rk5, rb5, xt5⟩, ⟨rq8, rk8, rb8, xt8⟩, xtab_of (.cons ⟨_, _, PySem.W.mg_of X G xa1, PySem.W.mg_of X G xa1, ⟨rg1, rh1, rb1, xh1, rc1, xn1, xn2, rm1⟩, kit_ref xh1 xt1 xs1 rp1_1⟩ (.cons ⟨_, _, PySem.W.mg_of X G xa1, PySem.W.mg_of X G xa5, ⟨rg1, rh1, rb1, xh1, rc1, xn1, xn2, rm1⟩, kit_ref xh5 xt5 xs5 rp1_5⟩ (.cons ⟨_, _, PySem.W.mg_of X G xa1, PySem.W.mg_of X G xa8, ⟨rg1, rh1, rb1, xh1, rc1, xn1, xn2, rm1⟩, kit_ref xh8 xt8 xs8 rp1_8⟩ (.cons ⟨_, _, PySem.W.mg_of X G xa1, PySem.W.mg_of X G xa6, ⟨rg1, rh1, rb1, xh1, rc1, xn1, xn2, rm1⟩, kit_ref xh6 xt6 xs6 rp1_6⟩ (.cons ⟨_, _, PySem.W.mg_of X G xa1, PySem.W.mg_of X G xa2, ⟨rg1, rh1, rb1, xh1, rc1, xn1, xn2, rm1⟩, kit_ref xh2 xt2 xs2 rp1_2⟩ (.cons ⟨_, _, PySem.W.mg_of X G xa1, PySem.W.mg_of X G xa3, ⟨rg1, rh1, rb1, xh1, rc1, xn1, xn2, rm1⟩, kit_ref xh3 xt3 xs3 rp1_3⟩ (.cons ⟨_, _, PySem.W.mg_of X G xa1, PySem.W.mg_of X G xa4, ⟨rg1, rh1, rb1, xh1, rc1, xn1, xn2, rm1⟩, kit_ref xh4 xt4 xs4 rp1_4⟩ (.cons ⟨_, _, PySem.W.mg_of X G xa1, PySem.W.mg_of X G xa7, ⟨rg1, rh1, rb1, xh1, rc1, xn1, xn2, rm1⟩, kit_ref xh7 xt7 xs7 rp1_7⟩ (.cons ⟨_, _, PySem.W.mg_of X G xa1, PySem.W.mg_of X G xa9, ⟨rg1, rh1, rb1, xh1, rc1, xn1, xn2, rm1⟩, kit_ref xh9 xt9 xs9 rp1_9⟩ (.cons ⟨_, _, PySem.W.mg_of X G xa1, PySem.W.mg_of X G xa10, ⟨rg1, rh1, rb1, xh1, rc1, xn1, xn2, rm1⟩, kit_ref xh10 xt10 xs10 rp1_10⟩ (.cons ⟨_, _, PySem.W.mg_of X G xa1, PySem.W.mg_of X G xa11, ⟨rg1, rh1, rb1, xh1, rc1, xn1, xn2, rm1⟩, kit_ref xh11 xt11 xs11 rp1_11⟩ (.cons ⟨_, _, PySem.W.mg_of X G xa1, PySem.W.mg_of X G xa12, ⟨rg1, rh1, rb1, xh1, rc1, xn1, xn2, rm1⟩, kit_ref xh12 xt12 xs12 rp1_12⟩ (.cons ⟨_, _, PySem.W.mg_of X G xa5, PySem.W.mg_of X G xa1, ⟨rg5, rh5, rb5, xh5, rc5, xn1, xn2, rm5⟩, kit_ref xh1 xt1 xs1 rp5_1⟩ (.cons ⟨_, _, PySem.W.mg_of X G xa5, PySem.W.mg_of X G xa5, ⟨rg5, rh5, rb5, xh5, rc5, xn1, xn2, rm5⟩, kit_ref xh5 xt5 xs5 rp5_5⟩ (.cons ⟨_, _, PySem.W.mg_of X G xa5, PySem.W.mg_of X G xa8, ⟨rg5, rh5, rb5, xh5, rc5, xn1, xn2, rm5⟩, kit_ref xh8 xt8 xs8 rp5_8⟩ (.cons ⟨_, _, PySem.W.mg_of X G xa5, PySem.W.mg_of X G xa6, ⟨rg5, rh5, rb5, xh5, rc5, xn1, xn2, rm5⟩, kit_ref xh6 xt6 xs6 rp5_6⟩ (.cons ⟨_, _, PySem.W.mg_of X G xa5, PySem.W.mg_of X G xa2, ⟨rg5, rh5, rb5, xh5, rc5, xn1, xn2, rm5⟩, kit_ref xh2 xt2 xs2 rp5_2⟩ (.cons ⟨_, _, PySem.W.mg_of X G xa5, PySem.W.mg_of X G xa3, ⟨rg5, rh5, rb5, xh5, rc5, xn1, xn2, rm5⟩, kit_ref xh3 xt3 xs3 rp5_3⟩ (.cons ⟨_, _, PySem.W.mg_of X G xa5, PySem.W.mg_of X G xa4, ⟨rg5, rh5, rb5, xh5, rc5, xn1, xn2, rm5⟩, kit_ref xh4 xt4 xs4 rp5_4⟩ (.cons ⟨_, _, PySem.W.mg_of X G xa5, PySem.W.mg_of X G xa7, ⟨rg5, rh5, rb5, xh5, rc5, xn1, xn2, rm5⟩, kit_ref xh7 xt7 xs7 rp5_7⟩ (.cons ⟨_, _, PySem.W.mg_of X G xa5, PySem.W.mg_of X G xa9, ⟨rg5, rh5, rb5, xh5, rc5, xn1, xn2, rm5⟩, kit_ref xh9 xt9 xs9 rp5_9⟩ (.cons ⟨_, _, PySem.W.mg_of X G xa5, PySem.W.mg_of X G xa10, ⟨rg5, rh5, rb5, xh5, rc5, xn1, xn2, rm5⟩, kit_ref xh10 xt10 xs10 rp5_10⟩ (.cons ⟨_, _, PySem.W.mg_of X G xa5, PySem.W.mg_of X G xa11, ⟨rg5, rh5, rb5, xh5, rc5, xn1, xn2, rm5⟩, kit_ref xh11 xt11 xs11 rp5_11⟩ (.cons ⟨_, _, PySem.W.mg_of X G xa5, PySem.W.mg_of X G xa12, ⟨rg5, rh5, rb5, xh5, rc5, xn1, xn2, rm5⟩, kit_ref xh12 xt12 xs12 rp5_12⟩ (.cons ⟨_, _, PySem.W.mg_of X G xa8, PySem.W.mg_of X G xa1, ⟨rg8, rh8, rb8, xh8, rc8, xn1, xn2, rm8⟩, kit_ref xh1 xt1 xs1 rp8_1⟩ (.cons ⟨_, _, PySem.W.mg_of X G xa8, PySem.W.mg_of X G xa5, ⟨rg8, rh8, rb8, xh8, rc8, xn1, xn2, rm8⟩, kit_ref xh5 xt5 xs5 rp8_5⟩ (.cons ⟨_, _, PySem.W.mg_of X G xa8, PySem.W.mg_of X G xa8, ⟨rg8, rh8, rb8, xh8, rc8, xn1, xn2, rm8⟩, kit_ref xh8 xt8 xs8 rp8_8⟩ (.cons ⟨_, _, PySem.W.mg_of X G xa8, PySem.W.mg_of X G xa6, ⟨rg8, rh8, rb8, xh8, rc8, xn1, xn2, rm8⟩, kit_ref xh6 xt6 xs6 rp8_6⟩ (.cons ⟨_, _, PySem.W.mg_of X G xa8, PySem.W.mg_of X G xa2, ⟨rg8, rh8, rb8, xh8, rc8, xn1, xn2, rm8⟩, kit_ref xh2 xt2 xs2 rp8_2⟩ (.cons ⟨_, _, PySem.W.mg_of X G xa8, PySem.W.mg_of X G xa3, ⟨rg8, rh8, rb8, xh8, rc8, xn1, xn2, rm8⟩, kit_ref xh3 xt3 xs3 rp8_3⟩ (.cons ⟨_, _, PySem.W.mg_of X G xa8, PySem.W.mg_of X G xa4, ⟨rg8, rh8, rb8, xh8, rc8, xn1, xn2, rm8⟩, kit_ref xh4 xt4 xs4 rp8_4⟩ (.cons ⟨_, _, PySem.W.mg_of X G xa8, PySem.W.mg_of X G xa7, ⟨rg8, rh8, rb8, xh8, rc8, xn1, xn2, rm8⟩, kit_ref xh7 xt7 xs7 rp8_7⟩ (.cons ⟨_, _, PySem.W.mg_of X G xa8, PySem.W.mg_of X G xa9, ⟨rg8, rh8, rb8, xh8, rc8, xn1, xn2, rm8⟩, kit_ref xh9 xt9 xs9 rp8_9⟩ (.cons ⟨_, _, PySem.W.mg_of X G xa8, PySem.W.mg_of X G xa10, ⟨rg8, rh8, rb8, xh8, rc8, xn1, xn2, rm8⟩, kit_ref xh10 xt10 xs10 rp8_10⟩ (.cons ⟨_, _, PySem.W.mg_of X G xa8, PySem.W.mg_of X G xa11, ⟨rg8, rh8, rb8, xh8, rc8, xn1, xn2, rm8⟩, kit_ref xh11 xt11 xs11 rp8_11⟩ (.cons ⟨_, _, PySem.W.mg_of X G xa8, PySem.W.mg_of X G xa12, ⟨rg8, rh8, rb8, xh8, rc8, xn1, xn2, rm8⟩, kit_ref xh12 xt12 xs12 rp8_12⟩ .nil)))))))))))))))))))))))))))))))))))) (.cons ⟨_, PySem.W.mg_of X G xa1, ⟨rg1, rh1, rb1, xh1, rc1, xn1, xn2, rm1⟩, kit_VE rp1_ValueError⟩ (.cons ⟨_, PySem.W.mg_of X G xa5, ⟨rg5, rh5, rb5, xh5, rc5, xn1, xn2, rm5⟩, kit_VE rp5_ValueError⟩ (.cons ⟨_, PySem.W.mg_of X G xa8, ⟨rg8, rh8, rb8, xh8, rc8, xn1, xn2, rm8⟩, kit_VE rp8_ValueError⟩ .nil))), xo_of (.cons ⟨_, PySem.W.mg_of X G xa1, PySem.W.exm_ref xv xh0 xt0 rv1⟩ (.cons ⟨_, PySem.W.mg_of X G xa5, PySem.W.exm_ref xv xh0 xt0 rv5⟩ (.cons ⟨_, PySem.W.mg_of X G xa8, PySem.W.exm_ref xv xh0 xt0 rv8⟩ .nil))), PySem.W.mg_of X G al_told_bags, _, PySem.W.mg_of X G kf_rank, ⟨_, PySem.W.mg_of X G v_LETTERS, r_LETTERS⟩, ⟨_, PySem.W.mg_of X G v_MOST_keeper, r_MOST_keeper⟩, _, PySem.W.mg_of X G xn_Net, ⟨xg_Net, xh_Net, xp_Net, xs_Net⟩, ⟨xm_Net, a2, i2, xk_Net⟩, ⟨a3, i3, k3⟩, ⟨a4, i4, k4⟩, ⟨a16, i16, k16⟩, xf_Net_laid, xf_Net_wide, xf_Net_numbers, _, PySem.W.mg_of X G xn_Machine, ⟨xg_Machine, xh_Machine, xp_Machine, xs_Machine⟩, ⟨xm_Machine, a23, i23, xk_Machine⟩, ⟨a5, i5, k5⟩, ⟨a6, i6, k6⟩, ⟨a17, i17, k17⟩, ⟨a24, i24, k24⟩, xf_Machine_net, xf_Machine_parts, xf_Machine_bags, _, PySem.W.mg_of X G xn_Keeper, ⟨xg_Keeper, xh_Keeper, xp_Keeper, xs_Keeper⟩, ⟨xm_Keeper, a33, i33, xk_Keeper⟩, ⟨a8, i8, k8⟩, ⟨a9, i9, k9⟩, ⟨a18, i18, k18⟩, ⟨a19, i19, k19⟩, ⟨a20, i20, k20⟩, ⟨a21, i21, k21⟩, ⟨a25, i25, k25⟩, ⟨a26, i26, k26⟩, ⟨a27, i27, k27⟩, ⟨a28, i28, k28⟩, ⟨a29, i29, k29⟩, ⟨a30, i30, k30⟩, ⟨a31, i31, k31⟩, xf_Keeper_machine, xf_Keeper_spots, xf_Keeper_wides, xf_Keeper_sizes, xf_Keeper_texts, xf_Keeper_trees, xf_Keeper_news, xf_Keeper_pours⟩
    exact (ok_law (P := l.prog) (w := w) (base := base) ⟨_, _, F0, PySem.W.mg_of X G a0, b0, _, _, F1, PySem.W.mg_of X G a1, b1, _, _, F2, b2, _, _, F3, b3, _, _, F4, b4, _, _, F5, b5, _, _, F6, b6, _, _, F7, PySem.W.mg_of X G a7, b7, _, _, F8, b8, _, _, F9, b9, _, _, F10, PySem.W.mg_of X G a10, b10, _, _, F11, PySem.W.mg_of X G a11, b11, _, _, F12, PySem.W.mg_of X G a12, b12, _, _, F13, PySem.W.mg_of X G a13, b13, _, _, F14, PySem.W.mg_of X G a14, b14, _, _, F15, PySem.W.mg_of X G a15, b15, _, _, F16, b16, _, _, F17, b17, _, _, F18, b18, _, _, F19, b19, _, _, F20, b20, _, _, F21, b21, _, _, F22, PySem.W.mg_of X G a22, b22, _, _, F23, b23, _, _, F24, b24, _, _, F25, b25, _, _, F26, b26, _, _, F27, b27, _, _, F28, b28, _, _, F29, b29, _, _, F30, b30, _, _, F31, b31, _, _, F32, PySem.W.mg_of X G a32, b32, _, _, F33, b33, _, _, F34, PySem.W.mg_of X G a34, b34, _, _, F35, PySem.W.mg_of X G a35, b35, _, _, F36, PySem.W.mg_of X G a36, b36, PySem.W.mg_none_of X G z_ValueError, PySem.W.mg_none_of X G z_all, PySem.W.mg_none_of X G z_bool, PySem.W.mg_none_of X G z_dict, PySem.W.mg_none_of X G z_int, PySem.W.mg_none_of X G z_isinstance, PySem.W.mg_none_of X G z_len, PySem.W.mg_none_of X G z_list, PySem.W.mg_none_of X G z_range, PySem.W.mg_none_of X G z_sorted, PySem.W.mg_none_of X G z_str, _, PySem.W.mg_of X G xa0, _, PySem.W.mg_of X G xa1, _, PySem.W.mg_of X G xa2, _, PySem.W.mg_of X G xa3, _, PySem.W.mg_of X G xa4, _, PySem.W.mg_of X G xa5, _, PySem.W.mg_of X G xa6, _, PySem.W.mg_of X G xa7, _, PySem.W.mg_of X G xa8, _, PySem.W.mg_of X G xa9, _, PySem.W.mg_of X G xa10, _, PySem.W.mg_of X G xa11, _, PySem.W.mg_of X G xa12, ⟨rq1, rk1, rb1, xt1⟩, ⟨rq5, rk5, rb5, xt5⟩, ⟨rq8, rk8, rb8, xt8⟩, xtab_of (.cons ⟨_, _, PySem.W.mg_of X G xa1, PySem.W.mg_of X G xa1, ⟨rg1, rh1, rb1, xh1, rc1, xn1, xn2, rm1⟩, kit_ref xh1 xt1 xs1 rp1_1⟩ (.cons ⟨_, _, PySem.W.mg_of X G xa1, PySem.W.mg_of X G xa5, ⟨rg1, rh1, rb1, xh1, rc1, xn1, xn2, rm1⟩, kit_ref xh5 xt5 xs5 rp1_5⟩ (.cons ⟨_, _, PySem.W.mg_of X G xa1, PySem.W.mg_of X G xa8, ⟨rg1, rh1, rb1, xh1, rc1, xn1, xn2, rm1⟩, kit_ref xh8 xt8 xs8 rp1_8⟩ (.cons ⟨_, _, PySem.W.mg_of X G xa1, PySem.W.mg_of X G xa6, ⟨rg1, rh1, rb1, xh1, rc1, xn1, xn2, rm1⟩, kit_ref xh6 xt6 xs6 rp1_6⟩ (.cons ⟨_, _, PySem.W.mg_of X G xa1, PySem.W.mg_of X G xa2, ⟨rg1, rh1, rb1, xh1, rc1, xn1, xn2, rm1⟩, kit_ref xh2 xt2 xs2 rp1_2⟩ (.cons ⟨_, _, PySem.W.mg_of X G xa1, PySem.W.mg_of X G xa3, ⟨rg1, rh1, rb1, xh1, rc1, xn1, xn2, rm1⟩, kit_ref xh3 xt3 xs3 rp1_3⟩ (.cons ⟨_, _, PySem.W.mg_of X G xa1, PySem.W.mg_of X G xa4, ⟨rg1, rh1, rb1, xh1, rc1, xn1, xn2, rm1⟩, kit_ref xh4 xt4 xs4 rp1_4⟩ (.cons ⟨_, _, PySem.W.mg_of X G xa1, PySem.W.mg_of X G xa7, ⟨rg1, rh1, rb1, xh1, rc1, xn1, xn2, rm1⟩, kit_ref xh7 xt7 xs7 rp1_7⟩ (.cons ⟨_, _, PySem.W.mg_of X G xa1, PySem.W.mg_of X G xa9, ⟨rg1, rh1, rb1, xh1, rc1, xn1, xn2, rm1⟩, kit_ref xh9 xt9 xs9 rp1_9⟩ (.cons ⟨_, _, PySem.W.mg_of X G xa1, PySem.W.mg_of X G xa10, ⟨rg1, rh1, rb1, xh1, rc1, xn1, xn2, rm1⟩, kit_ref xh10 xt10 xs10 rp1_10⟩ (.cons ⟨_, _, PySem.W.mg_of X G xa1, PySem.W.mg_of X G xa11, ⟨rg1, rh1, rb1, xh1, rc1, xn1, xn2, rm1⟩, kit_ref xh11 xt11 xs11 rp1_11⟩ (.cons ⟨_, _, PySem.W.mg_of X G xa1, PySem.W.mg_of X G xa12, ⟨rg1, rh1, rb1, xh1, rc1, xn1, xn2, rm1⟩, kit_ref xh12 xt12 xs12 rp1_12⟩ (.cons ⟨_, _, PySem.W.mg_of X G xa5, PySem.W.mg_of X G xa1, ⟨rg5, rh5, rb5, xh5, rc5, xn1, xn2, rm5⟩, kit_ref xh1 xt1 xs1 rp5_1⟩ (.cons ⟨_, _, PySem.W.mg_of X G xa5, PySem.W.mg_of X G xa5, ⟨rg5, rh5, rb5, xh5, rc5, xn1, xn2, rm5⟩, kit_ref xh5 xt5 xs5 rp5_5⟩ (.cons ⟨_, _, PySem.W.mg_of X G xa5, PySem.W.mg_of X G xa8, ⟨rg5, rh5, rb5, xh5, rc5, xn1, xn2, rm5⟩, kit_ref xh8 xt8 xs8 rp5_8⟩ (.cons ⟨_, _, PySem.W.mg_of X G xa5, PySem.W.mg_of X G xa6, ⟨rg5, rh5, rb5, xh5, rc5, xn1, xn2, rm5⟩, kit_ref xh6 xt6 xs6 rp5_6⟩ (.cons ⟨_, _, PySem.W.mg_of X G xa5, PySem.W.mg_of X G xa2, ⟨rg5, rh5, rb5, xh5, rc5, xn1, xn2, rm5⟩, kit_ref xh2 xt2 xs2 rp5_2⟩ (.cons ⟨_, _, PySem.W.mg_of X G xa5, PySem.W.mg_of X G xa3, ⟨rg5, rh5, rb5, xh5, rc5, xn1, xn2, rm5⟩, kit_ref xh3 xt3 xs3 rp5_3⟩ (.cons ⟨_, _, PySem.W.mg_of X G xa5, PySem.W.mg_of X G xa4, ⟨rg5, rh5, rb5, xh5, rc5, xn1, xn2, rm5⟩, kit_ref xh4 xt4 xs4 rp5_4⟩ (.cons ⟨_, _, PySem.W.mg_of X G xa5, PySem.W.mg_of X G xa7, ⟨rg5, rh5, rb5, xh5, rc5, xn1, xn2, rm5⟩, kit_ref xh7 xt7 xs7 rp5_7⟩ (.cons ⟨_, _, PySem.W.mg_of X G xa5, PySem.W.mg_of X G xa9, ⟨rg5, rh5, rb5, xh5, rc5, xn1, xn2, rm5⟩, kit_ref xh9 xt9 xs9 rp5_9⟩ (.cons ⟨_, _, PySem.W.mg_of X G xa5, PySem.W.mg_of X G xa10, ⟨rg5, rh5, rb5, xh5, rc5, xn1, xn2, rm5⟩, kit_ref xh10 xt10 xs10 rp5_10⟩ (.cons ⟨_, _, PySem.W.mg_of X G xa5, PySem.W.mg_of X G xa11, ⟨rg5, rh5, rb5, xh5, rc5, xn1, xn2, rm5⟩, kit_ref xh11 xt11 xs11 rp5_11⟩ (.cons ⟨_, _, PySem.W.mg_of X G xa5, PySem.W.mg_of X G xa12, ⟨rg5, rh5, rb5, xh5, rc5, xn1, xn2, rm5⟩, kit_ref xh12 xt12 xs12 rp5_12⟩ (.cons ⟨_, _, PySem.W.mg_of X G xa8, PySem.W.mg_of X G xa1, ⟨rg8, rh8, rb8, xh8, rc8, xn1, xn2, rm8⟩, kit_ref xh1 xt1 xs1 rp8_1⟩ (.cons ⟨_, _, PySem.W.mg_of X G xa8, PySem.W.mg_of X G xa5, ⟨rg8, rh8, rb8, xh8, rc8, xn1, xn2, rm8⟩, kit_ref xh5 xt5 xs5 rp8_5⟩ (.cons ⟨_, _, PySem.W.mg_of X G xa8, PySem.W.mg_of X G xa8, ⟨rg8, rh8, rb8, xh8, rc8, xn1, xn2, rm8⟩, kit_ref xh8 xt8 xs8 rp8_8⟩ (.cons ⟨_, _, PySem.W.mg_of X G xa8, PySem.W.mg_of X G xa6, ⟨rg8, rh8, rb8, xh8, rc8, xn1, xn2, rm8⟩, kit_ref xh6 xt6 xs6 rp8_6⟩ (.cons ⟨_, _, PySem.W.mg_of X G xa8, PySem.W.mg_of X G xa2, ⟨rg8, rh8, rb8, xh8, rc8, xn1, xn2, rm8⟩, kit_ref xh2 xt2 xs2 rp8_2⟩ (.cons ⟨_, _, PySem.W.mg_of X G xa8, PySem.W.mg_of X G xa3, ⟨rg8, rh8, rb8, xh8, rc8, xn1, xn2, rm8⟩, kit_ref xh3 xt3 xs3 rp8_3⟩ (.cons ⟨_, _, PySem.W.mg_of X G xa8, PySem.W.mg_of X G xa4, ⟨rg8, rh8, rb8, xh8, rc8, xn1, xn2, rm8⟩, kit_ref xh4 xt4 xs4 rp8_4⟩ (.cons ⟨_, _, PySem.W.mg_of X G xa8, PySem.W.mg_of X G xa7, ⟨rg8, rh8, rb8, xh8, rc8, xn1, xn2, rm8⟩, kit_ref xh7 xt7 xs7 rp8_7⟩ (.cons ⟨_, _, PySem.W.mg_of X G xa8, PySem.W.mg_of X G xa9, ⟨rg8, rh8, rb8, xh8, rc8, xn1, xn2, rm8⟩, kit_ref xh9 xt9 xs9 rp8_9⟩ (.cons ⟨_, _, PySem.W.mg_of X G xa8, PySem.W.mg_of X G xa10, ⟨rg8, rh8, rb8, xh8, rc8, xn1, xn2, rm8⟩, kit_ref xh10 xt10 xs10 rp8_10⟩ (.cons ⟨_, _, PySem.W.mg_of X G xa8, PySem.W.mg_of X G xa11, ⟨rg8, rh8, rb8, xh8, rc8, xn1, xn2, rm8⟩, kit_ref xh11 xt11 xs11 rp8_11⟩ (.cons ⟨_, _, PySem.W.mg_of X G xa8, PySem.W.mg_of X G xa12, ⟨rg8, rh8, rb8, xh8, rc8, xn1, xn2, rm8⟩, kit_ref xh12 xt12 xs12 rp8_12⟩ .nil)))))))))))))))))))))))))))))))))))) (.cons ⟨_, PySem.W.mg_of X G xa1, ⟨rg1, rh1, rb1, xh1, rc1, xn1, xn2, rm1⟩, kit_VE rp1_ValueError⟩ (.cons ⟨_, PySem.W.mg_of X G xa5, ⟨rg5, rh5, rb5, xh5, rc5, xn1, xn2, rm5⟩, kit_VE rp5_ValueError⟩ (.cons ⟨_, PySem.W.mg_of X G xa8, ⟨rg8, rh8, rb8, xh8, rc8, xn1, xn2, rm8⟩, kit_VE rp8_ValueError⟩ .nil))), xo_of (.cons ⟨_, PySem.W.mg_of X G xa1, PySem.W.exm_ref xv xh0 xt0 rv1⟩ (.cons ⟨_, PySem.W.mg_of X G xa5, PySem.W.exm_ref xv xh0 xt0 rv5⟩ (.cons ⟨_, PySem.W.mg_of X G xa8, PySem.W.exm_ref xv xh0 xt0 rv8⟩ .nil))), PySem.W.mg_of X G al_told_bags, _, PySem.W.mg_of X G kf_rank, ⟨_, PySem.W.mg_of X G v_LETTERS, r_LETTERS⟩, ⟨_, PySem.W.mg_of X G v_MOST_keeper, r_MOST_keeper⟩, _, PySem.W.mg_of X G xn_Net, ⟨xg_Net, xh_Net, xp_Net, xs_Net⟩, ⟨xm_Net, a2, i2, xk_Net⟩, ⟨a3, i3, k3⟩, ⟨a4, i4, k4⟩, ⟨a16, i16, k16⟩, xf_Net_laid, xf_Net_wide, xf_Net_numbers, _, PySem.W.mg_of X G xn_Machine, ⟨xg_Machine, xh_Machine, xp_Machine, xs_Machine⟩, ⟨xm_Machine, a23, i23, xk_Machine⟩, ⟨a5, i5, k5⟩, ⟨a6, i6, k6⟩, ⟨a17, i17, k17⟩, ⟨a24, i24, k24⟩, xf_Machine_net, xf_Machine_parts, xf_Machine_bags, _, PySem.W.mg_of X G xn_Keeper, ⟨xg_Keeper, xh_Keeper, xp_Keeper, xs_Keeper⟩, ⟨xm_Keeper, a33, i33, xk_Keeper⟩, ⟨a8, i8, k8⟩, ⟨a9, i9, k9⟩, ⟨a18, i18, k18⟩, ⟨a19, i19, k19⟩, ⟨a20, i20, k20⟩, ⟨a21, i21, k21⟩, ⟨a25, i25, k25⟩, ⟨a26, i26, k26⟩, ⟨a27, i27, k27⟩, ⟨a28, i28, k28⟩, ⟨a29, i29, k29⟩, ⟨a30, i30, k30⟩, ⟨a31, i31, k31⟩, xf_Keeper_machine, xf_Keeper_spots, xf_Keeper_wides, xf_Keeper_sizes, xf_Keeper_texts, xf_Keeper_trees, xf_Keeper_news, xf_Keeper_pours⟩).imp (law_end (g := ⟨l.prog, w, K, mg, B0⟩) rfl true_law)⟩
theorem hx_str {K : PySem.W.Frag} {x z : Str} (c : (He.Fa.str x z).ok K = true) : ∃ t, PySem.W.nsIn K mainGlobals x = some (some (.str z t)) := by
  have c2 : (match PySem.W.nsIn K mainGlobals x with | some (some (.str y _)) => decide (y = z) | _ => false) = true := c
  revert c2; split
  · rename_i y t e; intro c2; exact ⟨t, by rw [e, of_decide_eq_true c2]⟩
  · intro c2; cases c2
theorem hx_int {K : PySem.W.Frag} {x : Str} {z : Int} (c : (He.Fa.int x z).ok K = true) : ∃ t, PySem.W.nsIn K mainGlobals x = some (some (.int z t)) := by
  have c2 : (match PySem.W.nsIn K mainGlobals x with | some (some (.int y _)) => decide (y = z) | _ => false) = true := c
  revert c2; split
  · rename_i y t e; intro c2; exact ⟨t, by rw [e, of_decide_eq_true c2]⟩
  · intro c2; cases c2
theorem hx_all {l : PySem.W.OpenLaw} {w : World} {K : PySem.W.Frag} {h : Heap} {mg : Str → Option Value} {fa : Addr} (X : K.In h) (G : h.Ns mainGlobals mg) (hfa : mg "law" = some (.ref fa)) (z : hxO K = hxV) : ∃ fd : FuncData, (∀ (s : Shared) (v : Value), BindsTo s fd ⟨[v], []⟩ [("_law_script", v)]) ∧ ∀ base : Heap, K.In base → base.Ns mainGlobals mg → FnOk l.prog w K mg base CX0 7 fa fd ["_law_script"] (spLaw K) := by
  have z1 := He.ba (show ((hxL K).all id && hxD.all (fun d => (He.Fa.code d.at_ d.qual).ok K)) = true from congrArg (fun z : Bool × List He.FnV => z.1) z)
  have z2 : hxD.map (fun d => He.fnObs K d.at_) = hxD.map He.FnD.val := congrArg (fun z : Bool × List He.FnV => z.2) z
  have b0 : (hxB0 K).all id = true := hx_of z1.1 0 rfl
  have b1 : (hxB1 K).all id = true := hx_of z1.1 1 rfl
  have b2 : (hxB2 K).all id = true := hx_of z1.1 2 rfl
  have b3 : (hxB3 K).all id = true := hx_of z1.1 3 rfl
  have b4 : (hxB4 K).all id = true := hx_of z1.1 4 rfl
  have b5 : (hxB5 K).all id = true := hx_of z1.1 5 rfl
  have b6 : (hxB6 K).all id = true := hx_of z1.1 6 rfl
  have b7 : (hxB7 K).all id = true := hx_of z1.1 7 rfl
  have b8 : (hxB8 K).all id = true := hx_of z1.1 8 rfl
  have b9 : (hxB9 K).all id = true := hx_of z1.1 9 rfl
  have b10 : (hxB10 K).all id = true := hx_of z1.1 10 rfl
  have bS : (hxS K).all id = true := hx_of z1.1 11 rfl
  obtain ⟨t_LETTERS, V_LETTERS⟩ := hx_str (hx_of bS 0 rfl : (He.Fa.str "LETTERS" "abcdefghijklmnopqrstuvwxyz").ok K = true)
  obtain ⟨t_MOST_keeper, V_MOST_keeper⟩ := hx_int (hx_of bS 1 rfl : (He.Fa.int "MOST_keeper" (12)).ok K = true)
  have dd : ∀ (i : Nat) (d : He.FnD), hxD[i]? = some d → ∃ oc od osl kV doc pm an cdv ct, K.lookup (He.fAd K d.at_) = some ⟨oc, od, .func (PySem.W.fnOf d.name d.qual d.params d.body d.scope .none kV doc pm an cdv ct), osl⟩ ∧ PySem.W.codeIn K cdv d.qual = true := fun i d hd => by
    have e : (hxD.map fun d => He.fnObs K d.at_)[i]? = (hxD.map He.FnD.val)[i]? := by rw [z2]
    rw [List.getElem?_map, List.getElem?_map, hd] at e
    exact He.fn_ok (Option.some.inj e) (List.all_eq_true.mp z1.2 d (List.mem_of_getElem? hd))
  obtain ⟨_, _, _, _, _, _, _, _, _, L0, Q0⟩ := dd 0 _ rfl
  obtain ⟨_, _, _, _, _, _, _, _, _, L1, Q1⟩ := dd 1 _ rfl
  obtain ⟨_, _, _, _, _, _, _, _, _, L2, Q2⟩ := dd 2 _ rfl
  obtain ⟨_, _, _, _, _, _, _, _, _, L3, Q3⟩ := dd 3 _ rfl
  obtain ⟨_, _, _, _, _, _, _, _, _, L4, Q4⟩ := dd 4 _ rfl
  obtain ⟨_, _, _, _, _, _, _, _, _, L5, Q5⟩ := dd 5 _ rfl
  obtain ⟨_, _, _, _, _, _, _, _, _, L6, Q6⟩ := dd 6 _ rfl
  obtain ⟨_, _, _, _, _, _, _, _, _, L7, Q7⟩ := dd 7 _ rfl
  obtain ⟨_, _, _, _, _, _, _, _, _, L8, Q8⟩ := dd 8 _ rfl
  obtain ⟨_, _, _, _, _, _, _, _, _, L9, Q9⟩ := dd 9 _ rfl
  obtain ⟨_, _, _, _, _, _, _, _, _, L10, Q10⟩ := dd 10 _ rfl
  obtain ⟨_, _, _, _, _, _, _, _, _, L11, Q11⟩ := dd 11 _ rfl
  obtain ⟨_, _, _, _, _, _, _, _, _, L12, Q12⟩ := dd 12 _ rfl
  obtain ⟨_, _, _, _, _, _, _, _, _, L13, Q13⟩ := dd 13 _ rfl
  obtain ⟨_, _, _, _, _, _, _, _, _, L14, Q14⟩ := dd 14 _ rfl
  obtain ⟨_, _, _, _, _, _, _, _, _, L15, Q15⟩ := dd 15 _ rfl
  obtain ⟨_, _, _, _, _, _, _, _, _, L16, Q16⟩ := dd 16 _ rfl
  obtain ⟨_, _, _, _, _, _, _, _, _, L17, Q17⟩ := dd 17 _ rfl
  obtain ⟨_, _, _, _, _, _, _, _, _, L18, Q18⟩ := dd 18 _ rfl
  obtain ⟨_, _, _, _, _, _, _, _, _, L19, Q19⟩ := dd 19 _ rfl
  obtain ⟨_, _, _, _, _, _, _, _, _, L20, Q20⟩ := dd 20 _ rfl
  obtain ⟨_, _, _, _, _, _, _, _, _, L21, Q21⟩ := dd 21 _ rfl
  obtain ⟨_, _, _, _, _, _, _, _, _, L22, Q22⟩ := dd 22 _ rfl
  obtain ⟨_, _, _, _, _, _, _, _, _, L23, Q23⟩ := dd 23 _ rfl
  obtain ⟨_, _, _, _, _, _, _, _, _, L24, Q24⟩ := dd 24 _ rfl
  obtain ⟨_, _, _, _, _, _, _, _, _, L25, Q25⟩ := dd 25 _ rfl
  obtain ⟨_, _, _, _, _, _, _, _, _, L26, Q26⟩ := dd 26 _ rfl
  obtain ⟨_, _, _, _, _, _, _, _, _, L27, Q27⟩ := dd 27 _ rfl
  obtain ⟨_, _, _, _, _, _, _, _, _, L28, Q28⟩ := dd 28 _ rfl
  obtain ⟨_, _, _, _, _, _, _, _, _, L29, Q29⟩ := dd 29 _ rfl
  obtain ⟨_, _, _, _, _, _, _, _, _, L30, Q30⟩ := dd 30 _ rfl
  obtain ⟨_, _, _, _, _, _, _, _, _, L31, Q31⟩ := dd 31 _ rfl
  obtain ⟨_, _, _, _, _, _, _, _, _, L32, Q32⟩ := dd 32 _ rfl
  obtain ⟨_, _, _, _, _, _, _, _, _, L33, Q33⟩ := dd 33 _ rfl
  obtain ⟨_, _, _, _, _, _, _, _, _, L34, Q34⟩ := dd 34 _ rfl
  obtain ⟨_, _, _, _, _, _, _, _, _, L35, Q35⟩ := dd 35 _ rfl
  obtain ⟨_, _, _, _, _, _, _, _, _, L36, Q36⟩ := dd 36 _ rfl
  exact all_mk X G hfa (a0 := (He.eqO_ok (hx_of b0 0 rfl))) (l0 := L0) (c0 := Q0) (k0 := (hx_of b0 1 rfl)) (a1 := (He.eqO_ok (hx_of b0 2 rfl))) (l1 := L1) (c1 := Q1) (k1 := (hx_of b0 3 rfl)) (a2 := (He.eqO_ok (hx_of b0 4 rfl))) (i2 := (hx_of b0 5 rfl)) (l2 := L2) (c2 := Q2) (k2 := (hx_of b0 6 rfl)) (a3 := (He.eqO_ok (hx_of b0 7 rfl))) (i3 := (hx_of b0 8 rfl)) (l3 := L3) (c3 := Q3) (k3 := (hx_of b0 9 rfl)) (a4 := (He.eqO_ok (hx_of b0 10 rfl))) (i4 := (hx_of b0 11 rfl)) (l4 := L4) (c4 := Q4) (k4 := (hx_of b0 12 rfl)) (a5 := (He.eqO_ok (hx_of b0 13 rfl))) (i5 := (hx_of b0 14 rfl)) (l5 := L5) (c5 := Q5) (k5 := (hx_of b0 15 rfl)) (a6 := (He.eqO_ok (hx_of b0 16 rfl))) (i6 := (hx_of b0 17 rfl)) (l6 := L6) (c6 := Q6) (k6 := (hx_of b0 18 rfl)) (a7 := (He.eqO_ok (hx_of b0 19 rfl))) (l7 := L7) (c7 := Q7) (k7 := (hx_of b0 20 rfl)) (a8 := (He.eqO_ok (hx_of b0 21 rfl))) (i8 := (hx_of b0 22 rfl)) (l8 := L8) (c8 := Q8) (k8 := (hx_of b0 23 rfl)) (a9 := (He.eqO_ok (hx_of b1 0 rfl))) (i9 := (hx_of b1 1 rfl)) (l9 := L9) (c9 := Q9) (k9 := (hx_of b1 2 rfl)) (a10 := (He.eqO_ok (hx_of b1 3 rfl))) (l10 := L10) (c10 := Q10) (k10 := (hx_of b1 4 rfl)) (a11 := (He.eqO_ok (hx_of b1 5 rfl))) (l11 := L11) (c11 := Q11) (k11 := (hx_of b1 6 rfl)) (a12 := (He.eqO_ok (hx_of b1 7 rfl))) (l12 := L12) (c12 := Q12) (k12 := (hx_of b1 8 rfl)) (a13 := (He.eqO_ok (hx_of b1 9 rfl))) (l13 := L13) (c13 := Q13) (k13 := (hx_of b1 10 rfl)) (a14 := (He.eqO_ok (hx_of b1 11 rfl))) (l14 := L14) (c14 := Q14) (k14 := (hx_of b1 12 rfl)) (a15 := (He.eqO_ok (hx_of b1 13 rfl))) (l15 := L15) (c15 := Q15) (k15 := (hx_of b1 14 rfl)) (a16 := (He.eqO_ok (hx_of b1 15 rfl))) (i16 := (hx_of b1 16 rfl)) (l16 := L16) (c16 := Q16) (k16 := (hx_of b1 17 rfl)) (a17 := (He.eqO_ok (hx_of b1 18 rfl))) (i17 := (hx_of b1 19 rfl)) (l17 := L17) (c17 := Q17) (k17 := (hx_of b1 20 rfl)) (a18 := (He.eqO_ok (hx_of b1 21 rfl))) (i18 := (hx_of b1 22 rfl)) (l18 := L18) (c18 := Q18) (k18 := (hx_of b1 23 rfl)) (a19 := (He.eqO_ok (hx_of b2 0 rfl))) (i19 := (hx_of b2 1 rfl)) (l19 := L19) (c19 := Q19) (k19 := (hx_of b2 2 rfl)) (a20 := (He.eqO_ok (hx_of b2 3 rfl))) (i20 := (hx_of b2 4 rfl)) (l20 := L20) (c20 := Q20) (k20 := (hx_of b2 5 rfl)) (a21 := (He.eqO_ok (hx_of b2 6 rfl))) (i21 := (hx_of b2 7 rfl)) (l21 := L21) (c21 := Q21) (k21 := (hx_of b2 8 rfl)) (a22 := (He.eqO_ok (hx_of b2 9 rfl))) (l22 := L22) (c22 := Q22) (k22 := (hx_of b2 10 rfl)) (a23 := (He.eqO_ok (hx_of b2 11 rfl))) (i23 := (hx_of b2 12 rfl)) (l23 := L23) (c23 := Q23) (k23 := (hx_of b2 13 rfl)) (a24 := (He.eqO_ok (hx_of b2 14 rfl))) (i24 := (hx_of b2 15 rfl)) (l24 := L24) (c24 := Q24) (k24 := (hx_of b2 16 rfl)) (a25 := (He.eqO_ok (hx_of b2 17 rfl))) (i25 := (hx_of b2 18 rfl)) (l25 := L25) (c25 := Q25) (k25 := (hx_of b2 19 rfl)) (a26 := (He.eqO_ok (hx_of b2 20 rfl))) (i26 := (hx_of b2 21 rfl)) (l26 := L26) (c26 := Q26) (k26 := (hx_of b2 22 rfl)) (a27 := (He.eqO_ok (hx_of b2 23 rfl))) (i27 := (hx_of b3 0 rfl)) (l27 := L27) (c27 := Q27) (k27 := (hx_of b3 1 rfl)) (a28 := (He.eqO_ok (hx_of b3 2 rfl))) (i28 := (hx_of b3 3 rfl)) (l28 := L28) (c28 := Q28) (k28 := (hx_of b3 4 rfl)) (a29 := (He.eqO_ok (hx_of b3 5 rfl))) (i29 := (hx_of b3 6 rfl)) (l29 := L29) (c29 := Q29) (k29 := (hx_of b3 7 rfl)) (a30 := (He.eqO_ok (hx_of b3 8 rfl))) (i30 := (hx_of b3 9 rfl)) (l30 := L30) (c30 := Q30) (k30 := (hx_of b3 10 rfl)) (a31 := (He.eqO_ok (hx_of b3 11 rfl))) (i31 := (hx_of b3 12 rfl)) (l31 := L31) (c31 := Q31) (k31 := (hx_of b3 13 rfl)) (a32 := (He.eqO_ok (hx_of b3 14 rfl))) (l32 := L32) (c32 := Q32) (k32 := (hx_of b3 15 rfl)) (a33 := (He.eqO_ok (hx_of b3 16 rfl))) (i33 := (hx_of b3 17 rfl)) (l33 := L33) (c33 := Q33) (k33 := (hx_of b3 18 rfl)) (a34 := (He.eqO_ok (hx_of b3 19 rfl))) (l34 := L34) (c34 := Q34) (k34 := (hx_of b3 20 rfl)) (a35 := (He.eqO_ok (hx_of b3 21 rfl))) (l35 := L35) (c35 := Q35) (k35 := (hx_of b3 22 rfl)) (a36 := (He.eqO_ok (hx_of b3 23 rfl))) (l36 := L36) (c36 := Q36) (k36 := (hx_of b4 0 rfl)) (z_ValueError := (He.eqO_ok (hx_of b4 1 rfl))) (z_all := (He.eqO_ok (hx_of b4 2 rfl))) (z_bool := (He.eqO_ok (hx_of b4 3 rfl))) (z_dict := (He.eqO_ok (hx_of b4 4 rfl))) (z_int := (He.eqO_ok (hx_of b4 5 rfl))) (z_isinstance := (He.eqO_ok (hx_of b4 6 rfl))) (z_len := (He.eqO_ok (hx_of b4 7 rfl))) (z_list := (He.eqO_ok (hx_of b4 8 rfl))) (z_range := (He.eqO_ok (hx_of b4 9 rfl))) (z_sorted := (He.eqO_ok (hx_of b4 10 rfl))) (z_str := (He.eqO_ok (hx_of b4 11 rfl))) (v_LETTERS := V_LETTERS) (r_LETTERS := ⟨_, rfl⟩) (v_MOST_keeper := V_MOST_keeper) (r_MOST_keeper := ⟨_, rfl⟩) (al_told_bags := (He.eqO_ok (hx_of b4 12 rfl))) (kf_rank := (He.eqO_ok (hx_of b4 13 rfl))) (xn_Net := (He.eqO_ok (hx_of b4 14 rfl))) (xg_Net := (hx_of b4 15 rfl)) (xh_Net := (hx_of b4 16 rfl)) (xp_Net := (hx_of b4 17 rfl)) (xs_Net := (He.eqO_ok (hx_of b4 18 rfl))) (xm_Net := (hx_of b4 19 rfl)) (xk_Net := (hx_of b4 20 rfl)) (xf_Net_laid := (He.eqO_ok (hx_of b4 21 rfl))) (xf_Net_wide := (He.eqO_ok (hx_of b4 22 rfl))) (xf_Net_numbers := (He.eqO_ok (hx_of b4 23 rfl))) (xn_Machine := (He.eqO_ok (hx_of b5 0 rfl))) (xg_Machine := (hx_of b5 1 rfl)) (xh_Machine := (hx_of b5 2 rfl)) (xp_Machine := (hx_of b5 3 rfl)) (xs_Machine := (He.eqO_ok (hx_of b5 4 rfl))) (xm_Machine := (hx_of b5 5 rfl)) (xk_Machine := (hx_of b5 6 rfl)) (xf_Machine_net := (He.eqO_ok (hx_of b5 7 rfl))) (xf_Machine_parts := (He.eqO_ok (hx_of b5 8 rfl))) (xf_Machine_bags := (He.eqO_ok (hx_of b5 9 rfl))) (xn_Keeper := (He.eqO_ok (hx_of b5 10 rfl))) (xg_Keeper := (hx_of b5 11 rfl)) (xh_Keeper := (hx_of b5 12 rfl)) (xp_Keeper := (hx_of b5 13 rfl)) (xs_Keeper := (He.eqO_ok (hx_of b5 14 rfl))) (xm_Keeper := (hx_of b5 15 rfl)) (xk_Keeper := (hx_of b5 16 rfl)) (xf_Keeper_machine := (He.eqO_ok (hx_of b5 17 rfl))) (xf_Keeper_spots := (He.eqO_ok (hx_of b5 18 rfl))) (xf_Keeper_wides := (He.eqO_ok (hx_of b5 19 rfl))) (xf_Keeper_sizes := (He.eqO_ok (hx_of b5 20 rfl))) (xf_Keeper_texts := (He.eqO_ok (hx_of b5 21 rfl))) (xf_Keeper_trees := (He.eqO_ok (hx_of b5 22 rfl))) (xf_Keeper_news := (He.eqO_ok (hx_of b5 23 rfl))) (xf_Keeper_pours := (He.eqO_ok (hx_of b6 0 rfl))) (xa0 := (He.eqO_ok (hx_of b6 1 rfl))) (xt0 := (of_decide_eq_true (hx_of b6 2 rfl))) (xh0 := (hx_of b6 3 rfl)) (xs0 := (of_decide_eq_true (hx_of b6 4 rfl))) (xa1 := (He.eqO_ok (hx_of b6 5 rfl))) (xt1 := (of_decide_eq_true (hx_of b6 6 rfl))) (xh1 := (hx_of b6 7 rfl)) (xs1 := (of_decide_eq_true (hx_of b6 8 rfl))) (xa2 := (He.eqO_ok (hx_of b6 9 rfl))) (xt2 := (of_decide_eq_true (hx_of b6 10 rfl))) (xh2 := (hx_of b6 11 rfl)) (xs2 := (of_decide_eq_true (hx_of b6 12 rfl))) (xa3 := (He.eqO_ok (hx_of b6 13 rfl))) (xt3 := (of_decide_eq_true (hx_of b6 14 rfl))) (xh3 := (hx_of b6 15 rfl)) (xs3 := (of_decide_eq_true (hx_of b6 16 rfl))) (xa4 := (He.eqO_ok (hx_of b6 17 rfl))) (xt4 := (of_decide_eq_true (hx_of b6 18 rfl))) (xh4 := (hx_of b6 19 rfl)) (xs4 := (of_decide_eq_true (hx_of b6 20 rfl))) (xa5 := (He.eqO_ok (hx_of b6 21 rfl))) (xt5 := (of_decide_eq_true (hx_of b6 22 rfl))) (xh5 := (hx_of b6 23 rfl)) (xs5 := (of_decide_eq_true (hx_of b7 0 rfl))) (xa6 := (He.eqO_ok (hx_of b7 1 rfl))) (xt6 := (of_decide_eq_true (hx_of b7 2 rfl))) (xh6 := (hx_of b7 3 rfl)) (xs6 := (of_decide_eq_true (hx_of b7 4 rfl))) (xa7 := (He.eqO_ok (hx_of b7 5 rfl))) (xt7 := (of_decide_eq_true (hx_of b7 6 rfl))) (xh7 := (hx_of b7 7 rfl)) (xs7 := (of_decide_eq_true (hx_of b7 8 rfl))) (xa8 := (He.eqO_ok (hx_of b7 9 rfl))) (xt8 := (of_decide_eq_true (hx_of b7 10 rfl))) (xh8 := (hx_of b7 11 rfl)) (xs8 := (of_decide_eq_true (hx_of b7 12 rfl))) (xa9 := (He.eqO_ok (hx_of b7 13 rfl))) (xt9 := (of_decide_eq_true (hx_of b7 14 rfl))) (xh9 := (hx_of b7 15 rfl)) (xs9 := (of_decide_eq_true (hx_of b7 16 rfl))) (xa10 := (He.eqO_ok (hx_of b7 17 rfl))) (xt10 := (of_decide_eq_true (hx_of b7 18 rfl))) (xh10 := (hx_of b7 19 rfl)) (xs10 := (of_decide_eq_true (hx_of b7 20 rfl))) (xa11 := (He.eqO_ok (hx_of b7 21 rfl))) (xt11 := (of_decide_eq_true (hx_of b7 22 rfl))) (xh11 := (hx_of b7 23 rfl)) (xs11 := (of_decide_eq_true (hx_of b8 0 rfl))) (xa12 := (He.eqO_ok (hx_of b8 1 rfl))) (xt12 := (of_decide_eq_true (hx_of b8 2 rfl))) (xh12 := (hx_of b8 3 rfl)) (xs12 := (of_decide_eq_true (hx_of b8 4 rfl))) (xv := (of_decide_eq_true (hx_of b8 5 rfl))) (xn1 := (He.eqO_ok (hx_of b8 6 rfl))) (xn2 := (of_decide_eq_true (hx_of b8 7 rfl))) (rq1 := (hx_of b8 8 rfl)) (rk1 := (hx_of b8 9 rfl)) (rb1 := (of_decide_eq_true (hx_of b8 10 rfl))) (rg1 := (He.eqO_ok (hx_of b8 11 rfl))) (rh1 := (He.eqO_ok (hx_of b8 12 rfl))) (rc1 := (He.eqO_ok (hx_of b8 13 rfl))) (rm1 := (of_decide_eq_true (hx_of b8 14 rfl))) (rv1 := (of_decide_eq_true (hx_of b8 15 rfl))) (rp1_1 := (of_decide_eq_true (hx_of b8 16 rfl))) (rp1_5 := (of_decide_eq_true (hx_of b8 17 rfl))) (rp1_8 := (of_decide_eq_true (hx_of b8 18 rfl))) (rp1_6 := (of_decide_eq_true (hx_of b8 19 rfl))) (rp1_2 := (of_decide_eq_true (hx_of b8 20 rfl))) (rp1_3 := (of_decide_eq_true (hx_of b8 21 rfl))) (rp1_4 := (of_decide_eq_true (hx_of b8 22 rfl))) (rp1_7 := (of_decide_eq_true (hx_of b8 23 rfl))) (rp1_9 := (of_decide_eq_true (hx_of b9 0 rfl))) (rp1_10 := (of_decide_eq_true (hx_of b9 1 rfl))) (rp1_11 := (of_decide_eq_true (hx_of b9 2 rfl))) (rp1_12 := (of_decide_eq_true (hx_of b9 3 rfl))) (rp1_ValueError := (of_decide_eq_true (hx_of b9 4 rfl))) (rq5 := (hx_of b9 5 rfl)) (rk5 := (hx_of b9 6 rfl)) (rb5 := (of_decide_eq_true (hx_of b9 7 rfl))) (rg5 := (He.eqO_ok (hx_of b9 8 rfl))) (rh5 := (He.eqO_ok (hx_of b9 9 rfl))) (rc5 := (He.eqO_ok (hx_of b9 10 rfl))) (rm5 := (of_decide_eq_true (hx_of b9 11 rfl))) (rv5 := (of_decide_eq_true (hx_of b9 12 rfl))) (rp5_1 := (of_decide_eq_true (hx_of b9 13 rfl))) (rp5_5 := (of_decide_eq_true (hx_of b9 14 rfl))) (rp5_8 := (of_decide_eq_true (hx_of b9 15 rfl))) (rp5_6 := (of_decide_eq_true (hx_of b9 16 rfl))) (rp5_2 := (of_decide_eq_true (hx_of b9 17 rfl))) (rp5_3 := (of_decide_eq_true (hx_of b9 18 rfl))) (rp5_4 := (of_decide_eq_true (hx_of b9 19 rfl))) (rp5_7 := (of_decide_eq_true (hx_of b9 20 rfl))) (rp5_9 := (of_decide_eq_true (hx_of b9 21 rfl))) (rp5_10 := (of_decide_eq_true (hx_of b9 22 rfl))) (rp5_11 := (of_decide_eq_true (hx_of b9 23 rfl))) (rp5_12 := (of_decide_eq_true (hx_of b10 0 rfl))) (rp5_ValueError := (of_decide_eq_true (hx_of b10 1 rfl))) (rq8 := (hx_of b10 2 rfl)) (rk8 := (hx_of b10 3 rfl)) (rb8 := (of_decide_eq_true (hx_of b10 4 rfl))) (rg8 := (He.eqO_ok (hx_of b10 5 rfl))) (rh8 := (He.eqO_ok (hx_of b10 6 rfl))) (rc8 := (He.eqO_ok (hx_of b10 7 rfl))) (rm8 := (of_decide_eq_true (hx_of b10 8 rfl))) (rv8 := (of_decide_eq_true (hx_of b10 9 rfl))) (rp8_1 := (of_decide_eq_true (hx_of b10 10 rfl))) (rp8_5 := (of_decide_eq_true (hx_of b10 11 rfl))) (rp8_8 := (of_decide_eq_true (hx_of b10 12 rfl))) (rp8_6 := (of_decide_eq_true (hx_of b10 13 rfl))) (rp8_2 := (of_decide_eq_true (hx_of b10 14 rfl))) (rp8_3 := (of_decide_eq_true (hx_of b10 15 rfl))) (rp8_4 := (of_decide_eq_true (hx_of b10 16 rfl))) (rp8_7 := (of_decide_eq_true (hx_of b10 17 rfl))) (rp8_9 := (of_decide_eq_true (hx_of b10 18 rfl))) (rp8_10 := (of_decide_eq_true (hx_of b10 19 rfl))) (rp8_11 := (of_decide_eq_true (hx_of b10 20 rfl))) (rp8_12 := (of_decide_eq_true (hx_of b10 21 rfl))) (rp8_ValueError := (of_decide_eq_true (hx_of b10 22 rfl))) (true_law := true_law)
end Law
open PySem PySem.W PyProof.Rows in
set_option maxRecDepth 100000 in
set_option maxHeartbeats 0 in
theorem PySem.Challenge.cw_viewkeep_k48_tables_and_names_holds : PySem.Challenge.rw_viewkeep_k48_tables_and_names.Holds := by
  w_on; o_law
  refine holds_open (r := OpenLaw.row PySem.Challenge.rw_viewkeep_k48_tables_and_names) (q := Law.hxQ) (loose := Law.hxN) (XP := XL Law.hxQ []) (YP := Law.hxH.says) (d := HandSHeadRun.topDef Law.hxP 166) (kwd := []) Law.hx_left Law.hxH.of Law.hxH.keeps (fun s z => xl_of s (Bool.and_eq_true_iff.mp z).1) XL.keeps (by kernel_rfl) (by kernel_rfl) (by kernel_rfl) (fun s z => recFacts_of (Bool.and_eq_true_iff.mp z).2) (by rfl) (by first | assumption | decide +kernel) (by decide +kernel) ⟨rfl, rfl, rfl, rfl, rfl, by decide +kernel⟩ ?hw ?hc
  case hw => w_witness2
  case hc =>
    refine L2.walk_ofE (l := PySem.Challenge.rw_viewkeep_k48_tables_and_names) (n := 63) (k := 7) (x := "_law_script") (CX := L2.CX0) rfl (by decide) (by kernel_rfl) ⟨rfl, by decide, by decide⟩ ?F (fun _ _ _ _ z => z)
    intro w mg fa h Y G hm
    obtain ⟨K, X, c⟩ := Y
    have e : (HandSHeadRun.topDef Law.hxP 166).name = ("law" : PySem.Str) := by kernel_rfl
    rw [e] at hm
    obtain ⟨fd, hb, hF⟩ := Law.hx_all (l := PySem.Challenge.rw_viewkeep_k48_tables_and_names) (w := w) X G hm c
    exact ⟨K, fd, VL.spLaw K, X, hb, fun H a ns hl hO hS => ⟨a, ns, rfl, hS, hl, hO, fun _ => rfl⟩, hF⟩
