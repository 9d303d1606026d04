import PyProof.Rows.All
import Wide.All
import OpenK.AllK
import Wide.FinOn
import Lean
import PySem.Challenge.RW_og0096_01
section
open PySem PySem.W PyProof.Rows
set_option Elab.async false
set_option genInjectivity false
set_option genSizeOf false
set_option genSizeOfSpec false
namespace Mine
noncomputable abbrev pw := PySem.Challenge.pw_og0096_01
noncomputable def vw : Program := view pw [0, 2, 3, 5, 6, 7, 8, 9, 10, 11, 12, 13, 14, 15, 16, 18, 19, 20, 21, 22, 24, 25, 26, 27, 29, 30, 31, 32, 33, 34, 35, 36, 37, 39, 41, 43, 45, 46, 47, 48]
noncomputable def lse : List Str := ["LedgerError", "Occurs", "ref_faults", "_law_leaf", "_law_ref"]

/-- where a def lies in the text, and what its function object holds -/
structure FnI where
  at_ : Addr
  name : Str
  qual : Str
  i : Nat
  j : Option Nat
  dV : Value
  pm : Str
  pmt : Nat
  code : Addr
noncomputable def stmtAt (i : Nat) (j : Option Nat) : Stmt := match pw.main.body[i]?, j with
  | some st, none => st
  | some (.ClassDef _ _ _ b _ _ _ _ _ _ _), some j => b.getD j (.Pass default)
  | _, _ => .Pass default
noncomputable def FnI.params (f : FnI) : Arguments := match stmtAt f.i f.j with | .FunctionDef _ a .. => a | _ => ⟨[], [], none, [], [], none, []⟩
noncomputable def FnI.body (f : FnI) : List Stmt := match stmtAt f.i f.j with | .FunctionDef _ _ b .. => b | _ => []
noncomputable def FnI.scope (f : FnI) : Scope := match stmtAt f.i f.j with | .FunctionDef _ _ _ _ _ _ s .. => s | _ => default
noncomputable def FnI.fd (f : FnI) : FuncData := fnOf f.name f.qual f.params f.body f.scope f.dV .none .none (.str f.pm f.pmt) none (.ref f.code) .none
noncomputable def FnI.obj (f : FnI) : Obj := ⟨.type "function", none, .func f.fd, #[]⟩
noncomputable def fnL : List FnI := [
  ⟨37, "__init__", "LedgerError.__init__", 2, (some 0), (.ref 30), "ledgerspeak.errors", 194, 36⟩,
  ⟨79, "__init__", "Occurs.__init__", 6, (some 0), (.ref 72), "ledgerspeak.items", 252, 78⟩,
  ⟨107, "__init__", "Named.__init__", 7, (some 0), .none, "ledgerspeak.items", 252, 106⟩,
  ⟨135, "__init__", "Item.__init__", 8, (some 0), .none, "ledgerspeak.items", 252, 134⟩,
  ⟨142, "add", "Item.add", 8, (some 1), .none, "ledgerspeak.items", 252, 141⟩,
  ⟨182, "__init__", "Data.__init__", 9, (some 0), .none, "ledgerspeak.items", 252, 181⟩,
  ⟨201, "records", "records", 10, none, .none, "ledgerspeak.items", 252, 200⟩,
  ⟨208, "items_under", "items_under", 11, none, .none, "ledgerspeak.items", 252, 207⟩,
  ⟨215, "all_items", "all_items", 12, none, .none, "ledgerspeak.items", 252, 214⟩,
  ⟨222, "items_around", "items_around", 13, none, .none, "ledgerspeak.items", 252, 221⟩,
  ⟨229, "root_of", "root_of", 14, none, .none, "ledgerspeak.items", 252, 228⟩,
  ⟨234, "names_around", "names_around", 15, none, .none, "ledgerspeak.items", 252, 233⟩,
  ⟨239, "tables_around", "tables_around", 16, none, .none, "ledgerspeak.items", 252, 238⟩,
  ⟨244, "file_of", "file_of", 18, none, .none, "ledgerspeak.references", 512, 243⟩,
  ⟨251, "leads_through", "leads_through", 19, none, .none, "ledgerspeak.references", 512, 250⟩,
  ⟨258, "only_one", "only_one", 20, none, .none, "ledgerspeak.references", 512, 257⟩,
  ⟨263, "find_item", "find_item", 21, none, .none, "ledgerspeak.references", 512, 262⟩,
  ⟨270, "find_named", "find_named", 22, none, .none, "ledgerspeak.references", 512, 269⟩,
  ⟨277, "item_of", "item_of", 25, none, .none, "ledgerspeak.checker", 557, 276⟩,
  ⟨284, "is_index_name", "is_index_name", 26, none, .none, "ledgerspeak.checker", 557, 283⟩,
  ⟨291, "part_faults", "part_faults", 27, none, .none, "ledgerspeak.checker", 557, 290⟩,
  ⟨299, "ref_faults", "ref_faults", 28, none, (.ref 292), "ledgerspeak.checker", 557, 298⟩,
  ⟨306, "operand_faults", "operand_faults", 29, none, .none, "ledgerspeak.checker", 557, 305⟩,
  ⟨313, "category_of", "category_of", 30, none, .none, "ledgerspeak.checker", 557, 312⟩,
  ⟨320, "is_number_operand", "is_number_operand", 31, none, .none, "ledgerspeak.checker", 557, 319⟩,
  ⟨327, "number_faults", "number_faults", 32, none, .none, "ledgerspeak.checker", 557, 326⟩,
  ⟨334, "name_of", "name_of", 33, none, .none, "ledgerspeak.checker", 557, 333⟩,
  ⟨341, "is_worth", "is_worth", 34, none, .none, "ledgerspeak.checker", 557, 340⟩,
  ⟨348, "worth_faults", "worth_faults", 35, none, .none, "ledgerspeak.checker", 557, 347⟩,
  ⟨355, "named_faults", "named_faults", 36, none, .none, "ledgerspeak.checker", 557, 354⟩,
  ⟨362, "cond_faults", "cond_faults", 37, none, .none, "ledgerspeak.checker", 557, 361⟩,
  ⟨377, "__init__", "Shape.__init__", 39, (some 0), (.ref 370), "ledgerspeak.shapes", 676, 376⟩,
  ⟨405, "_law_draw", "_law_draw", 41, none, .none, "law_og0096_01", 743, 404⟩,
  ⟨413, "_law_leaf", "_law_leaf", 42, none, (.ref 406), "law_og0096_01", 743, 412⟩,
  ⟨420, "_law_data", "_law_data", 43, none, .none, "law_og0096_01", 743, 419⟩,
  ⟨430, "_law_ref", "_law_ref", 44, none, (.ref 423), "law_og0096_01", 743, 429⟩,
  ⟨437, "_law_named", "_law_named", 45, none, .none, "law_og0096_01", 743, 436⟩,
  ⟨444, "_law_simple", "_law_simple", 46, none, .none, "law_og0096_01", 743, 443⟩,
  ⟨451, "_law_cond", "_law_cond", 47, none, .none, "law_og0096_01", 743, 450⟩,
  ⟨456, "law", "law", 48, none, .none, "law_og0096_01", 743, 455⟩]
noncomputable def ke (P : Params) (x : Str) (t : Nat) (v : Value) : DictEntry := ⟨PyData.keyHash P x, .str x t, v⟩
noncomputable def tupO (l : List Value) (n : Nat) : Obj := ⟨.type "tuple", none, .seq l.toArray n, #[]⟩
noncomputable def clsK (P : Params) : List (Addr × Obj) := [
  (47, ⟨.type "type", none, .cls { name := "LedgerError", bases := [(.type "Exception")], mro := [(.ref 47), (.type "Exception"), (.type "BaseException"), (.type "object")], ns := 46, qualname := "LedgerError", subclasses := [(.ref 60)] }, #[some (.ref 22), none, some (.str "LedgerError" 196), some (.str "LedgerError" 204), some (.builtin "Exception.__new__"), some (.bool true)]⟩),
  (46, ⟨.type "dict", none, .dict #[ke P "__module__" 203 (.str "ledgerspeak.errors" 194), ke P "__firstlineno__" 207 (.int 5 206), ke P "__init__" 218 (.ref 37), ke P "told" 225 (.ref 44), ke P "__static_attributes__" 228 (.ref 45), ke P "__weakref__" 230 (.ref 48), ke P "__doc__" 231 .none] 3, #[]⟩),
  (60, ⟨.type "type", none, .cls { name := "CheckFault", bases := [(.ref 47)], mro := [(.ref 60), (.ref 47), (.type "Exception"), (.type "BaseException"), (.type "object")], ns := 59, qualname := "CheckFault" }, #[some (.ref 51), none, some (.str "CheckFault" 236), some (.str "CheckFault" 244), some (.builtin "Exception.__new__"), some (.bool true)]⟩),
  (59, ⟨.type "dict", none, .dict #[ke P "__module__" 243 (.str "ledgerspeak.errors" 194), ke P "__firstlineno__" 247 (.int 14 246), ke P "__static_attributes__" 248 (.ref 58), ke P "__doc__" 249 .none] 2, #[]⟩),
  (89, ⟨.type "type", none, .cls { name := "Occurs", bases := [(.type "object")], mro := [(.ref 89), (.type "object")], ns := 88, qualname := "Occurs" }, #[none, none, some (.str "Occurs" 256), some (.str "Occurs" 264), some (.builtin "object.__new__"), some (.bool true)]⟩),
  (88, ⟨.type "dict", none, .dict #[ke P "__module__" 263 (.str "ledgerspeak.items" 252), ke P "__firstlineno__" 267 (.int 18 266), ke P "__init__" 279 (.ref 79), ke P "told" 286 (.ref 86), ke P "__static_attributes__" 292 (.ref 87), ke P "__dict__" 294 (.ref 90), ke P "__weakref__" 296 (.ref 91), ke P "__doc__" 297 .none] 4, #[]⟩),
  (117, ⟨.type "type", none, .cls { name := "Named", bases := [(.type "object")], mro := [(.ref 117), (.type "object")], ns := 116, qualname := "Named" }, #[none, none, some (.str "Named" 300), some (.str "Named" 308), some (.builtin "object.__new__"), some (.bool true)]⟩),
  (116, ⟨.type "dict", none, .dict #[ke P "__module__" 307 (.str "ledgerspeak.items" 252), ke P "__firstlineno__" 311 (.int 29 310), ke P "__init__" 320 (.ref 107), ke P "told" 327 (.ref 114), ke P "__static_attributes__" 330 (.ref 115), ke P "__dict__" 332 (.ref 118), ke P "__weakref__" 334 (.ref 119), ke P "__doc__" 335 .none] 4, #[]⟩),
  (164, ⟨.type "type", none, .cls { name := "Item", bases := [(.type "object")], mro := [(.ref 164), (.type "object")], ns := 163, qualname := "Item" }, #[none, none, some (.str "Item" 338), some (.str "Item" 346), some (.builtin "object.__new__"), some (.bool true)]⟩),
  (163, ⟨.type "dict", none, .dict #[ke P "__module__" 345 (.str "ledgerspeak.items" 252), ke P "__firstlineno__" 349 (.int 37 348), ke P "__init__" 358 (.ref 135), ke P "add" 366 (.ref 142), ke P "count" 373 (.ref 149), ke P "clauses" 382 (.ref 156), ke P "told" 388 (.ref 161), ke P "__static_attributes__" 408 (.ref 162), ke P "__dict__" 410 (.ref 165), ke P "__weakref__" 412 (.ref 166), ke P "__doc__" 413 .none] 4, #[]⟩),
  (190, ⟨.type "type", none, .cls { name := "Data", bases := [(.type "object")], mro := [(.ref 190), (.type "object")], ns := 189, qualname := "Data" }, #[none, none, some (.str "Data" 416), some (.str "Data" 424), some (.builtin "object.__new__"), some (.bool true)]⟩),
  (189, ⟨.type "dict", none, .dict #[ke P "__module__" 423 (.str "ledgerspeak.items" 252), ke P "__firstlineno__" 427 (.int 75 426), ke P "__init__" 434 (.ref 182), ke P "told" 440 (.ref 187), ke P "__static_attributes__" 447 (.ref 188), ke P "__dict__" 449 (.ref 191), ke P "__weakref__" 451 (.ref 192), ke P "__doc__" 452 .none] 4, #[]⟩),
  (394, ⟨.type "type", none, .cls { name := "Shape", bases := [(.type "object")], mro := [(.ref 394), (.type "object")], ns := 393, qualname := "Shape" }, #[none, none, some (.str "Shape" 678), some (.str "Shape" 686), some (.builtin "object.__new__"), some (.bool true)]⟩),
  (393, ⟨.type "dict", none, .dict #[ke P "__module__" 685 (.str "ledgerspeak.shapes" 676), ke P "__firstlineno__" 689 (.int 234 688), ke P "__init__" 706 (.ref 377), ke P "told" 716 (.ref 384), ke P "sign_place" 723 (.ref 391), ke P "__static_attributes__" 735 (.ref 392), ke P "__dict__" 737 (.ref 395), ke P "__weakref__" 739 (.ref 396), ke P "__doc__" 740 .none] 4, #[]⟩),
  (29, tupO [(.int 0 208), (.int 0 209)] 0),
  (30, tupO [(.ref 29)] 0),
  (70, tupO [] 0),
  (71, tupO [] 0),
  (72, tupO [.none, (.ref 70), (.ref 71)] 0),
  (292, tupO [(.int 0 587)] 0),
  (370, tupO [.none, (.str "display" 690), (.str "trailing" 691), (.bool false), (.bool false), (.bool false)] 0),
  (406, tupO [(.int 1 755)] 0),
  (421, tupO [] 0),
  (422, tupO [] 0),
  (423, tupO [(.ref 421), .none, (.ref 422)] 0)]
/-- the objects of the top that the proof reads -/
noncomputable def KF (P : Params) : Frag := clsK P ++ fnL.map fun f => (f.at_, f.obj)
noncomputable def gv (x : Str) (v : Value) : Str × Value := (x, v)
noncomputable def glL : List (Str × Value) := [gv "CheckFault" (.ref 60), gv "FILLER" (.str "FILLER" 254), gv "Occurs" (.ref 89), gv "Named" (.ref 117), gv "Item" (.ref 164), gv "Data" (.ref 190), gv "records" (.ref 201), gv "items_under" (.ref 208), gv "all_items" (.ref 215), gv "items_around" (.ref 222), gv "root_of" (.ref 229), gv "names_around" (.ref 234), gv "tables_around" (.ref 239), gv "file_of" (.ref 244), gv "leads_through" (.ref 251), gv "only_one" (.ref 258), gv "find_item" (.ref 263), gv "find_named" (.ref 270), gv "ARITHMETIC" (.str "+ - * / **" 559), gv "item_of" (.ref 277), gv "is_index_name" (.ref 284), gv "part_faults" (.ref 291), gv "ref_faults" (.ref 299), gv "operand_faults" (.ref 306), gv "category_of" (.ref 313), gv "is_number_operand" (.ref 320), gv "number_faults" (.ref 327), gv "name_of" (.ref 334), gv "is_worth" (.ref 341), gv "worth_faults" (.ref 348), gv "named_faults" (.ref 355), gv "cond_faults" (.ref 362), gv "Shape" (.ref 394), gv "_law_draw" (.ref 405), gv "_law_leaf" (.ref 413), gv "_law_data" (.ref 420), gv "_law_ref" (.ref 430), gv "_law_named" (.ref 437), gv "_law_simple" (.ref 444), gv "_law_cond" (.ref 451), gv "law" (.ref 456)]
noncomputable def codeB (h : Heap) (c : Addr) (q : Str) : Bool := match h.get? c with
  | some ⟨_, _, .fields vs, _⟩ => (match vs[1]? with | some (Value.str n _) => n == q | _ => false)
  | _ => false
noncomputable def noneL : List Str := ["int", "len", "tuple", "range", "str", "Exception"]
noncomputable def kAs : List Addr := [47, 46, 60, 59, 89, 88, 117, 116, 164, 163, 190, 189, 394, 393, 29, 30, 70, 71, 72, 292, 370, 406, 421, 422, 423] ++ fnL.map (·.at_)
theorem kAs_is (P : Params) : kAs = (KF P).map (·.1) := by kernel_rfl
noncomputable def obsM (s : Shared) : List (Option Obj) × List (Option Value) × List Bool × List (Option Value) × Nat :=
  (kAs.map s.heap.get?, glL.map (fun p => s.heap.nsMap mainGlobals p.1), fnL.map (fun f => codeB s.heap f.code f.qual), noneL.map (fun x => s.heap.nsMap mainGlobals x), s.heap.objs.size)
noncomputable def valM (w : World) : List (Option Obj) × List (Option Value) × List Bool × List (Option Value) × Nat :=
  ((KF w.params).map (fun p => some p.2), glL.map (fun p => some p.2), fnL.map (fun _ => true), noneL.map (fun _ => none), 457)
end Mine
end
section
open PySem PySem.W PyProof.Rows
set_option Elab.async false
namespace Mine
set_option maxRecDepth 100000
set_option maxHeartbeats 0

noncomputable abbrev Xt0 : Shared → Bool := fun s => xlAt vw [] s && recOk [] s
theorem opn : ∀ w : World, (fencedOpening treeTable pw w 7000).map (fun s => (s.heap, s.gens, s.drawn, s.toks)) = some (boot_heap w.params, Array.mk [], boot_drawn, boot_toks) :=
  boot_open (by kernel_rfl) (by kernel_rfl) (fun s => by kernel_rfl)
noncomputable abbrev ann0 : Option Value := some (.ref 6)
theorem size0 : ∀ w : World, ((boot_heap w.params).isNs mainGlobals && (Array.mk [] : Array GenState).size == 0, (boot_heap w.params).objs.size, (boot_heap w.params).nsMap mainGlobals "__annotations__") = (true, 11, ann0) := by
  intro w; kernel_rfl
/-! the top's run, in pieces -/
noncomputable def updL : List (Nat × Obj) → BT → BT
  | [], t => t
  | p :: l, t => updL l (t.ins p.1 p.2)
noncomputable def fnP (i : Nat) (j : Option Nat) : Arguments := match stmtAt i j with | .FunctionDef _ a .. => a | _ => ⟨[], [], none, [], [], none, []⟩
noncomputable def fnB (i : Nat) (j : Option Nat) : List Stmt := match stmtAt i j with | .FunctionDef _ _ b .. => b | _ => []
noncomputable def fnSc (i : Nat) (j : Option Nat) : Scope := match stmtAt i j with | .FunctionDef _ _ _ _ _ _ s .. => s | _ => default
noncomputable def fnX (i : Nat) (j : Option Nat) (name qual : Str) (gl : Addr) (cl : List (Str × Addr)) (dV kV doc pm : Value) (an : Option Addr) (cd ct : Value) (bu : Addr) : FuncData := ⟨name, qual, fnP i j, .stmts (fnB i j), fnSc i j, gl, cl, dV, kV, doc, pm, an, cd, ct, bu⟩
noncomputable def clX (name : Str) (bases mro : List Value) (ns : Addr) (qual : Str) (hd : Bool) (sn : List Str) (sub : List Value) (ab : Bool) (co : Option Bool) (de : Bool) : ClassData := ⟨name, bases, mro, ns, qual, hd, sn, sub, ab, co, de⟩
noncomputable def bootL (P : Params) : List Obj := (boot_heap P).objs.toList
/-- every second item, from the first and from the second -/
noncomputable def halves (l : List Obj) : List Obj × List Obj := List.rec ([], []) (fun x _ p => (x :: p.2, p.1)) l
noncomputable def grow (n : Nat) : List Obj → BT := Nat.rec (fun _ => .nil) (fun _ ih l => match l with
  | [] => .nil
  | x :: r => .node x (ih (halves r).1) (ih (halves r).2)) n
noncomputable def tUa (P : Params) : List (Nat × Obj) := []
noncomputable def tNa (P : Params) : List Obj := [⟨.type "tuple", none, .seq #[] 0, #[]⟩,
  ⟨.none, none, .fields #[], #[]⟩,
  ⟨.type "code", none, .fields #[.str "<module>" 182, .str "<module>" 183, .str "/claim/cut.py" 184, .int 1 0, .int 0 0, .int 0 0, .int 0 0, .int 0 0, .ref 11, .bool false, .int 181 0, .ref 12, .none, .none, .none, .none, .int 185 0, .int 1 0, .str "/claim/cut.py" 186], #[]⟩,
  ⟨.type "frame", none, .plain, #[some (.ref 13), some (.ref 3), some (.ref 3), none, some (.str "__main__" 164), none, some (.ref 0)]⟩]
noncomputable def tTa (P : Params) : BT := updL (tUa P) (grow 12 (bootL P ++ tNa P))
noncomputable def tSa (w : World) (os : OsState) : SharedT := ⟨tTa w.params, 15, (boot_heap w.params).life, Array.mk [], boot_drawn, 187, os⟩
noncomputable def tU1 (P : Params) : List (Nat × Obj) := [(2, ⟨.none, none, .dict #[ke P "type.__subclasses__.Exception.0" 232 (.int 47 0), ke P "type.__subclasses__.Exception.n" 233 (.int 1 0)] 2, #[]⟩),
  (3, ⟨.type "dict", none, .dict #[ke P "__name__" 165 (.str "ledgerspeak.items" 252), ke P "__doc__" 166 (.none), ke P "__package__" 167 (.none), ke P "__loader__" 168 (.builtin "__main__.__loader__#opaque"), ke P "__spec__" 169 (.none), ke P "__annotations__" 170 (.ref 6), ke P "__builtins__" 171 (.ref 4), ke P "__file__" 173 (.str "/claim/cut.py" 172), ke P "__cached__" 174 (.none), ke P "_wall" 193 (.ref 21), ke P "LedgerError" 235 (.ref 47), ke P "CheckFault" 251 (.ref 60), ke P "FILLER" 255 (.str "FILLER" 254)] 13, #[]⟩),
  (12, ⟨.none, none, .fields #[.int 1 0, .int 0 0, .ref 20, .int 5 0, .int 0 0, .ref 27, .int 14 0, .int 0 0, .ref 56], #[]⟩)]
noncomputable def tN1 (P : Params) : List Obj := [⟨.type "tuple", none, .seq #[] 0, #[]⟩,
  ⟨.none, none, .fields #[], #[]⟩,
  ⟨.type "tuple", none, .seq #[.str "k" 190] 0, #[]⟩,
  ⟨.type "tuple", none, .seq #[] 0, #[]⟩,
  ⟨.none, none, .func (fnX 0 none "_wall" "_wall" 0 [] (.none) (.none) (.none) (.none) none (.none) (.none) 0), #[]⟩,
  ⟨.type "code", none, .fields #[.str "_wall" 187, .str "_wall" 188, .str "/claim/cut.py" 189, .int 1 0, .int 1 0, .int 0 0, .int 0 0, .int 3 0, .ref 15, .bool true, .int 181 0, .ref 16, .none, .ref 17, .ref 18, .ref 19, .int 191 0, .int 1 0, .str "/claim/cut.py" 192], #[]⟩,
  ⟨.type "function", none, .func (fnX 0 none "_wall" "_wall" 3 [] (.none) (.none) (.none) (.str "__main__" 164) none (.ref 20) (.none) 0), #[]⟩,
  ⟨.type "tuple", none, .seq #[.type "Exception"] 0, #[]⟩,
  ⟨.type "builtin_function_or_method", none, .fields #[.builtin "type.__prepare__", .type "type"], #[]⟩,
  ⟨.type "dict", none, .dict #[ke P "__module__" 203 (.str "ledgerspeak.errors" 194), ke P "__qualname__" 205 (.str "LedgerError" 204), ke P "__firstlineno__" 207 (.int 5 206), ke P "__init__" 218 (.ref 37), ke P "told" 225 (.ref 44), ke P "__static_attributes__" 228 (.ref 45)] 6, #[]⟩,
  ⟨.type "tuple", none, .seq #[] 0, #[]⟩,
  ⟨.none, none, .fields #[.int 7 0, .int 4 0, .ref 36, .int 12 0, .int 4 0, .ref 43], #[]⟩,
  ⟨.type "code", none, .fields #[.str "LedgerError" 198, .str "LedgerError" 199, .str "/claim/cut.py" 200, .int 5 0, .int 0 0, .int 0 0, .int 0 0, .int 0 0, .ref 25, .bool false, .int 181 0, .ref 26, .none, .none, .none, .none, .int 201 0, .int 5 0, .str "/claim/cut.py" 202], #[]⟩,
  ⟨.type "frame", none, .plain, #[some (.ref 27), some (.ref 3), some (.ref 24), none, some (.str "ledgerspeak.errors" 194), none, some (.ref 0)]⟩,
  ⟨.type "tuple", none, .seq #[.int 0 208, .int 0 209] 0, #[]⟩,
  ⟨.type "tuple", none, .seq #[.ref 29] 0, #[]⟩,
  ⟨.type "tuple", none, .seq #[] 0, #[]⟩,
  ⟨.none, none, .fields #[], #[]⟩,
  ⟨.type "tuple", none, .seq #[.str "self" 213, .str "what" 214, .str "at" 215] 0, #[]⟩,
  ⟨.type "tuple", none, .seq #[] 0, #[]⟩,
  ⟨.none, none, .func (fnX 2 (some 0) "__init__" "LedgerError.__init__" 0 [] (.none) (.none) (.none) (.none) none (.none) (.none) 0), #[]⟩,
  ⟨.type "code", none, .fields #[.str "__init__" 210, .str "LedgerError.__init__" 211, .str "/claim/cut.py" 212, .int 7 0, .int 3 0, .int 0 0, .int 0 0, .int 3 0, .ref 31, .bool true, .int 181 0, .ref 32, .none, .ref 33, .ref 34, .ref 35, .int 216 0, .int 7 0, .str "/claim/cut.py" 217], #[]⟩,
  ⟨.type "function", none, .func (fnX 2 (some 0) "__init__" "LedgerError.__init__" 3 [] (.ref 30) (.none) (.none) (.str "ledgerspeak.errors" 194) none (.ref 36) (.none) 0), #[]⟩,
  ⟨.type "tuple", none, .seq #[] 0, #[]⟩,
  ⟨.none, none, .fields #[], #[]⟩,
  ⟨.type "tuple", none, .seq #[.str "self" 222] 0, #[]⟩,
  ⟨.type "tuple", none, .seq #[] 0, #[]⟩,
  ⟨.none, none, .func (fnX 2 (some 1) "told" "LedgerError.told" 0 [] (.none) (.none) (.none) (.none) none (.none) (.none) 0), #[]⟩,
  ⟨.type "code", none, .fields #[.str "told" 219, .str "LedgerError.told" 220, .str "/claim/cut.py" 221, .int 12 0, .int 1 0, .int 0 0, .int 0 0, .int 3 0, .ref 38, .bool true, .int 181 0, .ref 39, .none, .ref 40, .ref 41, .ref 42, .int 223 0, .int 12 0, .str "/claim/cut.py" 224], #[]⟩,
  ⟨.type "function", none, .func (fnX 2 (some 1) "told" "LedgerError.told" 3 [] (.none) (.none) (.none) (.str "ledgerspeak.errors" 194) none (.ref 43) (.none) 0), #[]⟩,
  ⟨.type "tuple", none, .seq #[.str "at" 226, .str "what" 227] 0, #[]⟩,
  ⟨.type "dict", none, .dict #[ke P "__module__" 203 (.str "ledgerspeak.errors" 194), ke P "__firstlineno__" 207 (.int 5 206), ke P "__init__" 218 (.ref 37), ke P "told" 225 (.ref 44), ke P "__static_attributes__" 228 (.ref 45), ke P "__weakref__" 230 (.ref 48), ke P "__doc__" 231 (.none)] 3, #[]⟩,
  ⟨.type "type", none, .cls (clX "LedgerError" [.type "Exception"] [.ref 47, .type "Exception", .type "BaseException", .type "object"] 46 "LedgerError" true [] [.ref 60] false none false), #[some (.ref 22), none, some (.str "LedgerError" 196), some (.str "LedgerError" 204), some (.builtin "Exception.__new__"), some (.bool true)]⟩,
  ⟨.type "getset_descriptor", none, .fields #[.str "__weakref__" 229, .ref 47, .builtin "ExceptionGroup.__weakref__", .none], #[]⟩,
  ⟨.type "super", none, .fields #[.ref 47, .ref 47, .ref 47], #[]⟩,
  ⟨.type "builtin_function_or_method", none, .fields #[.builtin "object.__init_subclass__", .ref 47], #[]⟩,
  ⟨.type "tuple", none, .seq #[.ref 47] 0, #[]⟩,
  ⟨.type "builtin_function_or_method", none, .fields #[.builtin "type.__prepare__", .type "type"], #[]⟩,
  ⟨.type "dict", none, .dict #[ke P "__module__" 243 (.str "ledgerspeak.errors" 194), ke P "__qualname__" 245 (.str "CheckFault" 244), ke P "__firstlineno__" 247 (.int 14 246), ke P "__static_attributes__" 248 (.ref 58)] 4, #[]⟩,
  ⟨.type "tuple", none, .seq #[] 0, #[]⟩,
  ⟨.none, none, .fields #[], #[]⟩,
  ⟨.type "code", none, .fields #[.str "CheckFault" 238, .str "CheckFault" 239, .str "/claim/cut.py" 240, .int 14 0, .int 0 0, .int 0 0, .int 0 0, .int 0 0, .ref 54, .bool false, .int 181 0, .ref 55, .none, .none, .none, .none, .int 241 0, .int 14 0, .str "/claim/cut.py" 242], #[]⟩,
  ⟨.type "frame", none, .plain, #[some (.ref 56), some (.ref 3), some (.ref 53), none, some (.str "ledgerspeak.errors" 194), none, some (.ref 0)]⟩,
  ⟨.type "tuple", none, .seq #[] 0, #[]⟩,
  ⟨.type "dict", none, .dict #[ke P "__module__" 243 (.str "ledgerspeak.errors" 194), ke P "__firstlineno__" 247 (.int 14 246), ke P "__static_attributes__" 248 (.ref 58), ke P "__doc__" 249 (.none)] 2, #[]⟩,
  ⟨.type "type", none, .cls (clX "CheckFault" [.ref 47] [.ref 60, .ref 47, .type "Exception", .type "BaseException", .type "object"] 59 "CheckFault" true [] [] false none false), #[some (.ref 51), none, some (.str "CheckFault" 236), some (.str "CheckFault" 244), some (.builtin "Exception.__new__"), some (.bool true)]⟩,
  ⟨.type "super", none, .fields #[.ref 60, .ref 60, .ref 60], #[]⟩,
  ⟨.type "builtin_function_or_method", none, .fields #[.builtin "object.__init_subclass__", .ref 60], #[]⟩]
noncomputable def tT1 (P : Params) : BT := updL (tU1 P) (grow 12 (bootL P ++ tNa P ++ tN1 P))
noncomputable def tS1 (w : World) (os : OsState) : SharedT := ⟨tT1 w.params, 63, (boot_heap w.params).life, Array.mk [], boot_drawn, 256, os⟩
noncomputable def tU2 (P : Params) : List (Nat × Obj) := [(2, ⟨.none, none, .dict #[ke P "type.__subclasses__.Exception.0" 232 (.int 47 0), ke P "type.__subclasses__.Exception.n" 233 (.int 1 0)] 2, #[]⟩),
  (3, ⟨.type "dict", none, .dict #[ke P "__name__" 165 (.str "ledgerspeak.items" 252), ke P "__doc__" 166 (.none), ke P "__package__" 167 (.none), ke P "__loader__" 168 (.builtin "__main__.__loader__#opaque"), ke P "__spec__" 169 (.none), ke P "__annotations__" 170 (.ref 6), ke P "__builtins__" 171 (.ref 4), ke P "__file__" 173 (.str "/claim/cut.py" 172), ke P "__cached__" 174 (.none), ke P "_wall" 193 (.ref 21), ke P "LedgerError" 235 (.ref 47), ke P "CheckFault" 251 (.ref 60), ke P "FILLER" 255 (.str "FILLER" 254), ke P "Occurs" 299 (.ref 89), ke P "Named" 337 (.ref 117)] 15, #[]⟩),
  (12, ⟨.none, none, .fields #[.int 1 0, .int 0 0, .ref 20, .int 5 0, .int 0 0, .ref 27, .int 14 0, .int 0 0, .ref 56, .int 18 0, .int 0 0, .ref 68, .int 29 0, .int 0 0, .ref 99], #[]⟩)]
noncomputable def tN2 (P : Params) : List Obj := [⟨.type "tuple", none, .seq #[] 0, #[]⟩,
  ⟨.type "builtin_function_or_method", none, .fields #[.builtin "type.__prepare__", .type "type"], #[]⟩,
  ⟨.type "dict", none, .dict #[ke P "__module__" 263 (.str "ledgerspeak.items" 252), ke P "__qualname__" 265 (.str "Occurs" 264), ke P "__firstlineno__" 267 (.int 18 266), ke P "__init__" 279 (.ref 79), ke P "told" 286 (.ref 86), ke P "__static_attributes__" 292 (.ref 87)] 6, #[]⟩,
  ⟨.type "tuple", none, .seq #[] 0, #[]⟩,
  ⟨.none, none, .fields #[.int 20 0, .int 4 0, .ref 78, .int 27 0, .int 4 0, .ref 85], #[]⟩,
  ⟨.type "code", none, .fields #[.str "Occurs" 258, .str "Occurs" 259, .str "/claim/cut.py" 260, .int 18 0, .int 0 0, .int 0 0, .int 0 0, .int 0 0, .ref 66, .bool false, .int 181 0, .ref 67, .none, .none, .none, .none, .int 261 0, .int 18 0, .str "/claim/cut.py" 262], #[]⟩,
  ⟨.type "frame", none, .plain, #[some (.ref 68), some (.ref 3), some (.ref 65), none, some (.str "ledgerspeak.items" 252), none, some (.ref 0)]⟩,
  ⟨.type "tuple", none, .seq #[] 0, #[]⟩,
  ⟨.type "tuple", none, .seq #[] 0, #[]⟩,
  ⟨.type "tuple", none, .seq #[.none, .ref 70, .ref 71] 0, #[]⟩,
  ⟨.type "tuple", none, .seq #[] 0, #[]⟩,
  ⟨.none, none, .fields #[], #[]⟩,
  ⟨.type "tuple", none, .seq #[.str "self" 271, .str "low" 272, .str "high" 273, .str "depending" 274, .str "keys" 275, .str "indexes" 276] 0, #[]⟩,
  ⟨.type "tuple", none, .seq #[] 0, #[]⟩,
  ⟨.none, none, .func (fnX 6 (some 0) "__init__" "Occurs.__init__" 0 [] (.none) (.none) (.none) (.none) none (.none) (.none) 0), #[]⟩,
  ⟨.type "code", none, .fields #[.str "__init__" 268, .str "Occurs.__init__" 269, .str "/claim/cut.py" 270, .int 20 0, .int 6 0, .int 0 0, .int 0 0, .int 3 0, .ref 73, .bool true, .int 181 0, .ref 74, .none, .ref 75, .ref 76, .ref 77, .int 277 0, .int 20 0, .str "/claim/cut.py" 278], #[]⟩,
  ⟨.type "function", none, .func (fnX 6 (some 0) "__init__" "Occurs.__init__" 3 [] (.ref 72) (.none) (.none) (.str "ledgerspeak.items" 252) none (.ref 78) (.none) 0), #[]⟩,
  ⟨.type "tuple", none, .seq #[] 0, #[]⟩,
  ⟨.none, none, .fields #[], #[]⟩,
  ⟨.type "tuple", none, .seq #[.str "self" 283] 0, #[]⟩,
  ⟨.type "tuple", none, .seq #[] 0, #[]⟩,
  ⟨.none, none, .func (fnX 6 (some 1) "told" "Occurs.told" 0 [] (.none) (.none) (.none) (.none) none (.none) (.none) 0), #[]⟩,
  ⟨.type "code", none, .fields #[.str "told" 280, .str "Occurs.told" 281, .str "/claim/cut.py" 282, .int 27 0, .int 1 0, .int 0 0, .int 0 0, .int 3 0, .ref 80, .bool true, .int 181 0, .ref 81, .none, .ref 82, .ref 83, .ref 84, .int 284 0, .int 27 0, .str "/claim/cut.py" 285], #[]⟩,
  ⟨.type "function", none, .func (fnX 6 (some 1) "told" "Occurs.told" 3 [] (.none) (.none) (.none) (.str "ledgerspeak.items" 252) none (.ref 85) (.none) 0), #[]⟩,
  ⟨.type "tuple", none, .seq #[.str "depending" 287, .str "high" 288, .str "indexes" 289, .str "keys" 290, .str "low" 291] 0, #[]⟩,
  ⟨.type "dict", none, .dict #[ke P "__module__" 263 (.str "ledgerspeak.items" 252), ke P "__firstlineno__" 267 (.int 18 266), ke P "__init__" 279 (.ref 79), ke P "told" 286 (.ref 86), ke P "__static_attributes__" 292 (.ref 87), ke P "__dict__" 294 (.ref 90), ke P "__weakref__" 296 (.ref 91), ke P "__doc__" 297 (.none)] 4, #[]⟩,
  ⟨.type "type", none, .cls (clX "Occurs" [.type "object"] [.ref 89, .type "object"] 88 "Occurs" true [] [] false none false), #[none, none, some (.str "Occurs" 256), some (.str "Occurs" 264), some (.builtin "object.__new__"), some (.bool true)]⟩,
  ⟨.type "getset_descriptor", none, .fields #[.str "__dict__" 293, .ref 89, .builtin "function.__dict__", .builtin "function.__dict__#set"], #[]⟩,
  ⟨.type "getset_descriptor", none, .fields #[.str "__weakref__" 295, .ref 89, .builtin "ExceptionGroup.__weakref__", .none], #[]⟩,
  ⟨.type "super", none, .fields #[.ref 89, .ref 89, .ref 89], #[]⟩,
  ⟨.type "builtin_function_or_method", none, .fields #[.builtin "object.__init_subclass__", .ref 89], #[]⟩,
  ⟨.type "tuple", none, .seq #[] 0, #[]⟩,
  ⟨.type "builtin_function_or_method", none, .fields #[.builtin "type.__prepare__", .type "type"], #[]⟩,
  ⟨.type "dict", none, .dict #[ke P "__module__" 307 (.str "ledgerspeak.items" 252), ke P "__qualname__" 309 (.str "Named" 308), ke P "__firstlineno__" 311 (.int 29 310), ke P "__init__" 320 (.ref 107), ke P "told" 327 (.ref 114), ke P "__static_attributes__" 330 (.ref 115)] 6, #[]⟩,
  ⟨.type "tuple", none, .seq #[] 0, #[]⟩,
  ⟨.none, none, .fields #[.int 31 0, .int 4 0, .ref 106, .int 35 0, .int 4 0, .ref 113], #[]⟩,
  ⟨.type "code", none, .fields #[.str "Named" 302, .str "Named" 303, .str "/claim/cut.py" 304, .int 29 0, .int 0 0, .int 0 0, .int 0 0, .int 0 0, .ref 97, .bool false, .int 181 0, .ref 98, .none, .none, .none, .none, .int 305 0, .int 29 0, .str "/claim/cut.py" 306], #[]⟩,
  ⟨.type "frame", none, .plain, #[some (.ref 99), some (.ref 3), some (.ref 96), none, some (.str "ledgerspeak.items" 252), none, some (.ref 0)]⟩,
  ⟨.type "tuple", none, .seq #[] 0, #[]⟩,
  ⟨.none, none, .fields #[], #[]⟩,
  ⟨.type "tuple", none, .seq #[.str "self" 315, .str "name" 316, .str "rows" 317] 0, #[]⟩,
  ⟨.type "tuple", none, .seq #[] 0, #[]⟩,
  ⟨.none, none, .func (fnX 7 (some 0) "__init__" "Named.__init__" 0 [] (.none) (.none) (.none) (.none) none (.none) (.none) 0), #[]⟩,
  ⟨.type "code", none, .fields #[.str "__init__" 312, .str "Named.__init__" 313, .str "/claim/cut.py" 314, .int 31 0, .int 3 0, .int 0 0, .int 0 0, .int 3 0, .ref 101, .bool true, .int 181 0, .ref 102, .none, .ref 103, .ref 104, .ref 105, .int 318 0, .int 31 0, .str "/claim/cut.py" 319], #[]⟩,
  ⟨.type "function", none, .func (fnX 7 (some 0) "__init__" "Named.__init__" 3 [] (.none) (.none) (.none) (.str "ledgerspeak.items" 252) none (.ref 106) (.none) 0), #[]⟩,
  ⟨.type "tuple", none, .seq #[] 0, #[]⟩,
  ⟨.none, none, .fields #[], #[]⟩,
  ⟨.type "tuple", none, .seq #[.str "self" 324] 0, #[]⟩,
  ⟨.type "tuple", none, .seq #[] 0, #[]⟩,
  ⟨.none, none, .func (fnX 7 (some 1) "told" "Named.told" 0 [] (.none) (.none) (.none) (.none) none (.none) (.none) 0), #[]⟩,
  ⟨.type "code", none, .fields #[.str "told" 321, .str "Named.told" 322, .str "/claim/cut.py" 323, .int 35 0, .int 1 0, .int 0 0, .int 0 0, .int 3 0, .ref 108, .bool true, .int 181 0, .ref 109, .none, .ref 110, .ref 111, .ref 112, .int 325 0, .int 35 0, .str "/claim/cut.py" 326], #[]⟩,
  ⟨.type "function", none, .func (fnX 7 (some 1) "told" "Named.told" 3 [] (.none) (.none) (.none) (.str "ledgerspeak.items" 252) none (.ref 113) (.none) 0), #[]⟩,
  ⟨.type "tuple", none, .seq #[.str "name" 328, .str "rows" 329] 0, #[]⟩,
  ⟨.type "dict", none, .dict #[ke P "__module__" 307 (.str "ledgerspeak.items" 252), ke P "__firstlineno__" 311 (.int 29 310), ke P "__init__" 320 (.ref 107), ke P "told" 327 (.ref 114), ke P "__static_attributes__" 330 (.ref 115), ke P "__dict__" 332 (.ref 118), ke P "__weakref__" 334 (.ref 119), ke P "__doc__" 335 (.none)] 4, #[]⟩,
  ⟨.type "type", none, .cls (clX "Named" [.type "object"] [.ref 117, .type "object"] 116 "Named" true [] [] false none false), #[none, none, some (.str "Named" 300), some (.str "Named" 308), some (.builtin "object.__new__"), some (.bool true)]⟩,
  ⟨.type "getset_descriptor", none, .fields #[.str "__dict__" 331, .ref 117, .builtin "function.__dict__", .builtin "function.__dict__#set"], #[]⟩,
  ⟨.type "getset_descriptor", none, .fields #[.str "__weakref__" 333, .ref 117, .builtin "ExceptionGroup.__weakref__", .none], #[]⟩,
  ⟨.type "super", none, .fields #[.ref 117, .ref 117, .ref 117], #[]⟩,
  ⟨.type "builtin_function_or_method", none, .fields #[.builtin "object.__init_subclass__", .ref 117], #[]⟩]
noncomputable def tT2 (P : Params) : BT := updL (tU2 P) (grow 12 (bootL P ++ tNa P ++ tN1 P ++ tN2 P))
noncomputable def tS2 (w : World) (os : OsState) : SharedT := ⟨tT2 w.params, 122, (boot_heap w.params).life, Array.mk [], boot_drawn, 338, os⟩
noncomputable def tU3 (P : Params) : List (Nat × Obj) := [(2, ⟨.none, none, .dict #[ke P "type.__subclasses__.Exception.0" 232 (.int 47 0), ke P "type.__subclasses__.Exception.n" 233 (.int 1 0)] 2, #[]⟩),
  (3, ⟨.type "dict", none, .dict #[ke P "__name__" 165 (.str "ledgerspeak.items" 252), ke P "__doc__" 166 (.none), ke P "__package__" 167 (.none), ke P "__loader__" 168 (.builtin "__main__.__loader__#opaque"), ke P "__spec__" 169 (.none), ke P "__annotations__" 170 (.ref 6), ke P "__builtins__" 171 (.ref 4), ke P "__file__" 173 (.str "/claim/cut.py" 172), ke P "__cached__" 174 (.none), ke P "_wall" 193 (.ref 21), ke P "LedgerError" 235 (.ref 47), ke P "CheckFault" 251 (.ref 60), ke P "FILLER" 255 (.str "FILLER" 254), ke P "Occurs" 299 (.ref 89), ke P "Named" 337 (.ref 117), ke P "Item" 415 (.ref 164), ke P "Data" 454 (.ref 190), ke P "records" 463 (.ref 201), ke P "items_under" 473 (.ref 208), ke P "all_items" 482 (.ref 215), ke P "items_around" 491 (.ref 222), ke P "root_of" 499 (.ref 229), ke P "names_around" 505 (.ref 234)] 23, #[]⟩),
  (12, ⟨.none, none, .fields #[.int 1 0, .int 0 0, .ref 20, .int 5 0, .int 0 0, .ref 27, .int 14 0, .int 0 0, .ref 56, .int 18 0, .int 0 0, .ref 68, .int 29 0, .int 0 0, .ref 99, .int 37 0, .int 0 0, .ref 127, .int 75 0, .int 0 0, .ref 174, .int 88 0, .int 0 0, .ref 200, .int 93 0, .int 0 0, .ref 207, .int 101 0, .int 0 0, .ref 214, .int 106 0, .int 0 0, .ref 221, .int 113 0, .int 0 0, .ref 228, .int 116 0, .int 0 0, .ref 233], #[]⟩)]
noncomputable def tN3 (P : Params) : List Obj := [⟨.type "tuple", none, .seq #[] 0, #[]⟩,
  ⟨.type "builtin_function_or_method", none, .fields #[.builtin "type.__prepare__", .type "type"], #[]⟩,
  ⟨.type "dict", none, .dict #[ke P "__module__" 345 (.str "ledgerspeak.items" 252), ke P "__qualname__" 347 (.str "Item" 346), ke P "__firstlineno__" 349 (.int 37 348), ke P "__init__" 358 (.ref 135), ke P "add" 366 (.ref 142), ke P "count" 373 (.ref 149), ke P "clauses" 382 (.ref 156), ke P "told" 388 (.ref 161), ke P "__static_attributes__" 408 (.ref 162)] 9, #[]⟩,
  ⟨.type "tuple", none, .seq #[] 0, #[]⟩,
  ⟨.none, none, .fields #[.int 39 0, .int 4 0, .ref 134, .int 60 0, .int 4 0, .ref 141, .int 64 0, .int 4 0, .ref 148, .int 67 0, .int 4 0, .ref 155, .int 72 0, .int 4 0, .ref 160], #[]⟩,
  ⟨.type "code", none, .fields #[.str "Item" 340, .str "Item" 341, .str "/claim/cut.py" 342, .int 37 0, .int 0 0, .int 0 0, .int 0 0, .int 0 0, .ref 125, .bool false, .int 181 0, .ref 126, .none, .none, .none, .none, .int 343 0, .int 37 0, .str "/claim/cut.py" 344], #[]⟩,
  ⟨.type "frame", none, .plain, #[some (.ref 127), some (.ref 3), some (.ref 124), none, some (.str "ledgerspeak.items" 252), none, some (.ref 0)]⟩,
  ⟨.type "tuple", none, .seq #[] 0, #[]⟩,
  ⟨.none, none, .fields #[], #[]⟩,
  ⟨.type "tuple", none, .seq #[.str "self" 353, .str "level" 354, .str "name" 355] 0, #[]⟩,
  ⟨.type "tuple", none, .seq #[] 0, #[]⟩,
  ⟨.none, none, .func (fnX 8 (some 0) "__init__" "Item.__init__" 0 [] (.none) (.none) (.none) (.none) none (.none) (.none) 0), #[]⟩,
  ⟨.type "code", none, .fields #[.str "__init__" 350, .str "Item.__init__" 351, .str "/claim/cut.py" 352, .int 39 0, .int 3 0, .int 0 0, .int 0 0, .int 3 0, .ref 129, .bool true, .int 181 0, .ref 130, .none, .ref 131, .ref 132, .ref 133, .int 356 0, .int 39 0, .str "/claim/cut.py" 357], #[]⟩,
  ⟨.type "function", none, .func (fnX 8 (some 0) "__init__" "Item.__init__" 3 [] (.none) (.none) (.none) (.str "ledgerspeak.items" 252) none (.ref 134) (.none) 0), #[]⟩,
  ⟨.type "tuple", none, .seq #[] 0, #[]⟩,
  ⟨.none, none, .fields #[], #[]⟩,
  ⟨.type "tuple", none, .seq #[.str "self" 362, .str "kid" 363] 0, #[]⟩,
  ⟨.type "tuple", none, .seq #[] 0, #[]⟩,
  ⟨.none, none, .func (fnX 8 (some 1) "add" "Item.add" 0 [] (.none) (.none) (.none) (.none) none (.none) (.none) 0), #[]⟩,
  ⟨.type "code", none, .fields #[.str "add" 359, .str "Item.add" 360, .str "/claim/cut.py" 361, .int 60 0, .int 2 0, .int 0 0, .int 0 0, .int 3 0, .ref 136, .bool true, .int 181 0, .ref 137, .none, .ref 138, .ref 139, .ref 140, .int 364 0, .int 60 0, .str "/claim/cut.py" 365], #[]⟩,
  ⟨.type "function", none, .func (fnX 8 (some 1) "add" "Item.add" 3 [] (.none) (.none) (.none) (.str "ledgerspeak.items" 252) none (.ref 141) (.none) 0), #[]⟩,
  ⟨.type "tuple", none, .seq #[] 0, #[]⟩,
  ⟨.none, none, .fields #[], #[]⟩,
  ⟨.type "tuple", none, .seq #[.str "self" 370] 0, #[]⟩,
  ⟨.type "tuple", none, .seq #[] 0, #[]⟩,
  ⟨.none, none, .func (fnX 8 (some 2) "count" "Item.count" 0 [] (.none) (.none) (.none) (.none) none (.none) (.none) 0), #[]⟩,
  ⟨.type "code", none, .fields #[.str "count" 367, .str "Item.count" 368, .str "/claim/cut.py" 369, .int 64 0, .int 1 0, .int 0 0, .int 0 0, .int 3 0, .ref 143, .bool true, .int 181 0, .ref 144, .none, .ref 145, .ref 146, .ref 147, .int 371 0, .int 64 0, .str "/claim/cut.py" 372], #[]⟩,
  ⟨.type "function", none, .func (fnX 8 (some 2) "count" "Item.count" 3 [] (.none) (.none) (.none) (.str "ledgerspeak.items" 252) none (.ref 148) (.none) 0), #[]⟩,
  ⟨.type "tuple", none, .seq #[] 0, #[]⟩,
  ⟨.none, none, .fields #[], #[]⟩,
  ⟨.type "tuple", none, .seq #[.str "self" 377, .str "often" 378, .str "first" 379] 0, #[]⟩,
  ⟨.type "tuple", none, .seq #[] 0, #[]⟩,
  ⟨.none, none, .func (fnX 8 (some 3) "clauses" "Item.clauses" 0 [] (.none) (.none) (.none) (.none) none (.none) (.none) 0), #[]⟩,
  ⟨.type "code", none, .fields #[.str "clauses" 374, .str "Item.clauses" 375, .str "/claim/cut.py" 376, .int 67 0, .int 1 0, .int 0 0, .int 0 0, .int 3 0, .ref 150, .bool true, .int 181 0, .ref 151, .none, .ref 152, .ref 153, .ref 154, .int 380 0, .int 67 0, .str "/claim/cut.py" 381], #[]⟩,
  ⟨.type "function", none, .func (fnX 8 (some 3) "clauses" "Item.clauses" 3 [] (.none) (.none) (.none) (.str "ledgerspeak.items" 252) none (.ref 155) (.none) 0), #[]⟩,
  ⟨.type "tuple", none, .seq #[] 0, #[]⟩,
  ⟨.none, none, .fields #[], #[]⟩,
  ⟨.none, none, .func (fnX 8 (some 4) "told" "Item.told" 0 [] (.none) (.none) (.none) (.none) none (.none) (.none) 0), #[]⟩,
  ⟨.type "code", none, .fields #[.str "told" 383, .str "Item.told" 384, .str "/claim/cut.py" 385, .int 72 0, .int 1 0, .int 0 0, .int 0 0, .int 3 0, .ref 157, .bool true, .int 181 0, .ref 158, .none, .none, .none, .ref 159, .int 386 0, .int 72 0, .str "/claim/cut.py" 387], #[]⟩,
  ⟨.type "function", none, .func (fnX 8 (some 4) "told" "Item.told" 3 [] (.none) (.none) (.none) (.str "ledgerspeak.items" 252) none (.ref 160) (.none) 0), #[]⟩,
  ⟨.type "tuple", none, .seq #[.str "base" 389, .str "conditions" 390, .str "is_blank_zero" 391, .str "is_justified" 392, .str "is_separate" 393, .str "kids" 394, .str "level" 395, .str "name" 396, .str "occurs" 397, .str "offset" 398, .str "parent" 399, .str "picture_text" 400, .str "redefines" 401, .str "renames" 402, .str "shape" 403, .str "sign" 404, .str "size" 405, .str "usage" 406, .str "value" 407] 0, #[]⟩,
  ⟨.type "dict", none, .dict #[ke P "__module__" 345 (.str "ledgerspeak.items" 252), ke P "__firstlineno__" 349 (.int 37 348), ke P "__init__" 358 (.ref 135), ke P "add" 366 (.ref 142), ke P "count" 373 (.ref 149), ke P "clauses" 382 (.ref 156), ke P "told" 388 (.ref 161), ke P "__static_attributes__" 408 (.ref 162), ke P "__dict__" 410 (.ref 165), ke P "__weakref__" 412 (.ref 166), ke P "__doc__" 413 (.none)] 4, #[]⟩,
  ⟨.type "type", none, .cls (clX "Item" [.type "object"] [.ref 164, .type "object"] 163 "Item" true [] [] false none false), #[none, none, some (.str "Item" 338), some (.str "Item" 346), some (.builtin "object.__new__"), some (.bool true)]⟩,
  ⟨.type "getset_descriptor", none, .fields #[.str "__dict__" 409, .ref 164, .builtin "function.__dict__", .builtin "function.__dict__#set"], #[]⟩,
  ⟨.type "getset_descriptor", none, .fields #[.str "__weakref__" 411, .ref 164, .builtin "ExceptionGroup.__weakref__", .none], #[]⟩,
  ⟨.type "super", none, .fields #[.ref 164, .ref 164, .ref 164], #[]⟩,
  ⟨.type "builtin_function_or_method", none, .fields #[.builtin "object.__init_subclass__", .ref 164], #[]⟩,
  ⟨.type "tuple", none, .seq #[] 0, #[]⟩,
  ⟨.type "builtin_function_or_method", none, .fields #[.builtin "type.__prepare__", .type "type"], #[]⟩,
  ⟨.type "dict", none, .dict #[ke P "__module__" 423 (.str "ledgerspeak.items" 252), ke P "__qualname__" 425 (.str "Data" 424), ke P "__firstlineno__" 427 (.int 75 426), ke P "__init__" 434 (.ref 182), ke P "told" 440 (.ref 187), ke P "__static_attributes__" 447 (.ref 188)] 6, #[]⟩,
  ⟨.type "tuple", none, .seq #[] 0, #[]⟩,
  ⟨.none, none, .fields #[.int 77 0, .int 4 0, .ref 181, .int 85 0, .int 4 0, .ref 186], #[]⟩,
  ⟨.type "code", none, .fields #[.str "Data" 418, .str "Data" 419, .str "/claim/cut.py" 420, .int 75 0, .int 0 0, .int 0 0, .int 0 0, .int 0 0, .ref 172, .bool false, .int 181 0, .ref 173, .none, .none, .none, .none, .int 421 0, .int 75 0, .str "/claim/cut.py" 422], #[]⟩,
  ⟨.type "frame", none, .plain, #[some (.ref 174), some (.ref 3), some (.ref 171), none, some (.str "ledgerspeak.items" 252), none, some (.ref 0)]⟩,
  ⟨.type "tuple", none, .seq #[] 0, #[]⟩,
  ⟨.none, none, .fields #[], #[]⟩,
  ⟨.type "tuple", none, .seq #[.str "self" 431] 0, #[]⟩,
  ⟨.type "tuple", none, .seq #[] 0, #[]⟩,
  ⟨.none, none, .func (fnX 9 (some 0) "__init__" "Data.__init__" 0 [] (.none) (.none) (.none) (.none) none (.none) (.none) 0), #[]⟩,
  ⟨.type "code", none, .fields #[.str "__init__" 428, .str "Data.__init__" 429, .str "/claim/cut.py" 430, .int 77 0, .int 1 0, .int 0 0, .int 0 0, .int 3 0, .ref 176, .bool true, .int 181 0, .ref 177, .none, .ref 178, .ref 179, .ref 180, .int 432 0, .int 77 0, .str "/claim/cut.py" 433], #[]⟩,
  ⟨.type "function", none, .func (fnX 9 (some 0) "__init__" "Data.__init__" 3 [] (.none) (.none) (.none) (.str "ledgerspeak.items" 252) none (.ref 181) (.none) 0), #[]⟩,
  ⟨.type "tuple", none, .seq #[] 0, #[]⟩,
  ⟨.none, none, .fields #[], #[]⟩,
  ⟨.none, none, .func (fnX 9 (some 1) "told" "Data.told" 0 [] (.none) (.none) (.none) (.none) none (.none) (.none) 0), #[]⟩,
  ⟨.type "code", none, .fields #[.str "told" 435, .str "Data.told" 436, .str "/claim/cut.py" 437, .int 85 0, .int 1 0, .int 0 0, .int 0 0, .int 3 0, .ref 183, .bool true, .int 181 0, .ref 184, .none, .none, .none, .ref 185, .int 438 0, .int 85 0, .str "/claim/cut.py" 439], #[]⟩,
  ⟨.type "function", none, .func (fnX 9 (some 1) "told" "Data.told" 3 [] (.none) (.none) (.none) (.str "ledgerspeak.items" 252) none (.ref 186) (.none) 0), #[]⟩,
  ⟨.type "tuple", none, .seq #[.str "files" 441, .str "indexes" 442, .str "linkage" 443, .str "size" 444, .str "sorts" 445, .str "working" 446] 0, #[]⟩,
  ⟨.type "dict", none, .dict #[ke P "__module__" 423 (.str "ledgerspeak.items" 252), ke P "__firstlineno__" 427 (.int 75 426), ke P "__init__" 434 (.ref 182), ke P "told" 440 (.ref 187), ke P "__static_attributes__" 447 (.ref 188), ke P "__dict__" 449 (.ref 191), ke P "__weakref__" 451 (.ref 192), ke P "__doc__" 452 (.none)] 4, #[]⟩,
  ⟨.type "type", none, .cls (clX "Data" [.type "object"] [.ref 190, .type "object"] 189 "Data" true [] [] false none false), #[none, none, some (.str "Data" 416), some (.str "Data" 424), some (.builtin "object.__new__"), some (.bool true)]⟩,
  ⟨.type "getset_descriptor", none, .fields #[.str "__dict__" 448, .ref 190, .builtin "function.__dict__", .builtin "function.__dict__#set"], #[]⟩,
  ⟨.type "getset_descriptor", none, .fields #[.str "__weakref__" 450, .ref 190, .builtin "ExceptionGroup.__weakref__", .none], #[]⟩,
  ⟨.type "super", none, .fields #[.ref 190, .ref 190, .ref 190], #[]⟩,
  ⟨.type "builtin_function_or_method", none, .fields #[.builtin "object.__init_subclass__", .ref 190], #[]⟩,
  ⟨.type "tuple", none, .seq #[] 0, #[]⟩,
  ⟨.none, none, .fields #[], #[]⟩,
  ⟨.type "tuple", none, .seq #[.str "data" 458, .str "found" 459, .str "name" 460] 0, #[]⟩,
  ⟨.type "tuple", none, .seq #[] 0, #[]⟩,
  ⟨.none, none, .func (fnX 10 none "records" "records" 0 [] (.none) (.none) (.none) (.none) none (.none) (.none) 0), #[]⟩,
  ⟨.type "code", none, .fields #[.str "records" 455, .str "records" 456, .str "/claim/cut.py" 457, .int 88 0, .int 1 0, .int 0 0, .int 0 0, .int 3 0, .ref 195, .bool true, .int 181 0, .ref 196, .none, .ref 197, .ref 198, .ref 199, .int 461 0, .int 88 0, .str "/claim/cut.py" 462], #[]⟩,
  ⟨.type "function", none, .func (fnX 10 none "records" "records" 3 [] (.none) (.none) (.none) (.str "ledgerspeak.items" 252) none (.ref 200) (.none) 0), #[]⟩,
  ⟨.type "tuple", none, .seq #[] 0, #[]⟩,
  ⟨.none, none, .fields #[], #[]⟩,
  ⟨.type "tuple", none, .seq #[.str "item" 467, .str "found" 468, .str "line" 469, .str "one" 470] 0, #[]⟩,
  ⟨.type "tuple", none, .seq #[] 0, #[]⟩,
  ⟨.none, none, .func (fnX 11 none "items_under" "items_under" 0 [] (.none) (.none) (.none) (.none) none (.none) (.none) 0), #[]⟩,
  ⟨.type "code", none, .fields #[.str "items_under" 464, .str "items_under" 465, .str "/claim/cut.py" 466, .int 93 0, .int 1 0, .int 0 0, .int 0 0, .int 3 0, .ref 202, .bool true, .int 181 0, .ref 203, .none, .ref 204, .ref 205, .ref 206, .int 471 0, .int 93 0, .str "/claim/cut.py" 472], #[]⟩,
  ⟨.type "function", none, .func (fnX 11 none "items_under" "items_under" 3 [] (.none) (.none) (.none) (.str "ledgerspeak.items" 252) none (.ref 207) (.none) 0), #[]⟩,
  ⟨.type "tuple", none, .seq #[] 0, #[]⟩,
  ⟨.none, none, .fields #[], #[]⟩,
  ⟨.type "tuple", none, .seq #[.str "data" 477, .str "found" 478, .str "root" 479] 0, #[]⟩,
  ⟨.type "tuple", none, .seq #[] 0, #[]⟩,
  ⟨.none, none, .func (fnX 12 none "all_items" "all_items" 0 [] (.none) (.none) (.none) (.none) none (.none) (.none) 0), #[]⟩,
  ⟨.type "code", none, .fields #[.str "all_items" 474, .str "all_items" 475, .str "/claim/cut.py" 476, .int 101 0, .int 1 0, .int 0 0, .int 0 0, .int 3 0, .ref 209, .bool true, .int 181 0, .ref 210, .none, .ref 211, .ref 212, .ref 213, .int 480 0, .int 101 0, .str "/claim/cut.py" 481], #[]⟩,
  ⟨.type "function", none, .func (fnX 12 none "all_items" "all_items" 3 [] (.none) (.none) (.none) (.str "ledgerspeak.items" 252) none (.ref 214) (.none) 0), #[]⟩,
  ⟨.type "tuple", none, .seq #[] 0, #[]⟩,
  ⟨.none, none, .fields #[], #[]⟩,
  ⟨.type "tuple", none, .seq #[.str "item" 486, .str "found" 487, .str "above" 488] 0, #[]⟩,
  ⟨.type "tuple", none, .seq #[] 0, #[]⟩,
  ⟨.none, none, .func (fnX 13 none "items_around" "items_around" 0 [] (.none) (.none) (.none) (.none) none (.none) (.none) 0), #[]⟩,
  ⟨.type "code", none, .fields #[.str "items_around" 483, .str "items_around" 484, .str "/claim/cut.py" 485, .int 106 0, .int 1 0, .int 0 0, .int 0 0, .int 3 0, .ref 216, .bool true, .int 181 0, .ref 217, .none, .ref 218, .ref 219, .ref 220, .int 489 0, .int 106 0, .str "/claim/cut.py" 490], #[]⟩,
  ⟨.type "function", none, .func (fnX 13 none "items_around" "items_around" 3 [] (.none) (.none) (.none) (.str "ledgerspeak.items" 252) none (.ref 221) (.none) 0), #[]⟩,
  ⟨.type "tuple", none, .seq #[] 0, #[]⟩,
  ⟨.none, none, .fields #[], #[]⟩,
  ⟨.type "tuple", none, .seq #[.str "item" 495, .str "around" 496] 0, #[]⟩,
  ⟨.type "tuple", none, .seq #[] 0, #[]⟩,
  ⟨.none, none, .func (fnX 14 none "root_of" "root_of" 0 [] (.none) (.none) (.none) (.none) none (.none) (.none) 0), #[]⟩,
  ⟨.type "code", none, .fields #[.str "root_of" 492, .str "root_of" 493, .str "/claim/cut.py" 494, .int 113 0, .int 1 0, .int 0 0, .int 0 0, .int 3 0, .ref 223, .bool true, .int 181 0, .ref 224, .none, .ref 225, .ref 226, .ref 227, .int 497 0, .int 113 0, .str "/claim/cut.py" 498], #[]⟩,
  ⟨.type "function", none, .func (fnX 14 none "root_of" "root_of" 3 [] (.none) (.none) (.none) (.str "ledgerspeak.items" 252) none (.ref 228) (.none) 0), #[]⟩,
  ⟨.type "tuple", none, .seq #[] 0, #[]⟩,
  ⟨.none, none, .fields #[], #[]⟩,
  ⟨.none, none, .func (fnX 15 none "names_around" "names_around" 0 [] (.none) (.none) (.none) (.none) none (.none) (.none) 0), #[]⟩,
  ⟨.type "code", none, .fields #[.str "names_around" 500, .str "names_around" 501, .str "/claim/cut.py" 502, .int 116 0, .int 1 0, .int 0 0, .int 0 0, .int 3 0, .ref 230, .bool true, .int 181 0, .ref 231, .none, .none, .none, .ref 232, .int 503 0, .int 116 0, .str "/claim/cut.py" 504], #[]⟩,
  ⟨.type "function", none, .func (fnX 15 none "names_around" "names_around" 3 [] (.none) (.none) (.none) (.str "ledgerspeak.items" 252) none (.ref 233) (.none) 0), #[]⟩]
noncomputable def tT3 (P : Params) : BT := updL (tU3 P) (grow 12 (bootL P ++ tNa P ++ tN1 P ++ tN2 P ++ tN3 P))
noncomputable def tS3 (w : World) (os : OsState) : SharedT := ⟨tT3 w.params, 235, (boot_heap w.params).life, Array.mk [], boot_drawn, 506, os⟩
noncomputable def tU4 (P : Params) : List (Nat × Obj) := [(2, ⟨.none, none, .dict #[ke P "type.__subclasses__.Exception.0" 232 (.int 47 0), ke P "type.__subclasses__.Exception.n" 233 (.int 1 0)] 2, #[]⟩),
  (3, ⟨.type "dict", none, .dict #[ke P "__name__" 165 (.str "ledgerspeak.shapes" 676), ke P "__doc__" 166 (.none), ke P "__package__" 167 (.none), ke P "__loader__" 168 (.builtin "__main__.__loader__#opaque"), ke P "__spec__" 169 (.none), ke P "__annotations__" 170 (.ref 6), ke P "__builtins__" 171 (.ref 4), ke P "__file__" 173 (.str "/claim/cut.py" 172), ke P "__cached__" 174 (.none), ke P "_wall" 193 (.ref 21), ke P "LedgerError" 235 (.ref 47), ke P "CheckFault" 251 (.ref 60), ke P "FILLER" 255 (.str "FILLER" 254), ke P "Occurs" 299 (.ref 89), ke P "Named" 337 (.ref 117), ke P "Item" 415 (.ref 164), ke P "Data" 454 (.ref 190), ke P "records" 463 (.ref 201), ke P "items_under" 473 (.ref 208), ke P "all_items" 482 (.ref 215), ke P "items_around" 491 (.ref 222), ke P "root_of" 499 (.ref 229), ke P "names_around" 505 (.ref 234), ke P "tables_around" 511 (.ref 239), ke P "file_of" 519 (.ref 244), ke P "leads_through" 529 (.ref 251), ke P "only_one" 537 (.ref 258), ke P "find_item" 543 (.ref 263), ke P "find_named" 556 (.ref 270), ke P "ARITHMETIC" 560 (.str "+ - * / **" 559), ke P "item_of" 568 (.ref 277), ke P "is_index_name" 576 (.ref 284), ke P "part_faults" 586 (.ref 291), ke P "ref_faults" 599 (.ref 299), ke P "operand_faults" 607 (.ref 306), ke P "category_of" 616 (.ref 313), ke P "is_number_operand" 624 (.ref 320), ke P "number_faults" 633 (.ref 327), ke P "name_of" 640 (.ref 334), ke P "is_worth" 647 (.ref 341), ke P "worth_faults" 655 (.ref 348), ke P "named_faults" 666 (.ref 355), ke P "cond_faults" 675 (.ref 362)] 43, #[]⟩),
  (12, ⟨.none, none, .fields #[.int 1 0, .int 0 0, .ref 20, .int 5 0, .int 0 0, .ref 27, .int 14 0, .int 0 0, .ref 56, .int 18 0, .int 0 0, .ref 68, .int 29 0, .int 0 0, .ref 99, .int 37 0, .int 0 0, .ref 127, .int 75 0, .int 0 0, .ref 174, .int 88 0, .int 0 0, .ref 200, .int 93 0, .int 0 0, .ref 207, .int 101 0, .int 0 0, .ref 214, .int 106 0, .int 0 0, .ref 221, .int 113 0, .int 0 0, .ref 228, .int 116 0, .int 0 0, .ref 233, .int 118 0, .int 0 0, .ref 238, .int 122 0, .int 0 0, .ref 243, .int 128 0, .int 0 0, .ref 250, .int 134 0, .int 0 0, .ref 257, .int 140 0, .int 0 0, .ref 262, .int 143 0, .int 0 0, .ref 269, .int 153 0, .int 0 0, .ref 276, .int 158 0, .int 0 0, .ref 283, .int 160 0, .int 0 0, .ref 290, .int 168 0, .int 0 0, .ref 298, .int 179 0, .int 0 0, .ref 305, .int 181 0, .int 0 0, .ref 312, .int 192 0, .int 0 0, .ref 319, .int 194 0, .int 0 0, .ref 326, .int 203 0, .int 0 0, .ref 333, .int 207 0, .int 0 0, .ref 340, .int 209 0, .int 0 0, .ref 347, .int 211 0, .int 0 0, .ref 354, .int 220 0, .int 0 0, .ref 361], #[]⟩)]
noncomputable def tN4 (P : Params) : List Obj := [⟨.type "tuple", none, .seq #[] 0, #[]⟩,
  ⟨.none, none, .fields #[], #[]⟩,
  ⟨.none, none, .func (fnX 16 none "tables_around" "tables_around" 0 [] (.none) (.none) (.none) (.none) none (.none) (.none) 0), #[]⟩,
  ⟨.type "code", none, .fields #[.str "tables_around" 506, .str "tables_around" 507, .str "/claim/cut.py" 508, .int 118 0, .int 1 0, .int 0 0, .int 0 0, .int 3 0, .ref 235, .bool true, .int 181 0, .ref 236, .none, .none, .none, .ref 237, .int 509 0, .int 118 0, .str "/claim/cut.py" 510], #[]⟩,
  ⟨.type "function", none, .func (fnX 16 none "tables_around" "tables_around" 3 [] (.none) (.none) (.none) (.str "ledgerspeak.items" 252) none (.ref 238) (.none) 0), #[]⟩,
  ⟨.type "tuple", none, .seq #[] 0, #[]⟩,
  ⟨.none, none, .fields #[], #[]⟩,
  ⟨.none, none, .func (fnX 18 none "file_of" "file_of" 0 [] (.none) (.none) (.none) (.none) none (.none) (.none) 0), #[]⟩,
  ⟨.type "code", none, .fields #[.str "file_of" 514, .str "file_of" 515, .str "/claim/cut.py" 516, .int 122 0, .int 2 0, .int 0 0, .int 0 0, .int 3 0, .ref 240, .bool true, .int 181 0, .ref 241, .none, .none, .none, .ref 242, .int 517 0, .int 122 0, .str "/claim/cut.py" 518], #[]⟩,
  ⟨.type "function", none, .func (fnX 18 none "file_of" "file_of" 3 [] (.none) (.none) (.none) (.str "ledgerspeak.references" 512) none (.ref 243) (.none) 0), #[]⟩,
  ⟨.type "tuple", none, .seq #[] 0, #[]⟩,
  ⟨.none, none, .fields #[], #[]⟩,
  ⟨.type "tuple", none, .seq #[.str "around" 523, .str "qualifiers" 524, .str "at" 525, .str "name" 526] 0, #[]⟩,
  ⟨.type "tuple", none, .seq #[] 0, #[]⟩,
  ⟨.none, none, .func (fnX 19 none "leads_through" "leads_through" 0 [] (.none) (.none) (.none) (.none) none (.none) (.none) 0), #[]⟩,
  ⟨.type "code", none, .fields #[.str "leads_through" 520, .str "leads_through" 521, .str "/claim/cut.py" 522, .int 128 0, .int 2 0, .int 0 0, .int 0 0, .int 3 0, .ref 245, .bool true, .int 181 0, .ref 246, .none, .ref 247, .ref 248, .ref 249, .int 527 0, .int 128 0, .str "/claim/cut.py" 528], #[]⟩,
  ⟨.type "function", none, .func (fnX 19 none "leads_through" "leads_through" 3 [] (.none) (.none) (.none) (.str "ledgerspeak.references" 512) none (.ref 250) (.none) 0), #[]⟩,
  ⟨.type "tuple", none, .seq #[] 0, #[]⟩,
  ⟨.none, none, .fields #[], #[]⟩,
  ⟨.type "tuple", none, .seq #[.str "found" 533, .str "name" 534] 0, #[]⟩,
  ⟨.type "tuple", none, .seq #[] 0, #[]⟩,
  ⟨.none, none, .func (fnX 20 none "only_one" "only_one" 0 [] (.none) (.none) (.none) (.none) none (.none) (.none) 0), #[]⟩,
  ⟨.type "code", none, .fields #[.str "only_one" 530, .str "only_one" 531, .str "/claim/cut.py" 532, .int 134 0, .int 2 0, .int 0 0, .int 0 0, .int 3 0, .ref 252, .bool true, .int 181 0, .ref 253, .none, .ref 254, .ref 255, .ref 256, .int 535 0, .int 134 0, .str "/claim/cut.py" 536], #[]⟩,
  ⟨.type "function", none, .func (fnX 20 none "only_one" "only_one" 3 [] (.none) (.none) (.none) (.str "ledgerspeak.references" 512) none (.ref 257) (.none) 0), #[]⟩,
  ⟨.type "tuple", none, .seq #[] 0, #[]⟩,
  ⟨.none, none, .fields #[], #[]⟩,
  ⟨.none, none, .func (fnX 21 none "find_item" "find_item" 0 [] (.none) (.none) (.none) (.none) none (.none) (.none) 0), #[]⟩,
  ⟨.type "code", none, .fields #[.str "find_item" 538, .str "find_item" 539, .str "/claim/cut.py" 540, .int 140 0, .int 3 0, .int 0 0, .int 0 0, .int 3 0, .ref 259, .bool true, .int 181 0, .ref 260, .none, .none, .none, .ref 261, .int 541 0, .int 140 0, .str "/claim/cut.py" 542], #[]⟩,
  ⟨.type "function", none, .func (fnX 21 none "find_item" "find_item" 3 [] (.none) (.none) (.none) (.str "ledgerspeak.references" 512) none (.ref 262) (.none) 0), #[]⟩,
  ⟨.type "tuple", none, .seq #[] 0, #[]⟩,
  ⟨.none, none, .fields #[], #[]⟩,
  ⟨.type "tuple", none, .seq #[.str "data" 547, .str "name" 548, .str "qualifiers" 549, .str "found" 550, .str "item" 551, .str "around" 552, .str "named" 553] 0, #[]⟩,
  ⟨.type "tuple", none, .seq #[] 0, #[]⟩,
  ⟨.none, none, .func (fnX 22 none "find_named" "find_named" 0 [] (.none) (.none) (.none) (.none) none (.none) (.none) 0), #[]⟩,
  ⟨.type "code", none, .fields #[.str "find_named" 544, .str "find_named" 545, .str "/claim/cut.py" 546, .int 143 0, .int 3 0, .int 0 0, .int 0 0, .int 3 0, .ref 264, .bool true, .int 181 0, .ref 265, .none, .ref 266, .ref 267, .ref 268, .int 554 0, .int 143 0, .str "/claim/cut.py" 555], #[]⟩,
  ⟨.type "function", none, .func (fnX 22 none "find_named" "find_named" 3 [] (.none) (.none) (.none) (.str "ledgerspeak.references" 512) none (.ref 269) (.none) 0), #[]⟩,
  ⟨.type "tuple", none, .seq #[] 0, #[]⟩,
  ⟨.none, none, .fields #[], #[]⟩,
  ⟨.type "tuple", none, .seq #[.str "data" 564, .str "ref" 565] 0, #[]⟩,
  ⟨.type "tuple", none, .seq #[] 0, #[]⟩,
  ⟨.none, none, .func (fnX 25 none "item_of" "item_of" 0 [] (.none) (.none) (.none) (.none) none (.none) (.none) 0), #[]⟩,
  ⟨.type "code", none, .fields #[.str "item_of" 561, .str "item_of" 562, .str "/claim/cut.py" 563, .int 153 0, .int 2 0, .int 0 0, .int 0 0, .int 3 0, .ref 271, .bool true, .int 181 0, .ref 272, .none, .ref 273, .ref 274, .ref 275, .int 566 0, .int 153 0, .str "/claim/cut.py" 567], #[]⟩,
  ⟨.type "function", none, .func (fnX 25 none "item_of" "item_of" 3 [] (.none) (.none) (.none) (.str "ledgerspeak.checker" 557) none (.ref 276) (.none) 0), #[]⟩,
  ⟨.type "tuple", none, .seq #[] 0, #[]⟩,
  ⟨.none, none, .fields #[], #[]⟩,
  ⟨.type "tuple", none, .seq #[.str "data" 572, .str "operand" 573] 0, #[]⟩,
  ⟨.type "tuple", none, .seq #[] 0, #[]⟩,
  ⟨.none, none, .func (fnX 26 none "is_index_name" "is_index_name" 0 [] (.none) (.none) (.none) (.none) none (.none) (.none) 0), #[]⟩,
  ⟨.type "code", none, .fields #[.str "is_index_name" 569, .str "is_index_name" 570, .str "/claim/cut.py" 571, .int 158 0, .int 2 0, .int 0 0, .int 0 0, .int 3 0, .ref 278, .bool true, .int 181 0, .ref 279, .none, .ref 280, .ref 281, .ref 282, .int 574 0, .int 158 0, .str "/claim/cut.py" 575], #[]⟩,
  ⟨.type "function", none, .func (fnX 26 none "is_index_name" "is_index_name" 3 [] (.none) (.none) (.none) (.str "ledgerspeak.checker" 557) none (.ref 283) (.none) 0), #[]⟩,
  ⟨.type "tuple", none, .seq #[] 0, #[]⟩,
  ⟨.none, none, .fields #[], #[]⟩,
  ⟨.type "tuple", none, .seq #[.str "data" 580, .str "ref" 581, .str "found" 582, .str "expr" 583] 0, #[]⟩,
  ⟨.type "tuple", none, .seq #[] 0, #[]⟩,
  ⟨.none, none, .func (fnX 27 none "part_faults" "part_faults" 0 [] (.none) (.none) (.none) (.none) none (.none) (.none) 0), #[]⟩,
  ⟨.type "code", none, .fields #[.str "part_faults" 577, .str "part_faults" 578, .str "/claim/cut.py" 579, .int 160 0, .int 2 0, .int 0 0, .int 0 0, .int 3 0, .ref 285, .bool true, .int 181 0, .ref 286, .none, .ref 287, .ref 288, .ref 289, .int 584 0, .int 160 0, .str "/claim/cut.py" 585], #[]⟩,
  ⟨.type "function", none, .func (fnX 27 none "part_faults" "part_faults" 3 [] (.none) (.none) (.none) (.str "ledgerspeak.checker" 557) none (.ref 290) (.none) 0), #[]⟩,
  ⟨.type "tuple", none, .seq #[.int 0 587] 0, #[]⟩,
  ⟨.type "tuple", none, .seq #[] 0, #[]⟩,
  ⟨.none, none, .fields #[], #[]⟩,
  ⟨.type "tuple", none, .seq #[.str "data" 591, .str "ref" 592, .str "less" 593, .str "item" 594, .str "fault" 595, .str "found" 596] 0, #[]⟩,
  ⟨.type "tuple", none, .seq #[] 0, #[]⟩,
  ⟨.none, none, .func (fnX 28 none "ref_faults" "ref_faults" 0 [] (.none) (.none) (.none) (.none) none (.none) (.none) 0), #[]⟩,
  ⟨.type "code", none, .fields #[.str "ref_faults" 588, .str "ref_faults" 589, .str "/claim/cut.py" 590, .int 168 0, .int 3 0, .int 0 0, .int 0 0, .int 3 0, .ref 293, .bool true, .int 181 0, .ref 294, .none, .ref 295, .ref 296, .ref 297, .int 597 0, .int 168 0, .str "/claim/cut.py" 598], #[]⟩,
  ⟨.type "function", none, .func (fnX 28 none "ref_faults" "ref_faults" 3 [] (.ref 292) (.none) (.none) (.str "ledgerspeak.checker" 557) none (.ref 298) (.none) 0), #[]⟩,
  ⟨.type "tuple", none, .seq #[] 0, #[]⟩,
  ⟨.none, none, .fields #[], #[]⟩,
  ⟨.type "tuple", none, .seq #[.str "data" 603, .str "operand" 604] 0, #[]⟩,
  ⟨.type "tuple", none, .seq #[] 0, #[]⟩,
  ⟨.none, none, .func (fnX 29 none "operand_faults" "operand_faults" 0 [] (.none) (.none) (.none) (.none) none (.none) (.none) 0), #[]⟩,
  ⟨.type "code", none, .fields #[.str "operand_faults" 600, .str "operand_faults" 601, .str "/claim/cut.py" 602, .int 179 0, .int 2 0, .int 0 0, .int 0 0, .int 3 0, .ref 300, .bool true, .int 181 0, .ref 301, .none, .ref 302, .ref 303, .ref 304, .int 605 0, .int 179 0, .str "/claim/cut.py" 606], #[]⟩,
  ⟨.type "function", none, .func (fnX 29 none "operand_faults" "operand_faults" 3 [] (.none) (.none) (.none) (.str "ledgerspeak.checker" 557) none (.ref 305) (.none) 0), #[]⟩,
  ⟨.type "tuple", none, .seq #[] 0, #[]⟩,
  ⟨.none, none, .fields #[], #[]⟩,
  ⟨.type "tuple", none, .seq #[.str "data" 611, .str "operand" 612, .str "item" 613] 0, #[]⟩,
  ⟨.type "tuple", none, .seq #[] 0, #[]⟩,
  ⟨.none, none, .func (fnX 30 none "category_of" "category_of" 0 [] (.none) (.none) (.none) (.none) none (.none) (.none) 0), #[]⟩,
  ⟨.type "code", none, .fields #[.str "category_of" 608, .str "category_of" 609, .str "/claim/cut.py" 610, .int 181 0, .int 2 0, .int 0 0, .int 0 0, .int 3 0, .ref 307, .bool true, .int 181 0, .ref 308, .none, .ref 309, .ref 310, .ref 311, .int 614 0, .int 181 0, .str "/claim/cut.py" 615], #[]⟩,
  ⟨.type "function", none, .func (fnX 30 none "category_of" "category_of" 3 [] (.none) (.none) (.none) (.str "ledgerspeak.checker" 557) none (.ref 312) (.none) 0), #[]⟩,
  ⟨.type "tuple", none, .seq #[] 0, #[]⟩,
  ⟨.none, none, .fields #[], #[]⟩,
  ⟨.type "tuple", none, .seq #[.str "data" 620, .str "operand" 621] 0, #[]⟩,
  ⟨.type "tuple", none, .seq #[] 0, #[]⟩,
  ⟨.none, none, .func (fnX 31 none "is_number_operand" "is_number_operand" 0 [] (.none) (.none) (.none) (.none) none (.none) (.none) 0), #[]⟩,
  ⟨.type "code", none, .fields #[.str "is_number_operand" 617, .str "is_number_operand" 618, .str "/claim/cut.py" 619, .int 192 0, .int 2 0, .int 0 0, .int 0 0, .int 3 0, .ref 314, .bool true, .int 181 0, .ref 315, .none, .ref 316, .ref 317, .ref 318, .int 622 0, .int 192 0, .str "/claim/cut.py" 623], #[]⟩,
  ⟨.type "function", none, .func (fnX 31 none "is_number_operand" "is_number_operand" 3 [] (.none) (.none) (.none) (.str "ledgerspeak.checker" 557) none (.ref 319) (.none) 0), #[]⟩,
  ⟨.type "tuple", none, .seq #[] 0, #[]⟩,
  ⟨.none, none, .fields #[], #[]⟩,
  ⟨.type "tuple", none, .seq #[.str "data" 628, .str "expr" 629, .str "found" 630] 0, #[]⟩,
  ⟨.type "tuple", none, .seq #[] 0, #[]⟩,
  ⟨.none, none, .func (fnX 32 none "number_faults" "number_faults" 0 [] (.none) (.none) (.none) (.none) none (.none) (.none) 0), #[]⟩,
  ⟨.type "code", none, .fields #[.str "number_faults" 625, .str "number_faults" 626, .str "/claim/cut.py" 627, .int 194 0, .int 2 0, .int 0 0, .int 0 0, .int 3 0, .ref 321, .bool true, .int 181 0, .ref 322, .none, .ref 323, .ref 324, .ref 325, .int 631 0, .int 194 0, .str "/claim/cut.py" 632], #[]⟩,
  ⟨.type "function", none, .func (fnX 32 none "number_faults" "number_faults" 3 [] (.none) (.none) (.none) (.str "ledgerspeak.checker" 557) none (.ref 326) (.none) 0), #[]⟩,
  ⟨.type "tuple", none, .seq #[] 0, #[]⟩,
  ⟨.none, none, .fields #[], #[]⟩,
  ⟨.type "tuple", none, .seq #[.str "operand" 637] 0, #[]⟩,
  ⟨.type "tuple", none, .seq #[] 0, #[]⟩,
  ⟨.none, none, .func (fnX 33 none "name_of" "name_of" 0 [] (.none) (.none) (.none) (.none) none (.none) (.none) 0), #[]⟩,
  ⟨.type "code", none, .fields #[.str "name_of" 634, .str "name_of" 635, .str "/claim/cut.py" 636, .int 203 0, .int 1 0, .int 0 0, .int 0 0, .int 3 0, .ref 328, .bool true, .int 181 0, .ref 329, .none, .ref 330, .ref 331, .ref 332, .int 638 0, .int 203 0, .str "/claim/cut.py" 639], #[]⟩,
  ⟨.type "function", none, .func (fnX 33 none "name_of" "name_of" 3 [] (.none) (.none) (.none) (.str "ledgerspeak.checker" 557) none (.ref 333) (.none) 0), #[]⟩,
  ⟨.type "tuple", none, .seq #[] 0, #[]⟩,
  ⟨.none, none, .fields #[], #[]⟩,
  ⟨.type "tuple", none, .seq #[.str "expr" 644] 0, #[]⟩,
  ⟨.type "tuple", none, .seq #[] 0, #[]⟩,
  ⟨.none, none, .func (fnX 34 none "is_worth" "is_worth" 0 [] (.none) (.none) (.none) (.none) none (.none) (.none) 0), #[]⟩,
  ⟨.type "code", none, .fields #[.str "is_worth" 641, .str "is_worth" 642, .str "/claim/cut.py" 643, .int 207 0, .int 1 0, .int 0 0, .int 0 0, .int 3 0, .ref 335, .bool true, .int 181 0, .ref 336, .none, .ref 337, .ref 338, .ref 339, .int 645 0, .int 207 0, .str "/claim/cut.py" 646], #[]⟩,
  ⟨.type "function", none, .func (fnX 34 none "is_worth" "is_worth" 3 [] (.none) (.none) (.none) (.str "ledgerspeak.checker" 557) none (.ref 340) (.none) 0), #[]⟩,
  ⟨.type "tuple", none, .seq #[] 0, #[]⟩,
  ⟨.none, none, .fields #[], #[]⟩,
  ⟨.type "tuple", none, .seq #[.str "data" 651, .str "expr" 652] 0, #[]⟩,
  ⟨.type "tuple", none, .seq #[] 0, #[]⟩,
  ⟨.none, none, .func (fnX 35 none "worth_faults" "worth_faults" 0 [] (.none) (.none) (.none) (.none) none (.none) (.none) 0), #[]⟩,
  ⟨.type "code", none, .fields #[.str "worth_faults" 648, .str "worth_faults" 649, .str "/claim/cut.py" 650, .int 209 0, .int 2 0, .int 0 0, .int 0 0, .int 3 0, .ref 342, .bool true, .int 181 0, .ref 343, .none, .ref 344, .ref 345, .ref 346, .int 653 0, .int 209 0, .str "/claim/cut.py" 654], #[]⟩,
  ⟨.type "function", none, .func (fnX 35 none "worth_faults" "worth_faults" 3 [] (.none) (.none) (.none) (.str "ledgerspeak.checker" 557) none (.ref 347) (.none) 0), #[]⟩,
  ⟨.type "tuple", none, .seq #[] 0, #[]⟩,
  ⟨.none, none, .fields #[], #[]⟩,
  ⟨.type "tuple", none, .seq #[.str "data" 659, .str "ref" 660, .str "item" 661, .str "fault" 662, .str "found" 663] 0, #[]⟩,
  ⟨.type "tuple", none, .seq #[] 0, #[]⟩,
  ⟨.none, none, .func (fnX 36 none "named_faults" "named_faults" 0 [] (.none) (.none) (.none) (.none) none (.none) (.none) 0), #[]⟩,
  ⟨.type "code", none, .fields #[.str "named_faults" 656, .str "named_faults" 657, .str "/claim/cut.py" 658, .int 211 0, .int 2 0, .int 0 0, .int 0 0, .int 3 0, .ref 349, .bool true, .int 181 0, .ref 350, .none, .ref 351, .ref 352, .ref 353, .int 664 0, .int 211 0, .str "/claim/cut.py" 665], #[]⟩,
  ⟨.type "function", none, .func (fnX 36 none "named_faults" "named_faults" 3 [] (.none) (.none) (.none) (.str "ledgerspeak.checker" 557) none (.ref 354) (.none) 0), #[]⟩,
  ⟨.type "tuple", none, .seq #[] 0, #[]⟩,
  ⟨.none, none, .fields #[], #[]⟩,
  ⟨.type "tuple", none, .seq #[.str "data" 670, .str "cond" 671, .str "kind" 672] 0, #[]⟩,
  ⟨.type "tuple", none, .seq #[] 0, #[]⟩,
  ⟨.none, none, .func (fnX 37 none "cond_faults" "cond_faults" 0 [] (.none) (.none) (.none) (.none) none (.none) (.none) 0), #[]⟩,
  ⟨.type "code", none, .fields #[.str "cond_faults" 667, .str "cond_faults" 668, .str "/claim/cut.py" 669, .int 220 0, .int 2 0, .int 0 0, .int 0 0, .int 3 0, .ref 356, .bool true, .int 181 0, .ref 357, .none, .ref 358, .ref 359, .ref 360, .int 673 0, .int 220 0, .str "/claim/cut.py" 674], #[]⟩,
  ⟨.type "function", none, .func (fnX 37 none "cond_faults" "cond_faults" 3 [] (.none) (.none) (.none) (.str "ledgerspeak.checker" 557) none (.ref 361) (.none) 0), #[]⟩]
noncomputable def tT4 (P : Params) : BT := updL (tU4 P) (grow 12 (bootL P ++ tNa P ++ tN1 P ++ tN2 P ++ tN3 P ++ tN4 P))
noncomputable def tS4 (w : World) (os : OsState) : SharedT := ⟨tT4 w.params, 363, (boot_heap w.params).life, Array.mk [], boot_drawn, 678, os⟩
noncomputable def tU5 (P : Params) : List (Nat × Obj) := [(2, ⟨.none, none, .dict #[ke P "type.__subclasses__.Exception.0" 232 (.int 47 0), ke P "type.__subclasses__.Exception.n" 233 (.int 1 0)] 2, #[]⟩),
  (3, ⟨.type "dict", none, .dict #[ke P "__name__" 165 (.str "law_og0096_01" 743), ke P "__doc__" 166 (.none), ke P "__package__" 167 (.none), ke P "__loader__" 168 (.builtin "__main__.__loader__#opaque"), ke P "__spec__" 169 (.none), ke P "__annotations__" 170 (.ref 6), ke P "__builtins__" 171 (.ref 4), ke P "__file__" 173 (.str "/claim/cut.py" 172), ke P "__cached__" 174 (.none), ke P "_wall" 193 (.ref 21), ke P "LedgerError" 235 (.ref 47), ke P "CheckFault" 251 (.ref 60), ke P "FILLER" 255 (.str "FILLER" 254), ke P "Occurs" 299 (.ref 89), ke P "Named" 337 (.ref 117), ke P "Item" 415 (.ref 164), ke P "Data" 454 (.ref 190), ke P "records" 463 (.ref 201), ke P "items_under" 473 (.ref 208), ke P "all_items" 482 (.ref 215), ke P "items_around" 491 (.ref 222), ke P "root_of" 499 (.ref 229), ke P "names_around" 505 (.ref 234), ke P "tables_around" 511 (.ref 239), ke P "file_of" 519 (.ref 244), ke P "leads_through" 529 (.ref 251), ke P "only_one" 537 (.ref 258), ke P "find_item" 543 (.ref 263), ke P "find_named" 556 (.ref 270), ke P "ARITHMETIC" 560 (.str "+ - * / **" 559), ke P "item_of" 568 (.ref 277), ke P "is_index_name" 576 (.ref 284), ke P "part_faults" 586 (.ref 291), ke P "ref_faults" 599 (.ref 299), ke P "operand_faults" 607 (.ref 306), ke P "category_of" 616 (.ref 313), ke P "is_number_operand" 624 (.ref 320), ke P "number_faults" 633 (.ref 327), ke P "name_of" 640 (.ref 334), ke P "is_worth" 647 (.ref 341), ke P "worth_faults" 655 (.ref 348), ke P "named_faults" 666 (.ref 355), ke P "cond_faults" 675 (.ref 362), ke P "Shape" 742 (.ref 394), ke P "_law_draw" 754 (.ref 405), ke P "_law_leaf" 766 (.ref 413), ke P "_law_data" 780 (.ref 420), ke P "_law_ref" 790 (.ref 430), ke P "_law_named" 799 (.ref 437), ke P "_law_simple" 811 (.ref 444), ke P "_law_cond" 824 (.ref 451), ke P "law" 830 (.ref 456)] 52, #[]⟩),
  (12, ⟨.none, none, .fields #[.int 1 0, .int 0 0, .ref 20, .int 5 0, .int 0 0, .ref 27, .int 14 0, .int 0 0, .ref 56, .int 18 0, .int 0 0, .ref 68, .int 29 0, .int 0 0, .ref 99, .int 37 0, .int 0 0, .ref 127, .int 75 0, .int 0 0, .ref 174, .int 88 0, .int 0 0, .ref 200, .int 93 0, .int 0 0, .ref 207, .int 101 0, .int 0 0, .ref 214, .int 106 0, .int 0 0, .ref 221, .int 113 0, .int 0 0, .ref 228, .int 116 0, .int 0 0, .ref 233, .int 118 0, .int 0 0, .ref 238, .int 122 0, .int 0 0, .ref 243, .int 128 0, .int 0 0, .ref 250, .int 134 0, .int 0 0, .ref 257, .int 140 0, .int 0 0, .ref 262, .int 143 0, .int 0 0, .ref 269, .int 153 0, .int 0 0, .ref 276, .int 158 0, .int 0 0, .ref 283, .int 160 0, .int 0 0, .ref 290, .int 168 0, .int 0 0, .ref 298, .int 179 0, .int 0 0, .ref 305, .int 181 0, .int 0 0, .ref 312, .int 192 0, .int 0 0, .ref 319, .int 194 0, .int 0 0, .ref 326, .int 203 0, .int 0 0, .ref 333, .int 207 0, .int 0 0, .ref 340, .int 209 0, .int 0 0, .ref 347, .int 211 0, .int 0 0, .ref 354, .int 220 0, .int 0 0, .ref 361, .int 234 0, .int 0 0, .ref 368, .int 262 0, .int 0 0, .ref 404, .int 267 0, .int 0 0, .ref 412, .int 274 0, .int 0 0, .ref 419, .int 292 0, .int 0 0, .ref 429, .int 294 0, .int 0 0, .ref 436, .int 300 0, .int 0 0, .ref 443, .int 323 0, .int 0 0, .ref 450, .int 332 0, .int 0 0, .ref 455], #[]⟩)]
noncomputable def tN5 (P : Params) : List Obj := [⟨.type "tuple", none, .seq #[] 0, #[]⟩,
  ⟨.type "builtin_function_or_method", none, .fields #[.builtin "type.__prepare__", .type "type"], #[]⟩,
  ⟨.type "dict", none, .dict #[ke P "__module__" 685 (.str "ledgerspeak.shapes" 676), ke P "__qualname__" 687 (.str "Shape" 686), ke P "__firstlineno__" 689 (.int 234 688), ke P "__init__" 706 (.ref 377), ke P "told" 716 (.ref 384), ke P "sign_place" 723 (.ref 391), ke P "__static_attributes__" 735 (.ref 392)] 7, #[]⟩,
  ⟨.type "tuple", none, .seq #[] 0, #[]⟩,
  ⟨.none, none, .fields #[.int 236 0, .int 4 0, .ref 376, .int 253 0, .int 4 0, .ref 383, .int 259 0, .int 4 0, .ref 390], #[]⟩,
  ⟨.type "code", none, .fields #[.str "Shape" 680, .str "Shape" 681, .str "/claim/cut.py" 682, .int 234 0, .int 0 0, .int 0 0, .int 0 0, .int 0 0, .ref 366, .bool false, .int 181 0, .ref 367, .none, .none, .none, .none, .int 683 0, .int 234 0, .str "/claim/cut.py" 684], #[]⟩,
  ⟨.type "frame", none, .plain, #[some (.ref 368), some (.ref 3), some (.ref 365), none, some (.str "ledgerspeak.shapes" 676), none, some (.ref 0)]⟩,
  ⟨.type "tuple", none, .seq #[.none, .str "display" 690, .str "trailing" 691, .bool false, .bool false, .bool false] 0, #[]⟩,
  ⟨.type "tuple", none, .seq #[] 0, #[]⟩,
  ⟨.none, none, .fields #[], #[]⟩,
  ⟨.type "tuple", none, .seq #[.str "self" 695, .str "category" 696, .str "size" 697, .str "picture" 698, .str "usage" 699, .str "sign" 700, .str "is_separate" 701, .str "is_justified" 702, .str "is_blank_zero" 703] 0, #[]⟩,
  ⟨.type "tuple", none, .seq #[] 0, #[]⟩,
  ⟨.none, none, .func (fnX 39 (some 0) "__init__" "Shape.__init__" 0 [] (.none) (.none) (.none) (.none) none (.none) (.none) 0), #[]⟩,
  ⟨.type "code", none, .fields #[.str "__init__" 692, .str "Shape.__init__" 693, .str "/claim/cut.py" 694, .int 236 0, .int 9 0, .int 0 0, .int 0 0, .int 3 0, .ref 371, .bool true, .int 181 0, .ref 372, .none, .ref 373, .ref 374, .ref 375, .int 704 0, .int 236 0, .str "/claim/cut.py" 705], #[]⟩,
  ⟨.type "function", none, .func (fnX 39 (some 0) "__init__" "Shape.__init__" 3 [] (.ref 370) (.none) (.none) (.str "ledgerspeak.shapes" 676) none (.ref 376) (.none) 0), #[]⟩,
  ⟨.type "tuple", none, .seq #[] 0, #[]⟩,
  ⟨.none, none, .fields #[], #[]⟩,
  ⟨.type "tuple", none, .seq #[.str "self" 710, .str "clauses" 711, .str "number" 712, .str "picture" 713] 0, #[]⟩,
  ⟨.type "tuple", none, .seq #[] 0, #[]⟩,
  ⟨.none, none, .func (fnX 39 (some 1) "told" "Shape.told" 0 [] (.none) (.none) (.none) (.none) none (.none) (.none) 0), #[]⟩,
  ⟨.type "code", none, .fields #[.str "told" 707, .str "Shape.told" 708, .str "/claim/cut.py" 709, .int 253 0, .int 1 0, .int 0 0, .int 0 0, .int 3 0, .ref 378, .bool true, .int 181 0, .ref 379, .none, .ref 380, .ref 381, .ref 382, .int 714 0, .int 253 0, .str "/claim/cut.py" 715], #[]⟩,
  ⟨.type "function", none, .func (fnX 39 (some 1) "told" "Shape.told" 3 [] (.none) (.none) (.none) (.str "ledgerspeak.shapes" 676) none (.ref 383) (.none) 0), #[]⟩,
  ⟨.type "tuple", none, .seq #[] 0, #[]⟩,
  ⟨.none, none, .fields #[], #[]⟩,
  ⟨.type "tuple", none, .seq #[.str "self" 720] 0, #[]⟩,
  ⟨.type "tuple", none, .seq #[] 0, #[]⟩,
  ⟨.none, none, .func (fnX 39 (some 2) "sign_place" "Shape.sign_place" 0 [] (.none) (.none) (.none) (.none) none (.none) (.none) 0), #[]⟩,
  ⟨.type "code", none, .fields #[.str "sign_place" 717, .str "Shape.sign_place" 718, .str "/claim/cut.py" 719, .int 259 0, .int 1 0, .int 0 0, .int 0 0, .int 3 0, .ref 385, .bool true, .int 181 0, .ref 386, .none, .ref 387, .ref 388, .ref 389, .int 721 0, .int 259 0, .str "/claim/cut.py" 722], #[]⟩,
  ⟨.type "function", none, .func (fnX 39 (some 2) "sign_place" "Shape.sign_place" 3 [] (.none) (.none) (.none) (.str "ledgerspeak.shapes" 676) none (.ref 390) (.none) 0), #[]⟩,
  ⟨.type "tuple", none, .seq #[.str "category" 724, .str "digits" 725, .str "is_blank_zero" 726, .str "is_justified" 727, .str "is_separate" 728, .str "is_signed" 729, .str "picture" 730, .str "scale" 731, .str "sign" 732, .str "size" 733, .str "usage" 734] 0, #[]⟩,
  ⟨.type "dict", none, .dict #[ke P "__module__" 685 (.str "ledgerspeak.shapes" 676), ke P "__firstlineno__" 689 (.int 234 688), ke P "__init__" 706 (.ref 377), ke P "told" 716 (.ref 384), ke P "sign_place" 723 (.ref 391), ke P "__static_attributes__" 735 (.ref 392), ke P "__dict__" 737 (.ref 395), ke P "__weakref__" 739 (.ref 396), ke P "__doc__" 740 (.none)] 4, #[]⟩,
  ⟨.type "type", none, .cls (clX "Shape" [.type "object"] [.ref 394, .type "object"] 393 "Shape" true [] [] false none false), #[none, none, some (.str "Shape" 678), some (.str "Shape" 686), some (.builtin "object.__new__"), some (.bool true)]⟩,
  ⟨.type "getset_descriptor", none, .fields #[.str "__dict__" 736, .ref 394, .builtin "function.__dict__", .builtin "function.__dict__#set"], #[]⟩,
  ⟨.type "getset_descriptor", none, .fields #[.str "__weakref__" 738, .ref 394, .builtin "ExceptionGroup.__weakref__", .none], #[]⟩,
  ⟨.type "super", none, .fields #[.ref 394, .ref 394, .ref 394], #[]⟩,
  ⟨.type "builtin_function_or_method", none, .fields #[.builtin "object.__init_subclass__", .ref 394], #[]⟩,
  ⟨.type "tuple", none, .seq #[] 0, #[]⟩,
  ⟨.none, none, .fields #[], #[]⟩,
  ⟨.type "tuple", none, .seq #[.str "source" 748, .str "limit" 749, .str "cells" 750, .str "at" 751] 0, #[]⟩,
  ⟨.type "tuple", none, .seq #[] 0, #[]⟩,
  ⟨.none, none, .func (fnX 41 none "_law_draw" "_law_draw" 0 [] (.none) (.none) (.none) (.none) none (.none) (.none) 0), #[]⟩,
  ⟨.type "code", none, .fields #[.str "_law_draw" 745, .str "_law_draw" 746, .str "/claim/cut.py" 747, .int 262 0, .int 2 0, .int 0 0, .int 0 0, .int 3 0, .ref 399, .bool true, .int 181 0, .ref 400, .none, .ref 401, .ref 402, .ref 403, .int 752 0, .int 262 0, .str "/claim/cut.py" 753], #[]⟩,
  ⟨.type "function", none, .func (fnX 41 none "_law_draw" "_law_draw" 3 [] (.none) (.none) (.none) (.str "law_og0096_01" 743) none (.ref 404) (.none) 0), #[]⟩,
  ⟨.type "tuple", none, .seq #[.int 1 755] 0, #[]⟩,
  ⟨.type "tuple", none, .seq #[] 0, #[]⟩,
  ⟨.none, none, .fields #[], #[]⟩,
  ⟨.type "tuple", none, .seq #[.str "above" 759, .str "name" 760, .str "category" 761, .str "often" 762, .str "item" 763] 0, #[]⟩,
  ⟨.type "tuple", none, .seq #[] 0, #[]⟩,
  ⟨.none, none, .func (fnX 42 none "_law_leaf" "_law_leaf" 0 [] (.none) (.none) (.none) (.none) none (.none) (.none) 0), #[]⟩,
  ⟨.type "code", none, .fields #[.str "_law_leaf" 756, .str "_law_leaf" 757, .str "/claim/cut.py" 758, .int 267 0, .int 4 0, .int 0 0, .int 0 0, .int 3 0, .ref 407, .bool true, .int 181 0, .ref 408, .none, .ref 409, .ref 410, .ref 411, .int 764 0, .int 267 0, .str "/claim/cut.py" 765], #[]⟩,
  ⟨.type "function", none, .func (fnX 42 none "_law_leaf" "_law_leaf" 3 [] (.ref 406) (.none) (.none) (.str "law_og0096_01" 743) none (.ref 412) (.none) 0), #[]⟩,
  ⟨.type "tuple", none, .seq #[] 0, #[]⟩,
  ⟨.none, none, .fields #[], #[]⟩,
  ⟨.type "tuple", none, .seq #[.str "data" 770, .str "root" 771, .str "name" 772, .str "category" 773, .str "table" 774, .str "inner" 775, .str "turn" 776, .str "other" 777] 0, #[]⟩,
  ⟨.type "tuple", none, .seq #[] 0, #[]⟩,
  ⟨.none, none, .func (fnX 43 none "_law_data" "_law_data" 0 [] (.none) (.none) (.none) (.none) none (.none) (.none) 0), #[]⟩,
  ⟨.type "code", none, .fields #[.str "_law_data" 767, .str "_law_data" 768, .str "/claim/cut.py" 769, .int 274 0, .int 0 0, .int 0 0, .int 0 0, .int 3 0, .ref 414, .bool true, .int 181 0, .ref 415, .none, .ref 416, .ref 417, .ref 418, .int 778 0, .int 274 0, .str "/claim/cut.py" 779], #[]⟩,
  ⟨.type "function", none, .func (fnX 43 none "_law_data" "_law_data" 3 [] (.none) (.none) (.none) (.str "law_og0096_01" 743) none (.ref 419) (.none) 0), #[]⟩,
  ⟨.type "tuple", none, .seq #[] 0, #[]⟩,
  ⟨.type "tuple", none, .seq #[] 0, #[]⟩,
  ⟨.type "tuple", none, .seq #[.ref 421, .none, .ref 422] 0, #[]⟩,
  ⟨.type "tuple", none, .seq #[] 0, #[]⟩,
  ⟨.none, none, .fields #[], #[]⟩,
  ⟨.type "tuple", none, .seq #[.str "name" 784, .str "subscripts" 785, .str "part" 786, .str "qualifiers" 787] 0, #[]⟩,
  ⟨.type "tuple", none, .seq #[] 0, #[]⟩,
  ⟨.none, none, .func (fnX 44 none "_law_ref" "_law_ref" 0 [] (.none) (.none) (.none) (.none) none (.none) (.none) 0), #[]⟩,
  ⟨.type "code", none, .fields #[.str "_law_ref" 781, .str "_law_ref" 782, .str "/claim/cut.py" 783, .int 292 0, .int 4 0, .int 0 0, .int 0 0, .int 3 0, .ref 424, .bool true, .int 181 0, .ref 425, .none, .ref 426, .ref 427, .ref 428, .int 788 0, .int 292 0, .str "/claim/cut.py" 789], #[]⟩,
  ⟨.type "function", none, .func (fnX 44 none "_law_ref" "_law_ref" 3 [] (.ref 423) (.none) (.none) (.str "law_og0096_01" 743) none (.ref 429) (.none) 0), #[]⟩,
  ⟨.type "tuple", none, .seq #[] 0, #[]⟩,
  ⟨.none, none, .fields #[], #[]⟩,
  ⟨.type "tuple", none, .seq #[.str "data" 794, .str "root" 795, .str "kid" 796] 0, #[]⟩,
  ⟨.type "tuple", none, .seq #[] 0, #[]⟩,
  ⟨.none, none, .func (fnX 45 none "_law_named" "_law_named" 0 [] (.none) (.none) (.none) (.none) none (.none) (.none) 0), #[]⟩,
  ⟨.type "code", none, .fields #[.str "_law_named" 791, .str "_law_named" 792, .str "/claim/cut.py" 793, .int 294 0, .int 1 0, .int 0 0, .int 0 0, .int 3 0, .ref 431, .bool true, .int 181 0, .ref 432, .none, .ref 433, .ref 434, .ref 435, .int 797 0, .int 294 0, .str "/claim/cut.py" 798], #[]⟩,
  ⟨.type "function", none, .func (fnX 45 none "_law_named" "_law_named" 3 [] (.none) (.none) (.none) (.str "law_og0096_01" 743) none (.ref 436) (.none) 0), #[]⟩,
  ⟨.type "tuple", none, .seq #[] 0, #[]⟩,
  ⟨.none, none, .fields #[], #[]⟩,
  ⟨.type "tuple", none, .seq #[.str "source" 803, .str "way" 804, .str "name" 805, .str "many" 806, .str "is_right" 807, .str "one" 808] 0, #[]⟩,
  ⟨.type "tuple", none, .seq #[] 0, #[]⟩,
  ⟨.none, none, .func (fnX 46 none "_law_simple" "_law_simple" 0 [] (.none) (.none) (.none) (.none) none (.none) (.none) 0), #[]⟩,
  ⟨.type "code", none, .fields #[.str "_law_simple" 800, .str "_law_simple" 801, .str "/claim/cut.py" 802, .int 300 0, .int 1 0, .int 0 0, .int 0 0, .int 3 0, .ref 438, .bool true, .int 181 0, .ref 439, .none, .ref 440, .ref 441, .ref 442, .int 809 0, .int 300 0, .str "/claim/cut.py" 810], #[]⟩,
  ⟨.type "function", none, .func (fnX 46 none "_law_simple" "_law_simple" 3 [] (.none) (.none) (.none) (.str "law_og0096_01" 743) none (.ref 443) (.none) 0), #[]⟩,
  ⟨.type "tuple", none, .seq #[] 0, #[]⟩,
  ⟨.none, none, .fields #[], #[]⟩,
  ⟨.type "tuple", none, .seq #[.str "source" 815, .str "depth" 816, .str "way" 817, .str "one" 818, .str "faults" 819, .str "other" 820, .str "more" 821] 0, #[]⟩,
  ⟨.type "tuple", none, .seq #[] 0, #[]⟩,
  ⟨.none, none, .func (fnX 47 none "_law_cond" "_law_cond" 0 [] (.none) (.none) (.none) (.none) none (.none) (.none) 0), #[]⟩,
  ⟨.type "code", none, .fields #[.str "_law_cond" 812, .str "_law_cond" 813, .str "/claim/cut.py" 814, .int 323 0, .int 2 0, .int 0 0, .int 0 0, .int 3 0, .ref 445, .bool true, .int 181 0, .ref 446, .none, .ref 447, .ref 448, .ref 449, .int 822 0, .int 323 0, .str "/claim/cut.py" 823], #[]⟩,
  ⟨.type "function", none, .func (fnX 47 none "_law_cond" "_law_cond" 3 [] (.none) (.none) (.none) (.str "law_og0096_01" 743) none (.ref 450) (.none) 0), #[]⟩,
  ⟨.type "tuple", none, .seq #[] 0, #[]⟩,
  ⟨.none, none, .fields #[], #[]⟩,
  ⟨.none, none, .func (fnX 48 none "law" "law" 0 [] (.none) (.none) (.none) (.none) none (.none) (.none) 0), #[]⟩,
  ⟨.type "code", none, .fields #[.str "law" 825, .str "law" 826, .str "/claim/cut.py" 827, .int 332 0, .int 1 0, .int 0 0, .int 0 0, .int 3 0, .ref 452, .bool true, .int 181 0, .ref 453, .none, .none, .none, .ref 454, .int 828 0, .int 332 0, .str "/claim/cut.py" 829], #[]⟩,
  ⟨.type "function", none, .func (fnX 48 none "law" "law" 3 [] (.none) (.none) (.none) (.str "law_og0096_01" 743) none (.ref 455) (.none) 0), #[]⟩]
noncomputable def tT5 (P : Params) : BT := updL (tU5 P) (grow 12 (bootL P ++ tNa P ++ tN1 P ++ tN2 P ++ tN3 P ++ tN4 P ++ tN5 P))
noncomputable def tS5 (w : World) (os : OsState) : SharedT := ⟨tT5 w.params, 457, (boot_heap w.params).life, Array.mk [], boot_drawn, 831, os⟩

noncomputable def env0 : Env := { scope := pw.main.scope, locals := mainNs, globals := mainNs, cells := [], code := .ref 13, frame := some 14 }
noncomputable def body0 : List Stmt := behindTheImports pw
noncomputable def grp (a b : Nat) : List Stmt := (body0.drop a).take b
noncomputable abbrev code0 : Code := .body body0 env0
noncomputable abbrev pos0 : Pos := ⟨0, 0, 0, 0⟩
noncomputable abbrev fr0 : List Frame := [topFrame pos0]
theorem body_is : body0 = grp 0 6 ++ (grp 6 2 ++ (grp 8 8 ++ (grp 16 23 ++ (grp 39 10 ++ [])))) := by kernel_rfl
noncomputable abbrev piece (w : World) (n a b : Nat) (s s' : SharedT) (p p' : Pos) : Prop := segRunT treeTable pw w 11 ann0 1 n s (piecesOf (grp a b) env0 code0 p fr0) = some (.next, s', code0, p')
theorem pc_pre (w : World) (os : OsState) : topGo treeTable pw w 11 ann0 12 ⟨boot_heap w.params, Array.mk [], boot_drawn, boot_toks, os⟩ (topStub pw) = some ((tSa w os).abs, ⟨denote treeTable code0, code0, pos0, fr0⟩) := by kernel_rfl
theorem pc_blk (w : World) (os : OsState) : segRunT treeTable pw w 11 ann0 1 1 (tSa w os) (blockOf body0 env0 code0 pos0 fr0) = some (.next, tSa w os, code0, pos0) := by kernel_rfl
theorem pc_1 (w : World) (os : OsState) : piece w 536 0 6 (tSa w os) (tS1 w os) pos0 ⟨17, 0, 17, 6⟩ := by kernel_rfl
theorem pc_2 (w : World) (os : OsState) : piece w 522 6 2 (tS1 w os) (tS2 w os) ⟨17, 0, 17, 6⟩ ⟨29, 0, 36, 37⟩ := by kernel_rfl
theorem pc_3 (w : World) (os : OsState) : piece w 801 8 8 (tS2 w os) (tS3 w os) ⟨29, 0, 36, 37⟩ ⟨116, 0, 117, 73⟩ := by kernel_rfl
theorem pc_4 (w : World) (os : OsState) : piece w 614 16 23 (tS3 w os) (tS4 w os) ⟨116, 0, 117, 73⟩ ⟨233, 0, 233, 8⟩ := by kernel_rfl
theorem pc_5 (w : World) (os : OsState) : piece w 583 39 10 (tS4 w os) (tS5 w os) ⟨233, 0, 233, 8⟩ ⟨332, 0, 341, 15⟩ := by kernel_rfl
noncomputable def topH (P : Params) : Heap := absHeap (tT5 P) 457 (boot_heap P).life
noncomputable abbrev topS (w : World) (os : OsState) : Shared := ⟨topH w.params, Array.mk [], boot_drawn, 831, os⟩
theorem pc_fin (w : World) (os : OsState) : topRun treeTable pw w 11 ann0 2 (topS w os) ⟨doneF .next, code0, ⟨332, 0, 341, 15⟩, fr0⟩ = some (topS w os) := by kernel_rfl
theorem abs5 (w : World) (os : OsState) : (tS5 w os).abs = topS w os := rfl
theorem top_run (w : World) (os : OsState) : topRun treeTable pw w 11 ann0 (12 + (1 + (536 + (522 + (801 + (614 + (583 + 2))))))) ⟨boot_heap w.params, Array.mk [], boot_drawn, boot_toks, os⟩ (topStub pw) = some (topS w os) := by
  have k5 := segRun_of (pc_5 w os)
  rw [abs5] at k5
  have k5 := piece_app (rest := []) k5 (piece_nil (pc_fin w os))
  have k4 := piece_app (segRun_of (pc_4 w os)) k5
  have k3 := piece_app (segRun_of (pc_3 w os)) k4
  have k2 := piece_app (segRun_of (pc_2 w os)) k3
  have k1 := piece_app (segRun_of (pc_1 w os)) k2
  rw [← body_is] at k1
  exact go_top (pc_pre w os) (piece_block (segRun_of (pc_blk w os)) k1)
/-- what is looked at behind the top -/
noncomputable def obsN (s : Shared) : (List (Option Obj) × List (Option Value) × List Bool × List (Option Value) × Nat) × Bool := (obsM s, (s.heap.get? sysModules).isSome)
noncomputable def valN (w : World) : (List (Option Obj) × List (Option Value) × List Bool × List (Option Value) × Nat) × Bool := (valM w, true)
theorem lk_1 (w : World) (os : OsState) : (staticsOk (importedModules pw.main.body) (boot_heap w.params) (topH w.params) && namesBound pw (topH w.params) && gensDone (topS w os) && laidKept (boot_heap w.params) (topH w.params)) = true := by kernel_rfl
theorem lk_2 (w : World) (os : OsState) : openSeen vw lse (importedModules pw.main.body) Xt0 true (topS w os) = openGood vw lse := by kernel_rfl
theorem lk_3 (w : World) (os : OsState) : obsN (topS w os) = valN w := by kernel_rfl
theorem hl : LeftO pw vw lse Xt0 obsN valN 7000 := LeftO.of_pieces opn size0 top_run (by rfl) fun w => funext fun os => looks_pair (lk_1 w os) (looks_pair (lk_2 w os) (lk_3 w os))
end Mine
end
section
open PySem PySem.W PyProof.Rows
set_option Elab.async false
namespace Mine
set_option maxRecDepth 100000
/-! what a call binds -/
noncomputable def zipV : List Arg → List Value → List (Str × Value)
  | p :: ps, v :: vs => (p.arg, v) :: zipV ps vs
  | _, _ => []
noncomputable def BdOk (P : Params) (S : Setting) (f : FnI) : Prop := ∀ us : List Value, us.length = f.params.args.length → peek (KF P) S (bindArgs f.fd ⟨us, []⟩) = some (zipV f.params.args us)
theorem len0 {us : List Value} (h : us.length = 0) : us = [] := List.eq_nil_of_length_eq_zero h
theorem lenS {us : List Value} {n : Nat} (h : us.length = n + 1) : ∃ a r, us = a :: r ∧ r.length = n := by
  cases us with
  | nil => cases h
  | cons a r => exact ⟨a, r, rfl, Nat.succ.inj h⟩
theorem len1 {us : List Value} (h0 : us.length = 1) : ∃ a, us = [a] := by
  obtain ⟨a, r, rfl, h1⟩ := lenS h0
  obtain rfl := len0 h1
  exact ⟨a, rfl⟩
theorem len2 {us : List Value} (h0 : us.length = 2) : ∃ a b, us = [a, b] := by
  obtain ⟨a, r, rfl, h1⟩ := lenS h0
  obtain ⟨b, rfl⟩ := len1 h1
  exact ⟨a, b, rfl⟩
theorem len3 {us : List Value} (h0 : us.length = 3) : ∃ a b c, us = [a, b, c] := by
  obtain ⟨a, r, rfl, h1⟩ := lenS h0
  obtain ⟨b, c, rfl⟩ := len2 h1
  exact ⟨a, b, c, rfl⟩
theorem len4 {us : List Value} (h0 : us.length = 4) : ∃ a b c d, us = [a, b, c, d] := by
  obtain ⟨a, r, rfl, h1⟩ := lenS h0
  obtain ⟨b, c, d, rfl⟩ := len3 h1
  exact ⟨a, b, c, d, rfl⟩
theorem len6 {us : List Value} (h0 : us.length = 6) : ∃ a b c d e f, us = [a, b, c, d, e, f] := by
  obtain ⟨a, r, rfl, h1⟩ := lenS h0
  obtain ⟨b, r, rfl, h2⟩ := lenS h1
  obtain ⟨c, d, e, f, rfl⟩ := len4 h2
  exact ⟨a, b, c, d, e, f, rfl⟩
theorem len9 {us : List Value} (h0 : us.length = 9) : ∃ a b c d e f g i j, us = [a, b, c, d, e, f, g, i, j] := by
  obtain ⟨a, r, rfl, h1⟩ := lenS h0
  obtain ⟨b, r, rfl, h2⟩ := lenS h1
  obtain ⟨c, r, rfl, h3⟩ := lenS h2
  obtain ⟨d, e, f, g, i, j, rfl⟩ := len6 h3
  exact ⟨a, b, c, d, e, f, g, i, j, rfl⟩
theorem binds_all (P : Params) (S : Setting) : ∀ f ∈ fnL, BdOk P S f := by
  refine List.forall_mem_cons.mpr ⟨fun us h => ?_, ?_⟩
  · obtain ⟨a, b, c, rfl⟩ := len3 (h.trans (show _ = 3 from by kernel_rfl))
    kernel_rfl
  refine List.forall_mem_cons.mpr ⟨fun us h => ?_, ?_⟩
  · obtain ⟨a, b, c, d, e, f, rfl⟩ := len6 (h.trans (show _ = 6 from by kernel_rfl))
    kernel_rfl
  refine List.forall_mem_cons.mpr ⟨fun us h => ?_, ?_⟩
  · obtain ⟨a, b, c, rfl⟩ := len3 (h.trans (show _ = 3 from by kernel_rfl))
    kernel_rfl
  refine List.forall_mem_cons.mpr ⟨fun us h => ?_, ?_⟩
  · obtain ⟨a, b, c, rfl⟩ := len3 (h.trans (show _ = 3 from by kernel_rfl))
    kernel_rfl
  refine List.forall_mem_cons.mpr ⟨fun us h => ?_, ?_⟩
  · obtain ⟨a, b, rfl⟩ := len2 (h.trans (show _ = 2 from by kernel_rfl))
    kernel_rfl
  refine List.forall_mem_cons.mpr ⟨fun us h => ?_, ?_⟩
  · obtain ⟨a, rfl⟩ := len1 (h.trans (show _ = 1 from by kernel_rfl))
    kernel_rfl
  refine List.forall_mem_cons.mpr ⟨fun us h => ?_, ?_⟩
  · obtain ⟨a, rfl⟩ := len1 (h.trans (show _ = 1 from by kernel_rfl))
    kernel_rfl
  refine List.forall_mem_cons.mpr ⟨fun us h => ?_, ?_⟩
  · obtain ⟨a, rfl⟩ := len1 (h.trans (show _ = 1 from by kernel_rfl))
    kernel_rfl
  refine List.forall_mem_cons.mpr ⟨fun us h => ?_, ?_⟩
  · obtain ⟨a, rfl⟩ := len1 (h.trans (show _ = 1 from by kernel_rfl))
    kernel_rfl
  refine List.forall_mem_cons.mpr ⟨fun us h => ?_, ?_⟩
  · obtain ⟨a, rfl⟩ := len1 (h.trans (show _ = 1 from by kernel_rfl))
    kernel_rfl
  refine List.forall_mem_cons.mpr ⟨fun us h => ?_, ?_⟩
  · obtain ⟨a, rfl⟩ := len1 (h.trans (show _ = 1 from by kernel_rfl))
    kernel_rfl
  refine List.forall_mem_cons.mpr ⟨fun us h => ?_, ?_⟩
  · obtain ⟨a, rfl⟩ := len1 (h.trans (show _ = 1 from by kernel_rfl))
    kernel_rfl
  refine List.forall_mem_cons.mpr ⟨fun us h => ?_, ?_⟩
  · obtain ⟨a, rfl⟩ := len1 (h.trans (show _ = 1 from by kernel_rfl))
    kernel_rfl
  refine List.forall_mem_cons.mpr ⟨fun us h => ?_, ?_⟩
  · obtain ⟨a, b, rfl⟩ := len2 (h.trans (show _ = 2 from by kernel_rfl))
    kernel_rfl
  refine List.forall_mem_cons.mpr ⟨fun us h => ?_, ?_⟩
  · obtain ⟨a, b, rfl⟩ := len2 (h.trans (show _ = 2 from by kernel_rfl))
    kernel_rfl
  refine List.forall_mem_cons.mpr ⟨fun us h => ?_, ?_⟩
  · obtain ⟨a, b, rfl⟩ := len2 (h.trans (show _ = 2 from by kernel_rfl))
    kernel_rfl
  refine List.forall_mem_cons.mpr ⟨fun us h => ?_, ?_⟩
  · obtain ⟨a, b, c, rfl⟩ := len3 (h.trans (show _ = 3 from by kernel_rfl))
    kernel_rfl
  refine List.forall_mem_cons.mpr ⟨fun us h => ?_, ?_⟩
  · obtain ⟨a, b, c, rfl⟩ := len3 (h.trans (show _ = 3 from by kernel_rfl))
    kernel_rfl
  refine List.forall_mem_cons.mpr ⟨fun us h => ?_, ?_⟩
  · obtain ⟨a, b, rfl⟩ := len2 (h.trans (show _ = 2 from by kernel_rfl))
    kernel_rfl
  refine List.forall_mem_cons.mpr ⟨fun us h => ?_, ?_⟩
  · obtain ⟨a, b, rfl⟩ := len2 (h.trans (show _ = 2 from by kernel_rfl))
    kernel_rfl
  refine List.forall_mem_cons.mpr ⟨fun us h => ?_, ?_⟩
  · obtain ⟨a, b, rfl⟩ := len2 (h.trans (show _ = 2 from by kernel_rfl))
    kernel_rfl
  refine List.forall_mem_cons.mpr ⟨fun us h => ?_, ?_⟩
  · obtain ⟨a, b, c, rfl⟩ := len3 (h.trans (show _ = 3 from by kernel_rfl))
    kernel_rfl
  refine List.forall_mem_cons.mpr ⟨fun us h => ?_, ?_⟩
  · obtain ⟨a, b, rfl⟩ := len2 (h.trans (show _ = 2 from by kernel_rfl))
    kernel_rfl
  refine List.forall_mem_cons.mpr ⟨fun us h => ?_, ?_⟩
  · obtain ⟨a, b, rfl⟩ := len2 (h.trans (show _ = 2 from by kernel_rfl))
    kernel_rfl
  refine List.forall_mem_cons.mpr ⟨fun us h => ?_, ?_⟩
  · obtain ⟨a, b, rfl⟩ := len2 (h.trans (show _ = 2 from by kernel_rfl))
    kernel_rfl
  refine List.forall_mem_cons.mpr ⟨fun us h => ?_, ?_⟩
  · obtain ⟨a, b, rfl⟩ := len2 (h.trans (show _ = 2 from by kernel_rfl))
    kernel_rfl
  refine List.forall_mem_cons.mpr ⟨fun us h => ?_, ?_⟩
  · obtain ⟨a, rfl⟩ := len1 (h.trans (show _ = 1 from by kernel_rfl))
    kernel_rfl
  refine List.forall_mem_cons.mpr ⟨fun us h => ?_, ?_⟩
  · obtain ⟨a, rfl⟩ := len1 (h.trans (show _ = 1 from by kernel_rfl))
    kernel_rfl
  refine List.forall_mem_cons.mpr ⟨fun us h => ?_, ?_⟩
  · obtain ⟨a, b, rfl⟩ := len2 (h.trans (show _ = 2 from by kernel_rfl))
    kernel_rfl
  refine List.forall_mem_cons.mpr ⟨fun us h => ?_, ?_⟩
  · obtain ⟨a, b, rfl⟩ := len2 (h.trans (show _ = 2 from by kernel_rfl))
    kernel_rfl
  refine List.forall_mem_cons.mpr ⟨fun us h => ?_, ?_⟩
  · obtain ⟨a, b, rfl⟩ := len2 (h.trans (show _ = 2 from by kernel_rfl))
    kernel_rfl
  refine List.forall_mem_cons.mpr ⟨fun us h => ?_, ?_⟩
  · obtain ⟨a, b, c, d, e, f, g, h, i, rfl⟩ := len9 (h.trans (show _ = 9 from by kernel_rfl))
    kernel_rfl
  refine List.forall_mem_cons.mpr ⟨fun us h => ?_, ?_⟩
  · obtain ⟨a, b, rfl⟩ := len2 (h.trans (show _ = 2 from by kernel_rfl))
    kernel_rfl
  refine List.forall_mem_cons.mpr ⟨fun us h => ?_, ?_⟩
  · obtain ⟨a, b, c, d, rfl⟩ := len4 (h.trans (show _ = 4 from by kernel_rfl))
    kernel_rfl
  refine List.forall_mem_cons.mpr ⟨fun us h => ?_, ?_⟩
  · have h := len0 (h.trans (show _ = 0 from by kernel_rfl))
    subst h
    kernel_rfl
  refine List.forall_mem_cons.mpr ⟨fun us h => ?_, ?_⟩
  · obtain ⟨a, b, c, d, rfl⟩ := len4 (h.trans (show _ = 4 from by kernel_rfl))
    kernel_rfl
  refine List.forall_mem_cons.mpr ⟨fun us h => ?_, ?_⟩
  · obtain ⟨a, rfl⟩ := len1 (h.trans (show _ = 1 from by kernel_rfl))
    kernel_rfl
  refine List.forall_mem_cons.mpr ⟨fun us h => ?_, ?_⟩
  · obtain ⟨a, rfl⟩ := len1 (h.trans (show _ = 1 from by kernel_rfl))
    kernel_rfl
  refine List.forall_mem_cons.mpr ⟨fun us h => ?_, ?_⟩
  · obtain ⟨a, b, rfl⟩ := len2 (h.trans (show _ = 2 from by kernel_rfl))
    kernel_rfl
  refine List.forall_mem_cons.mpr ⟨fun us h => ?_, ?_⟩
  · obtain ⟨a, rfl⟩ := len1 (h.trans (show _ = 1 from by kernel_rfl))
    kernel_rfl
  exact fun f hf => (nomatch hf)
/-- the defaults, as they lie in the tuple -/
noncomputable def dfV (a : Addr) : List Value := match a with
  | 377 => [.none, .str "display" 690, .str "trailing" 691, .bool false, .bool false, .bool false]
  | 299 => [.int 0 587]
  | 413 => [.int 1 755]
  | 430 => [.ref 421, .none, .ref 422]
  | 37 => [.ref 29]
  | _ => []
noncomputable def dfN (a : Addr) (n : Nat) : Nat := match a, n with
  | 377, 3 => 6
  | 299, 2 => 1
  | 413, 3 => 1
  | 430, 1 => 3
  | 430, 2 => 2
  | 37, 2 => 1
  | _, _ => 0
noncomputable def BdD (P : Params) (S : Setting) (f : FnI) : Prop := ∀ us : List Value, dfN f.at_ us.length ≠ 0 → peek (KF P) S (bindArgs f.fd ⟨us, []⟩) = some (zipV f.params.args (us ++ (dfV f.at_).drop ((dfV f.at_).length - dfN f.at_ us.length)))
theorem dfN_ne {a : Addr} {n : Nat} (h : dfN a n ≠ 0) : (a = 377 ∧ n = 3) ∨ (a = 299 ∧ n = 2) ∨ (a = 413 ∧ n = 3) ∨ (a = 430 ∧ n = 1) ∨ (a = 430 ∧ n = 2) ∨ (a = 37 ∧ n = 2) := by
  unfold dfN at h
  split at h <;> simp at h ⊢
noncomputable def hasD (a : Addr) : Bool := match a with
  | 377 | 299 | 413 | 430 | 37 => true
  | _ => false
theorem bd_no {P : Params} {S : Setting} {f : FnI} (h : hasD f.at_ = false) : BdD P S f := fun us q => by
  rcases dfN_ne q with ⟨e, _⟩ | ⟨e, _⟩ | ⟨e, _⟩ | ⟨e, _⟩ | ⟨e, _⟩ | ⟨e, _⟩ <;> (rw [e] at h; cases h)
theorem binds_dflt (P : Params) (S : Setting) : ∀ f ∈ fnL, BdD P S f := by
  refine List.forall_mem_cons.mpr ⟨fun us h => ?_, ?_⟩
  · rcases dfN_ne h with ⟨e, h⟩ | ⟨e, h⟩ | ⟨e, h⟩ | ⟨e, h⟩ | ⟨e, h⟩ | ⟨e, h⟩ <;> first | exact absurd e (by decide) | skip
    · obtain ⟨a, b, rfl⟩ := len2 h
      kernel_rfl
  refine List.forall_mem_cons.mpr ⟨bd_no (by rfl), ?_⟩
  refine List.forall_mem_cons.mpr ⟨bd_no (by rfl), ?_⟩
  refine List.forall_mem_cons.mpr ⟨bd_no (by rfl), ?_⟩
  refine List.forall_mem_cons.mpr ⟨bd_no (by rfl), ?_⟩
  refine List.forall_mem_cons.mpr ⟨bd_no (by rfl), ?_⟩
  refine List.forall_mem_cons.mpr ⟨bd_no (by rfl), ?_⟩
  refine List.forall_mem_cons.mpr ⟨bd_no (by rfl), ?_⟩
  refine List.forall_mem_cons.mpr ⟨bd_no (by rfl), ?_⟩
  refine List.forall_mem_cons.mpr ⟨bd_no (by rfl), ?_⟩
  refine List.forall_mem_cons.mpr ⟨bd_no (by rfl), ?_⟩
  refine List.forall_mem_cons.mpr ⟨bd_no (by rfl), ?_⟩
  refine List.forall_mem_cons.mpr ⟨bd_no (by rfl), ?_⟩
  refine List.forall_mem_cons.mpr ⟨bd_no (by rfl), ?_⟩
  refine List.forall_mem_cons.mpr ⟨bd_no (by rfl), ?_⟩
  refine List.forall_mem_cons.mpr ⟨bd_no (by rfl), ?_⟩
  refine List.forall_mem_cons.mpr ⟨bd_no (by rfl), ?_⟩
  refine List.forall_mem_cons.mpr ⟨bd_no (by rfl), ?_⟩
  refine List.forall_mem_cons.mpr ⟨bd_no (by rfl), ?_⟩
  refine List.forall_mem_cons.mpr ⟨bd_no (by rfl), ?_⟩
  refine List.forall_mem_cons.mpr ⟨bd_no (by rfl), ?_⟩
  refine List.forall_mem_cons.mpr ⟨fun us h => ?_, ?_⟩
  · rcases dfN_ne h with ⟨e, h⟩ | ⟨e, h⟩ | ⟨e, h⟩ | ⟨e, h⟩ | ⟨e, h⟩ | ⟨e, h⟩ <;> first | exact absurd e (by decide) | skip
    · obtain ⟨a, b, rfl⟩ := len2 h
      kernel_rfl
  refine List.forall_mem_cons.mpr ⟨bd_no (by rfl), ?_⟩
  refine List.forall_mem_cons.mpr ⟨bd_no (by rfl), ?_⟩
  refine List.forall_mem_cons.mpr ⟨bd_no (by rfl), ?_⟩
  refine List.forall_mem_cons.mpr ⟨bd_no (by rfl), ?_⟩
  refine List.forall_mem_cons.mpr ⟨bd_no (by rfl), ?_⟩
  refine List.forall_mem_cons.mpr ⟨bd_no (by rfl), ?_⟩
  refine List.forall_mem_cons.mpr ⟨bd_no (by rfl), ?_⟩
  refine List.forall_mem_cons.mpr ⟨bd_no (by rfl), ?_⟩
  refine List.forall_mem_cons.mpr ⟨bd_no (by rfl), ?_⟩
  refine List.forall_mem_cons.mpr ⟨fun us h => ?_, ?_⟩
  · rcases dfN_ne h with ⟨e, h⟩ | ⟨e, h⟩ | ⟨e, h⟩ | ⟨e, h⟩ | ⟨e, h⟩ | ⟨e, h⟩ <;> first | exact absurd e (by decide) | skip
    · obtain ⟨a, b, c, rfl⟩ := len3 h
      kernel_rfl
  refine List.forall_mem_cons.mpr ⟨bd_no (by rfl), ?_⟩
  refine List.forall_mem_cons.mpr ⟨fun us h => ?_, ?_⟩
  · rcases dfN_ne h with ⟨e, h⟩ | ⟨e, h⟩ | ⟨e, h⟩ | ⟨e, h⟩ | ⟨e, h⟩ | ⟨e, h⟩ <;> first | exact absurd e (by decide) | skip
    · obtain ⟨a, b, c, rfl⟩ := len3 h
      kernel_rfl
  refine List.forall_mem_cons.mpr ⟨bd_no (by rfl), ?_⟩
  refine List.forall_mem_cons.mpr ⟨fun us h => ?_, ?_⟩
  · rcases dfN_ne h with ⟨e, h⟩ | ⟨e, h⟩ | ⟨e, h⟩ | ⟨e, h⟩ | ⟨e, h⟩ | ⟨e, h⟩ <;> first | exact absurd e (by decide) | skip
    · obtain ⟨a, rfl⟩ := len1 h
      kernel_rfl
    · obtain ⟨a, b, rfl⟩ := len2 h
      kernel_rfl
  refine List.forall_mem_cons.mpr ⟨bd_no (by rfl), ?_⟩
  refine List.forall_mem_cons.mpr ⟨bd_no (by rfl), ?_⟩
  refine List.forall_mem_cons.mpr ⟨bd_no (by rfl), ?_⟩
  refine List.forall_mem_cons.mpr ⟨bd_no (by rfl), ?_⟩
  exact fun f hf => (nomatch hf)
end Mine
end
section
open PySem PySem.W PyProof.Rows
set_option Elab.async false
namespace Mine
set_option maxRecDepth 100000
/-! an exception of the text's own class, with a method that readies it: made -/
theorem cls60 (P : Params) : (KF P).lookup 60 = some (excClassObj "CheckFault" "CheckFault" 60 59 [.ref 47] [.ref 47, .type "Exception", .type "BaseException", .type "object"] true [] [] false none none (some (.ref 51)) none (some (.str "CheckFault" 236)) (some (.str "CheckFault" 244)) (some (.bool true)) "Exception.__new__") := by kernel_rfl
theorem exc_init_facts (P : Params) : (findIn (KF P) (.ref 60) "__init__" == some (some (.ref 37)) && typeIn (KF P) (.ref 37) == some (.type "function")) = true := by kernel_rfl
noncomputable abbrev excNew (t : Addr) : Obj := { cls := .ref 60, data := .fields #[.ref t, .none, .none, .none, .bool false, .none] }
noncomputable abbrev tupNew (l : List Value) : Obj := { cls := .type "tuple", data := .seq l.toArray }
noncomputable abbrev bm60 : List Value := [.ref 47, .type "Exception", .type "BaseException", .type "object"]
section
variable {M : Model} {A : Around} {E : Value → Shared → Prop} {h : Heap} {g : Array GenState} {d : Drawn} {t : Nat} {os : OsState} {nm q : Str} {C N : Addr} {bs : List Value} {hdct : Bool} {sn : List Str} {sub : List Value} {ab : Bool} {col : Option Bool} {dd : Option Addr} {k0 k1 k2 k3 k5 : Option Value}
theorem has_exc : (Value.ref C :: bm60).contains (.type "Exception") = true := by simp [bm60]
theorem check_newX {rest : List Value} {Q : Unit → Shared → Prop} (hC : h.get? C = some (excClassObj nm q C N bs bm60 hdct sn sub ab col dd k0 k1 k2 k3 k5 "Exception.__new__")) (hq : Q () ⟨h, g, d, t, os⟩) :
    wpAny M A (checkBuiltinCall "Exception.__new__" ⟨.ref C :: rest, []⟩) Q E ⟨h, g, d, t, os⟩ := by
  have F := PySem.F.excBase_Exception
  have hcont := has_exc (C := C)
  have hstar := F.noStar
  simp only [checkBuiltinCall, F.newKind, F.newSplit, F.newRow]
  repeat (first | refine wpAny_loadPart_at hC ?_ | (refine wpAny_isSubtype_exc hC ?_; rw [hcont]) | refine wpAny_staticBase_exc hC ?_ | refine wpAny_madeBy_exc hC ?_ | simp only [bne_self_eq_false, Bool.false_eq_true, if_false] | wp_step)
  exact hq
theorem check_initX {e : Addr} {oe : Obj} {rest : List Value} {Q : Unit → Shared → Prop} (hC : h.get? C = some (excClassObj nm q C N bs bm60 hdct sn sub ab col dd k0 k1 k2 k3 k5 "Exception.__new__")) (he : h.get? e = some oe) (hcls : oe.cls = .ref C) (hq : Q () ⟨h, g, d, t, os⟩) :
    wpAny M A (checkBuiltinCall "Exception.__init__" ⟨.ref e :: rest, []⟩) Q E ⟨h, g, d, t, os⟩ := by
  have F := PySem.F.excBase_Exception
  have hcB := has_exc (C := C)
  have hshort := F.noStar
  simp only [checkBuiltinCall, F.initKind, F.initSplit, F.initRow]
  repeat (first | (with_reducible refine wpAny_loadPart_at he ?_; rw [hcls]) | with_reducible refine wpAny_loadPart_at hC ?_ | (with_reducible refine wpAny_isSubtype_exc hC ?_; rw [hcB]) | wp_step)
  refine wpAny_onRaise ?_
  rw [show ∀ (a b : String) (n : Nat), Bind.check ⟨.positional, "*", "Exception", .self, [⟨"args", .varPos, false⟩]⟩ a b n (List.map (fun x => x.fst) ({ pos := Value.ref e :: rest } : Args).kw) = pure () from
    fun a b n => check_star_args _ _ _ _ _ _]
  exact wpAny_pure hq
end
section
variable {prog : Program} {w : World} {A : Around} {R : Result → Shared → Prop} {h : Heap} {g : Array GenState} {d : Drawn} {t : Nat} {os : OsState} {nm q : Str} {C N : Addr} {bs : List Value} {hdct : Bool} {sn : List Str} {sub : List Value} {ab : Bool} {col : Option Bool} {dd : Option Addr} {k0 k1 k2 k3 k5 : Option Value}
theorem exc_newX {rest : List Value} (hC : h.get? C = some (excClassObj nm q C N bs bm60 hdct sn sub ab col dd k0 k1 k2 k3 k5 "Exception.__new__"))
    (hq : R (.ok (.ret (.ref (h.objs.size + 1)))) ⟨(h.push { cls := .type "tuple", data := .seq rest.toArray }).push { cls := .ref C, data := .fields #[.ref h.objs.size, .none, .none, .none, .bool false, .none] }, g, d, t, os⟩) (hrest : rest.length ≤ sizeLine) :
    codeAny (model prog w) A (.builtin "Exception.__new__" ⟨.ref C :: rest, []⟩) R ⟨h, g, d, t, os⟩ := by
  have F := PySem.F.excBase_Exception
  have hends := F.ends
  have hcB := has_exc (C := C)
  have hcA : (Value.ref C :: bm60).contains (.type "AttributeError") = false := by simp [bm60]
  have hcN : (Value.ref C :: bm60).contains (.type "NameError") = false := by simp [bm60]
  refine PySem.codeAny_builtinAt F.entry ?_
  unfold Builtin.«BaseException.__new__»
  refine PySem.wpAt_bind ?_
  show PySem.wpAt _ _ _ (stack >>= _) _ _ _
  refine PySem.wpAt_bind (PySem.wpAt_stack fun p below => PySem.wpAt_of_wpAny ?_)
  wp_walk
  refine PySem.wpAt_of_wpAny ?_
  rw [F.owner]
  repeat (first | with_reducible refine wpAny_madeHere_exc F.canon hC ?_ | with_reducible refine wpAny_loadPart_at hC ?_ | (with_reducible refine wpAny_isSubtype_exc hC ?_; first | rw [hcB] | rw [hcA] | rw [hcN]) | wp_step)
  show R _ _
  rw [Heap.size_push]
  exact hq
end
section
variable {w : World} {A : Around} {R : Result → Shared → Prop} {h : Heap} {g : Array GenState} {d : Drawn} {t : Nat} {os : OsState}
theorem exc_core {rest : List Value} (X : (KF w.params).In h) (hrest : rest.length ≤ sizeLine)
    (hq : codeAny (model pw w) (A.under (.builtin "type.__call__" ⟨.ref 60 :: rest, []⟩)) (.call (.ref 37) ⟨.ref (h.objs.size + 1) :: rest, []⟩) (InitBack (h.objs.size + 1) R) ⟨(h.push (tupNew rest)).push (excNew h.objs.size), g, d, t, os⟩) :
    codeAny (model pw w) A (.call (.ref 60) ⟨rest, []⟩) R ⟨h, g, d, t, os⟩ := by
  have hC := X _ _ (cls60 w.params)
  have f1 := tc_lookup
  have f2 := tc_bind (.ref 60)
  have hT : (⟨h, g, d, t, os⟩ : Shared).TypeIs (.ref 60) "type" := ⟨_, hC, rfl⟩
  have F := PySem.F.excBase_Exception
  refine codeAny_of_tree ?_
  show wpAny _ _ (callAny (.ref 60) _) _ _ _
  repeat (any_goals (first | assumption | with_reducible refine wpAny_loadPart_at hC ?_ | wp_step))
  refine ⟨rfl, ?_⟩
  refine codeAny_call_builtin_at (Code.quiet_builtin _ (by decide +kernel)) entry_typeCall (wpAny_check_type_call_sub hC ?_)
  repeat (first | with_reducible refine wpAny_loadPart_at hC ?_ | with_reducible refine wpAny_madeBy_exc hC ?_ | wp_step)
  refine codeAny_call_builtin_code (Code.quiet_builtin _ F.quiet) (check_newX hC ?_)
  refine exc_newX hC ?_ hrest
  show wpAny _ _ _ _ _ _
  have up : ∀ b o, h.get? b = some o → ((h.push (tupNew rest)).push (excNew h.objs.size)).get? b = some o := fun b o e => Heap.get?_push_of_some _ (Heap.get?_push_of_some _ e)
  have X₁ : (KF w.params).In ((h.push (tupNew rest)).push (excNew h.objs.size)) := X.keeps up
  have hC₁ := up _ _ hC
  have hget : ((h.push (tupNew rest)).push (excNew h.objs.size)).get? (h.objs.size + 1) = some { cls := .ref 60, data := .fields #[.ref h.objs.size, .none, .none, .none, .bool false, .none] } := by heap_get
  have hcC : (Value.ref 60 :: [Value.ref 47, .type "Exception", .type "BaseException", .type "object"]).contains (.ref 60) = true := by simp
  have fi := exc_init_facts w.params
  simp only [Bool.and_eq_true, beq_iff_eq] at fi
  have L1 := looks_findIn (M := model pw w) X₁ fi.1
  have L2 := bind_fn (M := model pw w) X₁ (.ref (h.objs.size + 1)) fi.2
  unfold isInstance
  repeat (first | with_reducible refine wpAny_loadPart_at hget ?_ | wp_step)
  refine wpAny_isSubtype_exc hC₁ ?_
  rw [hcC]
  repeat (first | with_reducible refine wpAny_loadPart_at hget ?_ | wp_step)
  show wpAny _ _ (typeLookup (.ref 60) _) _ _ _
  refine L1.at ?_
  refine wpAny_holding (wpAny_bind (L2.at ?_))
  refine wpAny_bind (wpAny_call (codeAny_mono hq fun r s' z => ?_))
  rcases r with e | (v | _ | _ | _) <;> first | exact z | exact z.elim | skip
  obtain ⟨rfl, z⟩ := z
  exact wpAny_pure (wpAny_pure z)
end
end Mine
end
section
open PySem PySem.W PyProof.Rows
set_option Elab.async false
namespace Mine
set_option maxRecDepth 100000
open Builtin.ObjectAttr
/-! an exception's own dict: a store -/
theorem exc_pass (self : Value) : refuseLoop self "__setattr__" [.type "Exception", .type "BaseException", .type "object"] = pure () := by kernel_rfl
theorem exc_sa (P : Params) : findIn (KF P) (.ref 60) "__setattr__" = some (some (.builtin "object.__setattr__")) := by
  have : (findIn (KF P) (.ref 60) "__setattr__" == some (some (.builtin "object.__setattr__"))) = true := by kernel_rfl
  exact beq_iff_eq.mp this
theorem exc_what (P : Params) : findIn (KF P) (.ref 60) "what" = some none := by
  have : (findIn (KF P) (.ref 60) "what" == some none) = true := by kernel_rfl
  exact beq_iff_eq.mp this
theorem exc_at (P : Params) : findIn (KF P) (.ref 60) "at" = some none := by
  have : (findIn (KF P) (.ref 60) "at" == some none) = true := by kernel_rfl
  exact beq_iff_eq.mp this
theorem exc_mro (P : Params) : mroIn (KF P) 60 (.type "object") = some true := by
  have : (mroIn (KF P) 60 (.type "object") == some true) = true := by kernel_rfl
  exact beq_iff_eq.mp this
section
variable {w : World} {A : Around} {h : Heap} {g : Array GenState} {d : Drawn} {t : Nat} {os : OsState} {e : Addr} {name : Str} {v : Value} {mA : Str → Option Value}
noncomputable def AfterSet (h h' : Heap) (e : Addr) (name : Str) (v : Value) (mA : Str → Option Value) : Prop :=
  h'.Inst e 60 (fun y => if y = name then some v else mA y) ∧ (∀ b o, b ≠ e → (∀ o₀ dx, h.get? e = some o₀ → o₀.dict = some dx → b ≠ dx) → h.get? b = some o → h'.get? b = some o) ∧
      (∀ o₀, h.get? e = some o₀ → ∃ o₁ dx, h'.get? e = some o₁ ∧ o₁.cls = o₀.cls ∧ o₁.data = o₀.data ∧ o₁.dict = some dx ∧ (o₀.dict = none → h.objs.size ≤ dx) ∧ ∀ dx', o₀.dict = some dx' → dx = dx')
theorem exc_store {tk : Tok} {R : Result → Shared → Prop} {ns : List Str} (X : (KF w.params).In h) (hname : findIn (KF w.params) (.ref 60) name = some none) (I : h.Inst e 60 mA)
    (hq : ∀ h' tk', AfterSet h h' e name v mA → R (.ok (.ret .none)) ⟨h', g, d, tk', os⟩) (hw : Within mA ns) (hsz : ns.length ≤ 100) :
    codeAny (model pw w) A (.call (.builtin "object.__setattr__") ⟨[.ref e, .str name tk, v], []⟩) R ⟨h, g, d, t, os⟩ := by
  obtain ⟨o, hx, hc, hnc, hdc⟩ := I
  have hC := X _ _ (cls60 w.params)
  have SF := PySem.F.store_object
  have T : Looks (model pw w) h (typeOf (.ref e)) (.ref 60) := hc ▸ (Looks.ld hx).andThen .now
  have sub : Looks (model pw w) h (isInstance (.ref e) (.type "object")) true := T.andThen (looks_mroIn X (exc_mro w.params))
  have hm : Looks (model pw w) h (mroOf (.ref 60)) (.ref 60 :: bm60) := ((Looks.ld (part := none) hC).andThen .now).andThen .now
  have L2 := looks_findIn (M := model pw w) X hname
  refine codeAny_call_builtin SF.slot.plain SF.entry (@check_slot (model pw w) _ _ ⟨h, g, d, t, os⟩ "object.__setattr__" "object" "__setattr__" (.ref e) [.str name tk, v] [] _ SF.kind SF.split sub (SF.args (.ref e) (.str name tk) v) ?_)
  rw [osa_eq, refuse_eq]
  refine wpAny_bind (wpAny_bind (T.at (wpAny_bind (hm.at ?_))))
  rw [refuseLoop_ref, refuseLoop_ref, exc_pass]
  refine wpAny_pure (wpAny_bind (T.at (wpAny_bind (L2.at (wpAny_bind (wpAny_pure ?_))))))
  show wpAny _ _ (storeInOwnDict (.ref e) (.ref 60) (.str name tk) name v false) _ _ _
  unfold storeInOwnDict
  refine wpAny_bind (wpAny_pure ?_)
  rw [if_neg (by decide)]
  refine wpAny_bind ?_
  unfold ownDictForStores instanceDict
  refine wpAny_bind (wpAny_loadPart hx ?_)
  rw [hc]
  refine wpAny_bind ?_
  unfold classData
  refine wpAny_bind (wpAny_load hC (wpAny_pure ?_))
  dsimp only
  rw [if_neg (by decide)]
  rcases hdc with ⟨hdn, hmA⟩ | ⟨dx, hdx, hne, hns⟩
  · rw [hdn]
    dsimp only
    rw [if_neg (by simp [typeHasDict])]
    split
    · rename_i c hcd
      exact absurd hcd (hnc c)
    · have hx₁ : (h.push { cls := .type "dict", data := .dict #[] }).get? e = some o := Heap.get?_push_of_some _ hx
      have hxs : e ≠ h.objs.size := Nat.ne_of_lt (Heap.lt_size hx)
      refine wpAny_bind (wpAny_alloc ?_)
      refine wpAny_bind (wpAny_update hx₁ (wpAny_pure ?_))
      have hgd : ((h.push { cls := .type "dict", data := .dict #[] }).update e fun o => { cls := o.cls, dict := some h.objs.size, data := o.data, slots := o.slots }).get? h.objs.size = some { cls := .type "dict", data := .dict #[] } :=
        (Heap.get?_update_other _ _ hxs).trans (Heap.get?_push_at rfl rfl)
      have hnd : ((h.push { cls := .type "dict", data := .dict #[] }).update e fun o => { cls := o.cls, dict := some h.objs.size, data := o.data, slots := o.slots }).Ns h.objs.size (fun _ => none) :=
        ⟨_, #[], _, hgd, rfl, fun e he => absurd he (by simp), fun _ => rfl⟩
      have hge : ((h.push { cls := .type "dict", data := .dict #[] }).update e fun o => { cls := o.cls, dict := some h.objs.size, data := o.data, slots := o.slots }).get? e = some { cls := o.cls, dict := some h.objs.size, data := o.data, slots := o.slots } := by
        refine Heap.get?_update_self _ hx₁ ?_
        have hfr := (Heap.get?_some_iff.mp hx).2
        obtain ⟨oc, od, odt, osl⟩ := o
        cases odt <;> first | rfl | exact hfr
      show wpAny _ _ (storeInDict h.objs.size (.str name tk) name v) _ _ _
      unfold storeInDict newKeyGuard
      refine wpAny_bind (wpAny_pure (wpAny_bind (wpAny_nsSet1 (Heap.Ns1.of_empty hnd) fun h' hn' hs => ?_)))
      obtain ⟨oD, esD, epD, hoD, hdD, hcD⟩ := hn'.count (Within.cons name v Within.nil)
      refine wpAny_bind (wpAny_lookBehind hoD (by rw [hdD]; exact pastItsLine_dict (Nat.le_trans hcD (by rw [List.length_cons, List.length_nil, sizeLine_eq]; omega))) ?_)
      refine wpAny_pure (hq h' _ ⟨⟨_, (hs.2 e hxs).trans hge, hc, hnc, .inr ⟨h.objs.size, rfl, hxs.symm, ?_⟩⟩, fun b ob hbx _ hb => ?_, fun o₀ h₀ => ?_⟩)
      · obtain ⟨o', es, ep, e1, e2, e3, eu, e4⟩ := hn'
        exact ⟨o', es, ep, e1, e2, e3, eu, fun y => by rw [e4 y]; by_cases hy : y = name <;> simp [hy, hmA]⟩
      · exact (hs.2 b (Nat.ne_of_lt (Heap.lt_size hb))).trans ((Heap.get?_update_other _ _ (Ne.symm hbx)).trans (Heap.get?_push_of_some _ hb))
      · obtain rfl : o = o₀ := Option.some.inj (hx.symm.trans h₀)
        exact ⟨_, h.objs.size, (hs.2 e hxs).trans hge, rfl, rfl, rfl, fun _ => Nat.le_refl _, fun dx' z => by rw [hdn] at z; cases z⟩
  · rw [hdx]
    refine wpAny_pure ?_
    show wpAny _ _ (storeInDict dx (.str name tk) name v) _ _ _
    unfold storeInDict newKeyGuard
    refine wpAny_bind (wpAny_pure (wpAny_bind (wpAny_nsSet1 hns fun h' hn' hs => ?_)))
    obtain ⟨oD, esD, epD, hoD, hdD, hcD⟩ := hn'.count (Within.cons name v hw)
    refine wpAny_bind (wpAny_lookBehind hoD (by rw [hdD]; exact pastItsLine_dict (Nat.le_trans hcD (by rw [List.length_cons, sizeLine_eq]; omega))) ?_)
    refine wpAny_pure (hq h' _ ⟨⟨o, (hs.2 e hne.symm).trans hx, hc, hnc, .inr ⟨dx, hdx, hne, hn'⟩⟩, fun b ob _ hbd hb => (hs.2 b (hbd o dx hx hdx)).trans hb, fun o₀ h₀ => ?_⟩)
    obtain rfl : o = o₀ := Option.some.inj (hx.symm.trans h₀)
    exact ⟨o, dx, (hs.2 e hne.symm).trans hx, rfl, rfl, hdx, fun z => (by rw [hdx] at z; cases z), fun dx' z => (Option.some.inj (hdx.symm.trans z))⟩
/-- a store of an exception's attribute -/
theorem exc_set {E : Value → Shared → Prop} {Q : Unit → Shared → Prop} {ns : List Str} (X : (KF w.params).In h) (hname : findIn (KF w.params) (.ref 60) name = some none) (I : h.Inst e 60 mA)
    (hq : ∀ h' tk', AfterSet h h' e name v mA → Q () ⟨h', g, d, tk', os⟩) (hw : Within mA ns) (hsz : ns.length ≤ 100) : wpAny (model pw w) A (setAttr (.ref e) name v) Q E ⟨h, g, d, t, os⟩ := by
  obtain ⟨o, hx, hc, hnc, hdc⟩ := id I
  have T : Looks (model pw w) h (typeOf (.ref e)) (.ref 60) := hc ▸ (Looks.ld hx).andThen .now
  have L1 := looks_findIn (M := model pw w) X (exc_sa w.params)
  refine wpAny_bind (wpAny_mkText (wpAny_bind (wpAny_bind (wpAny_bind (T.at (L1.at (wpAny_holding ?_)))))))
  rw [PySem.F.store_object.slot.bind]
  refine wpAny_bind (wpAny_pure (wpAny_bind (wpAny_call (exc_store X hname I (fun h' tk' z => ?_) hw hsz))))
  exact wpAny_pure (wpAny_pure (hq h' tk' z))
/-- the base's readying: the arguments' tuple, laid anew -/
theorem exc_init {E : Value → Shared → Prop} {Q : Value → Shared → Prop} {t0 : Addr} {u : Value} (X : (KF w.params).In h) (he : h.get? e = some (excNew t0))
    (hq : ∀ h' t', (∀ b o, b ≠ e → h.get? b = some o → h'.get? b = some o) → h'.get? e = some (excNew t') → Q .none ⟨h', g, d, t, os⟩) : wpAny (model pw w) A (call (.builtin "Exception.__init__") [.ref e, u]) Q E ⟨h, g, d, t, os⟩ := by
  have F := PySem.F.excBase_Exception
  have hC := X _ _ (cls60 w.params)
  refine wpAny_call (codeAny_call_builtin F.init.plain F.initEntry (check_initX hC he rfl ?_))
  wp_walk
  show Q .none _
  refine hq _ h.objs.size (fun b o hb hbo => ?_) ?_
  · exact (Heap.get?_update_other _ _ (Ne.symm hb)).trans (Heap.get?_push_of_some _ hbo)
  · rw [Heap.get?_update_self _ (Heap.get?_push_of_some _ he) rfl]
    rfl
end
end Mine
end
section
open PySem PySem.W PyProof.Rows
set_option Elab.async false
set_option genInjectivity false
set_option genSizeOf false
set_option genSizeOfSpec false
namespace Mine
section
/-! abstract values, objects, the abstract heap and its ledger -/
inductive AV where
  | none | bool (b : Bool) | int (i : Int) | str (s : Str) | bytes (b : Array UInt8) | ref (i : Nat) | glob (a : Addr) | bi (s : String) | ty (s : String)
inductive AObj where
  | list (xs : List AV)
  | tup (xs : List AV)
  | inst (C : Addr) (fs : List (Str × AV))
  | dict (ps : List (Str × AV))
  | cell (v : Option AV)
  | exc (msg : Str)
  | src (q : List (Int × Int))
inductive VR (ρ : List Addr) : AV → Value → Prop
  | none : VR ρ .none .none
  | bool (b : Bool) : VR ρ (.bool b) (.bool b)
  | int (i : Int) (t : Tok) : VR ρ (.int i) (.int i t)
  | str (s : Str) (t : Tok) : VR ρ (.str s) (.str s t)
  | bytes (b : Array UInt8) (t : Tok) : VR ρ (.bytes b) (.bytes b t)
  | ref {i : Nat} {a : Addr} : ρ[i]? = some a → VR ρ (.ref i) (.ref a)
  | glob (a : Addr) : VR ρ (.glob a) (.ref a)
  | bi (s : String) : VR ρ (.bi s) (.builtin s)
  | ty (s : String) : VR ρ (.ty s) (.type s)
theorem VR.ext {ρ : List Addr} {v : AV} {u : Value} (x : VR ρ v u) (l : List Addr) : VR (ρ ++ l) v u := by
  cases x with
  | ref h => exact .ref (by rw [List.getElem?_append_left (List.getElem?_eq_some_iff.mp h).1]; exact h)
  | none => exact .none
  | bool b => exact .bool b
  | int i t => exact .int i t
  | str s t => exact .str s t
  | bytes b t => exact .bytes b t
  | glob a => exact .glob a
  | bi s => exact .bi s
  | ty s => exact .ty s
inductive VRs (ρ : List Addr) : List AV → List Value → Prop
  | nil : VRs ρ [] []
  | cons {v u vs us} : VR ρ v u → VRs ρ vs us → VRs ρ (v :: vs) (u :: us)
theorem VRs.ext {ρ : List Addr} {vs : List AV} {us : List Value} (x : VRs ρ vs us) (l : List Addr) : VRs (ρ ++ l) vs us := by
  induction x with
  | nil => exact .nil
  | cons h _ ih => exact .cons (h.ext l) ih
theorem VRs.length {ρ : List Addr} {vs : List AV} {us : List Value} (x : VRs ρ vs us) : us.length = vs.length := by
  induction x with
  | nil => rfl
  | cons _ _ ih => rw [List.length_cons, List.length_cons, ih]
theorem VRs.append {ρ : List Addr} {vs vs' : List AV} {us us' : List Value} (x : VRs ρ vs us) (y : VRs ρ vs' us') : VRs ρ (vs ++ vs') (us ++ us') := by
  induction x with
  | nil => exact y
  | cons h _ ih => exact .cons h ih
theorem VRs.get {ρ : List Addr} {vs : List AV} {us : List Value} (x : VRs ρ vs us) : ∀ {i : Nat} {v : AV}, vs[i]? = some v → ∃ u, us[i]? = some u ∧ VR ρ v u := by
  induction x with
  | nil => intro i v h; cases i <;> cases h
  | cons h _ ih =>
    intro i v e
    cases i with
    | zero => cases e; exact ⟨_, rfl, h⟩
    | succ i => exact ih (by simpa using e)
theorem VRs.split {ρ : List Addr} : ∀ {vs vs' : List AV} {us : List Value}, VRs ρ (vs ++ vs') us → ∃ a b, us = a ++ b ∧ VRs ρ vs a ∧ VRs ρ vs' b
  | [], _, us, h => ⟨[], us, rfl, .nil, h⟩
  | _ :: vs, vs', _, .cons h r => let ⟨a, b, e, x, y⟩ := VRs.split (vs := vs) r; ⟨_ :: a, b, by rw [e]; rfl, .cons h x, y⟩
theorem VRs.reverse {ρ : List Addr} {vs : List AV} {us : List Value} (x : VRs ρ vs us) : VRs ρ vs.reverse us.reverse := by
  induction x with
  | nil => exact .nil
  | cons h _ ih => rw [List.reverse_cons, List.reverse_cons]; exact ih.append (.cons h .nil)

/-- entries of a dict with written keys -/
inductive FR (P : Params) (ρ : List Addr) : List (Str × AV) → List DictEntry → Prop
  | nil : FR P ρ [] []
  | cons {x v t u fs es} : VR ρ v u → FR P ρ fs es → FR P ρ ((x, v) :: fs) (⟨PyData.keyHash P x, .str x t, u⟩ :: es)
theorem FR.ext {P : Params} {ρ : List Addr} {fs : List (Str × AV)} {es : List DictEntry} (x : FR P ρ fs es) (l : List Addr) : FR P (ρ ++ l) fs es := by
  induction x with
  | nil => exact .nil
  | cons h _ ih => exact .cons (h.ext l) ih
noncomputable def leq : List Nat → List Nat → Bool
  | [], [] => true
  | x :: r, y :: s => match Nat.beq x y with
    | true => leq r s
    | false => false
  | _, _ => false
theorem leq_iff : ∀ {a b : List Nat}, leq a b = true ↔ a = b
  | [], [] => ⟨fun _ => rfl, fun _ => rfl⟩
  | [], _ :: _ => ⟨fun h => Bool.noConfusion (h : false = true), fun h => List.noConfusion rfl (heq_of_eq h)⟩
  | _ :: _, [] => ⟨fun h => Bool.noConfusion (h : false = true), fun h => List.noConfusion rfl (heq_of_eq h)⟩
  | x :: r, y :: s => by
    show (match Nat.beq x y with | true => leq r s | false => false) = true ↔ _
    cases q : Nat.beq x y with
    | true => rw [Nat.eq_of_beq_eq_true q]; exact leq_iff.trans ⟨fun h => by rw [h], fun h => (List.cons.inj h).2⟩
    | false => exact ⟨fun h => Bool.noConfusion (h : false = true), fun h => absurd (List.cons.inj h).1 (Nat.ne_of_beq_eq_false q)⟩
noncomputable def sq (a b : Str) : Bool := leq a.cps.toList b.cps.toList
theorem sq_iff {a b : Str} : sq a b = true ↔ a = b := by
  unfold sq
  rw [leq_iff]
  cases a; cases b
  simp only [Str.mk.injEq]
  exact ⟨fun h => Array.ext' h, fun h => by rw [h]⟩
theorem sq_no {a b : Str} (h : sq a b = false) : a ≠ b := fun e => by rw [sq_iff.mpr e] at h; cases h
noncomputable def fget (x : Str) : List (Str × AV) → Option AV
  | [] => none
  | (y, v) :: r => match sq y x with
    | true => some v
    | false => fget x r
termination_by structural l => l
theorem fget_cons (x y : Str) (v : AV) (r : List (Str × AV)) : fget x ((y, v) :: r) = match sq y x with | true => some v | false => fget x r := rfl
noncomputable def fput (x : Str) (v : AV) : List (Str × AV) → List (Str × AV)
  | [] => [(x, v)]
  | (y, u) :: r => match sq y x with
    | true => (y, v) :: r
    | false => (y, u) :: fput x v r
termination_by structural l => l
theorem fput_cons (x y : Str) (v u : AV) (r : List (Str × AV)) : fput x v ((y, u) :: r) = match sq y x with | true => (y, v) :: r | false => (y, u) :: fput x v r := rfl
theorem isStr_str (y x : Str) (t : Tok) : (Value.str y t).isStr x = decide (y = x) := by
  unfold Value.isStr
  by_cases h : y = x
  · simp [h]
  · simp [h]
theorem FR.get {P : Params} {ρ : List Addr} {x : Str} : ∀ {fs : List (Str × AV)} {es : List DictEntry}, FR P ρ fs es → ∀ {v}, fget x fs = some v → ∃ u, getL x es = some (some u) ∧ VR ρ v u
  | _, _, .nil, _, h => by cases h
  | (y, w) :: r, ⟨_, .str _ t, u⟩ :: es, .cons hv hr, v, h => by
    rw [fget_cons] at h
    unfold getL
    rw [List.find?_cons]
    rw [isStr_str]
    cases q : sq y x with
    | true =>
      rw [q] at h; cases h
      rw [decide_eq_true (sq_iff.mp q)]
      exact ⟨u, rfl, hv⟩
    | false =>
      rw [q] at h
      rw [decide_eq_false (sq_no q)]
      obtain ⟨u', e, hv'⟩ := FR.get hr h
      refine ⟨u', ?_, hv'⟩
      unfold getL at e
      revert e
      cases List.find? (fun x_1 => x_1.key.isStr x) es with
      | some en => exact fun e => e
      | none =>
        dsimp only
        rw [List.any_cons]
        intro e
        split at e <;> cases e
theorem FR.miss {P : Params} {ρ : List Addr} {x : Str} : ∀ {fs : List (Str × AV)} {es : List DictEntry}, FR P ρ fs es → fget x fs = none → getL x es = some none
  | _, _, .nil, _ => rfl
  | (y, w) :: r, ⟨_, .str _ t, u⟩ :: es, .cons hv hr, h => by
    rw [fget_cons] at h
    cases q : sq y x with
    | true => rw [q] at h; cases h
    | false =>
      rw [q] at h
      have ih := FR.miss hr h
      unfold getL at ih ⊢
      rw [List.find?_cons, isStr_str, decide_eq_false (sq_no q), List.any_cons]
      exact ih
theorem FR.some_get {P : Params} {ρ : List Addr} {x : Str} {fs : List (Str × AV)} {es : List DictEntry} (h : FR P ρ fs es) : (getL x es).isSome = true := by
  cases q : fget x fs with
  | none => rw [h.miss q]; rfl
  | some v => obtain ⟨u, e, _⟩ := h.get q; rw [e]; rfl
theorem FR.put {P : Params} {ρ : List Addr} {x : Str} {v : AV} {u : Value} {t : Tok} (hu : VR ρ v u) : ∀ {fs : List (Str × AV)} {es : List DictEntry}, FR P ρ fs es → FR P ρ (fput x v fs) (putL x (PyData.keyHash P x) (.str x t) u es)
  | _, _, .nil => by show FR P ρ [(x, v)] [_]; exact .cons hu .nil
  | (y, w) :: r, ⟨_, .str _ t', u'⟩ :: es, .cons hv hr => by
    rw [fput_cons]
    unfold putL
    dsimp only
    rw [isStr_str]
    cases q : sq y x with
    | true => rw [decide_eq_true (sq_iff.mp q), if_pos rfl]; exact .cons hu hr
    | false => rw [decide_eq_false (sq_no q), if_neg (by decide)]; exact .cons hv (FR.put hu hr)
theorem FR.length {P : Params} {ρ : List Addr} {fs : List (Str × AV)} {es : List DictEntry} (x : FR P ρ fs es) : es.length = fs.length := by
  induction x with
  | nil => rfl
  | cons _ _ ih => rw [List.length_cons, List.length_cons, ih]

noncomputable abbrev cellObj (v : Option Value) : Obj := { cls := .type "cell", data := .cell v }
noncomputable abbrev tupOf (its : List Value) (n : Nat) : Obj := { cls := .type "tuple", data := .seq its.toArray n }
/-- the dict of a flown exception: what it tells -/
noncomputable def ExcD (od : Obj) (msg : Str) : Prop := ∃ t, lookIn "what" od = some (some (.str msg t))
inductive IntsV : List Int → List Value → Prop
  | nil : IntsV [] []
  | cons {i t is vs} : IntsV is vs → IntsV (i :: is) (.int i t :: vs)
/-- the draws that a source's cells will give from a place -/
noncomputable def DrawsOk (is : List Int) : Nat → List (Int × Int) → Prop
  | _, [] => True
  | n, (k, v) :: q => 0 < k ∧ (is.getD (n % is.length) 0 + 11 * ((n / is.length : Nat) : Int)) % k = v ∧ DrawsOk is (n + 1) q
/-- the ledger's entries of one abstract object -/
inductive OR (P : Params) (ρ : List Addr) : AObj → Addr → List (Addr × Obj) → Prop
  | list {xs its a n} : VRs ρ xs its → OR P ρ (.list xs) a [(a, listOf its.toArray n)]
  | tup {xs its a n} : VRs ρ xs its → OR P ρ (.tup xs) a [(a, tupOf its n)]
  | inst {C fs es a d n} : FR P ρ fs es → OR P ρ (.inst C fs) a [(a, instObj C d), (d, dictOf es n)]
  | dict {ps es a n} : FR P ρ ps es → OR P ρ (.dict ps) a [(a, dictOf es n)]
  | cellN {a o} : o.data = .cell none → OR P ρ (.cell none) a [(a, o)]
  | cellS {v u a o} : VR ρ v u → o.data = .cell (some u) → OR P ρ (.cell (some v)) a [(a, o)]
  | exc {msg e d oe od vs} : oe.cls = .ref 60 → oe.dict = some d → oe.data = .fields vs → vs[2]? = some .none → ExcD od msg → OR P ρ (.exc msg) e [(e, oe), (d, od)]
  | src {q a ca is vs at_ t n n'} : IntsV is vs → is ≠ [] → is.length ≤ 100 → at_ + q.length ≤ 1000 → DrawsOk is at_ q → OR P ρ (.src q) a [(a, listOf #[.ref ca, .int (at_ : Nat) t] n), (ca, listOf vs.toArray n')]
theorem OR.ext {P : Params} {ρ : List Addr} {ob : AObj} {a : Addr} {l : List (Addr × Obj)} (x : OR P ρ ob a l) (m : List Addr) : OR P (ρ ++ m) ob a l := by
  cases x with
  | list h => exact .list (h.ext m)
  | tup h => exact .tup (h.ext m)
  | inst h => exact .inst (h.ext m)
  | dict h => exact .dict (h.ext m)
  | cellN h => exact .cellN h
  | cellS h h' => exact .cellS (h.ext m) h'
  | exc a1 a2 a3 a4 a5 => exact .exc a1 a2 a3 a4 a5
  | src a1 a2 a3 a4 a5 => exact .src a1 a2 a3 a4 a5
noncomputable abbrev AHeap := List (Nat × AObj)
inductive Led (P : Params) (ρ : List Addr) : AHeap → List (Addr × Obj) → Prop
  | nil : Led P ρ [] []
  | cons {i ob a l H own} : ρ[i]? = some a → OR P ρ ob a l → Led P ρ H own → Led P ρ ((i, ob) :: H) (l ++ own)
theorem getx {ρ m : List Addr} {i : Nat} {a : Addr} (h : ρ[i]? = some a) : (ρ ++ m)[i]? = some a := by
  rw [List.getElem?_append_left (List.getElem?_eq_some_iff.mp h).1]; exact h
theorem Led.ext {P : Params} {ρ : List Addr} {H : AHeap} {own : List (Addr × Obj)} (x : Led P ρ H own) (m : List Addr) : Led P (ρ ++ m) H own := by
  induction x with
  | nil => exact .nil
  | cons h o _ ih => exact .cons (getx h) (o.ext m) ih
noncomputable def hget (i : Nat) : AHeap → Option AObj
  | [] => none
  | (j, ob) :: r => match Nat.beq j i with
    | true => some ob
    | false => hget i r
termination_by structural l => l
theorem hget_cons (i j : Nat) (ob : AObj) (r : AHeap) : hget i ((j, ob) :: r) = match Nat.beq j i with | true => some ob | false => hget i r := rfl
noncomputable def hset (i : Nat) (ob' : AObj) : AHeap → AHeap
  | [] => []
  | (j, ob) :: r => match Nat.beq j i with
    | true => (j, ob') :: r
    | false => (j, ob) :: hset i ob' r
termination_by structural l => l
theorem hset_cons (i j : Nat) (ob ob' : AObj) (r : AHeap) : hset i ob' ((j, ob) :: r) = match Nat.beq j i with | true => (j, ob') :: r | false => (j, ob) :: hset i ob' r := rfl
theorem Led.get {P : Params} {ρ : List Addr} {i : Nat} {ob : AObj} : ∀ {H : AHeap} {own : List (Addr × Obj)}, Led P ρ H own → hget i H = some ob →
    ∃ a l pre post, ρ[i]? = some a ∧ OR P ρ ob a l ∧ own = pre ++ l ++ post ∧ ∀ ob' l', OR P ρ ob' a l' → Led P ρ (hset i ob' H) (pre ++ l' ++ post)
  | _, _, .nil, h => by cases h
  | (j, ob₀) :: r, _, .cons (a := a) (l := l) (own := own) h o hr, e => by
    rw [hget_cons] at e
    cases q : Nat.beq j i with
    | true =>
      rw [q] at e; cases e
      have := Nat.eq_of_beq_eq_true q
      subst this
      refine ⟨a, l, [], own, h, o, by simp, fun ob' l' o' => ?_⟩
      rw [hset_cons, q]
      exact .cons h o' hr
    | false =>
      rw [q] at e
      obtain ⟨a', l', pre, post, h1, h2, h3, h4⟩ := Led.get hr e
      refine ⟨a', l', l ++ pre, post, h1, h2, by rw [h3]; simp [List.append_assoc], fun ob' l'' o' => ?_⟩
      rw [hset_cons, q]
      have := Led.cons h o (h4 ob' l'' o')
      simpa [List.append_assoc] using this

theorem upd_split {d : Addr} {o o' : Obj} : ∀ {pre post : List (Addr × Obj)}, ((pre ++ (d, o) :: post).map (·.1)).Nodup → Upd d o o' (pre ++ (d, o) :: post) (pre ++ (d, o') :: post)
  | [], post, h => .head fun p hp e => by
    rw [List.nil_append, List.map_cons, List.nodup_cons] at h
    exact h.1 (List.mem_map.mpr ⟨p, hp, e⟩)
  | p :: pre, post, h => by
    rw [List.cons_append, List.map_cons, List.nodup_cons] at h
    refine .tail (fun e => h.1 ?_) (upd_split h.2)
    rw [e]
    simp
theorem nodup_upd {d : Addr} {o o' : Obj} {pre post : List (Addr × Obj)} (h : ((pre ++ (d, o) :: post).map (·.1)).Nodup) : ((pre ++ (d, o') :: post).map (·.1)).Nodup := by
  simpa using h
end
end Mine
end
section
open PySem PySem.W PyProof.Rows
set_option Elab.async false
set_option genInjectivity false
set_option genSizeOf false
set_option genSizeOfSpec false
namespace Mine
section
/-! what the evaluator keeps; the frame; what the frame holds -/
structure HS where
  H : AHeap
  n : Nat
inductive Out (α : Type) where
  | ok (v : α) (hs : HS)
  | exc (msg : Str) (hs : HS)
noncomputable abbrev Loc := List (Str × AV)
structure CC where
  kind : Str → Option NameKind
  cells : List (Str × Nat)
  hand : Option Nat
noncomputable def obind {α β : Type} (x : Option (Out α)) (k : α → HS → Option (Out β)) : Option (Out β) := match x with
  | none => none
  | some (.exc m hs) => some (.exc m hs)
  | some (.ok v hs) => k v hs
noncomputable def avOf : Value → AV
  | .none => .none
  | .bool b => .bool b
  | .int i _ => .int i
  | .str s _ => .str s
  | .ref a => .glob a
  | .builtin s => .bi s
  | .type s => .ty s
  | _ => .none
noncomputable def glA : Loc := glL.map fun p => (p.1, avOf p.2)
noncomputable def blA : Loc := [("int", .ty "int"), ("len", .bi "len"), ("tuple", .ty "tuple"), ("range", .ty "range"), ("str", .ty "str"), ("Exception", .ty "Exception")]
noncomputable def evGlob (x : Str) : Option AV := match fget x glA with
  | some v => some v
  | none => fget x blA
noncomputable def cget (x : Str) : List (Str × Nat) → Option Nat
  | [] => none
  | (y, v) :: r => match sq y x with
    | true => some v
    | false => cget x r
termination_by structural l => l

structure Tp (w : World) (G : Heap) : Prop where
  X : (KF w.params).In G
  nl : G.NoLimit
  sm : G.get? sysModules ≠ none
  ns : ∃ mg mb, G.Ns mainGlobals mg ∧ G.Ns builtinsNs mb ∧ (∀ p ∈ glL, mg p.1 = some p.2) ∧ (∀ x ∈ noneL, mg x = none ∧ mb x = bootBuiltins x)
  code : ∀ f ∈ fnL, G.CodeRec (.ref f.code) f.qual
structure FC where
  w : World
  G : Heap
  L : Addr
  fenv : Env
  env : Env
  outer : List Env
  fs : List (Addr × (Str → Option Value))
  other : List (Addr × Obj)
  cc : CC
noncomputable def NsO (o : Obj) (m : Str → Option Value) : Prop := ∃ es ep, o.data = .dict es ep ∧ StrKeys es ∧ ∀ x, nsFind es x = m x
theorem NsO.ns {o : Obj} {m : Str → Option Value} (x : NsO o m) {h : Heap} {a : Addr} (e : h.get? a = some o) : h.Ns a m :=
  let ⟨es, ep, a1, a2, a3⟩ := x; ⟨o, es, ep, e, a1, a2, a3⟩
theorem nsO_of {h : Heap} {a : Addr} {m : Str → Option Value} (x : h.Ns a m) : ∃ o, h.get? a = some o ∧ NsO o m :=
  let ⟨o, es, ep, e, a1, a2, a3⟩ := x; ⟨o, e, es, ep, a1, a2, a3⟩
inductive FoR : List (Addr × (Str → Option Value)) → List (Addr × Obj) → Prop
  | nil : FoR [] []
  | cons {a m o fs fo} : NsO o m → FoR fs fo → FoR ((a, m) :: fs) ((a, o) :: fo)
inductive OuterOk : List Env → List (Addr × (Str → Option Value)) → Prop
  | nil : OuterOk [] []
  | cons {env : Env} {L m es fs} : env.scope.kind = .function → env.frame = some L → OuterOk es fs → OuterOk (env :: es) ((L, m) :: fs)
structure FC.Ok (c : FC) : Prop where
  top : Tp c.w c.G
  fL : c.fenv.frame = some c.L
  fK : c.fenv.scope.kind = .function
  out : OuterOk c.outer c.fs
  eK : c.env.scope.kind = .function
  eG : c.env.globals = mainGlobals
  eB : c.env.builtins = builtinsNs
  kind : ∀ x, c.env.kindOf x = c.cc.kind x
noncomputable def HandOk (c : FC) (ρ : List Addr) (Ar : Around) : Prop := match c.cc.hand with
  | none => Ar.handled = none
  | some i => ∃ e, Ar.handled = some (.ref e) ∧ ρ[i]? = some e
structure ArOk (c : FC) (ρ : List Addr) (Ar : Around) (k : Nat) : Prop where
  fr : Ar.frames = some (c.fenv :: c.outer)
  dp : Ar.depth + k < 990
  un : Ar.units + 20 * k < 9800
  hd : HandOk c ρ Ar
theorem HandOk.ext {c : FC} {ρ : List Addr} {Ar : Around} (h : HandOk c ρ Ar) (l : List Addr) : HandOk c (ρ ++ l) Ar := by
  unfold HandOk at h ⊢
  split at h
  · exact h
  · obtain ⟨e, a, b⟩ := h; exact ⟨e, a, getx b⟩
theorem ArOk.ext {c : FC} {ρ : List Addr} {Ar : Around} {k : Nat} (h : ArOk c ρ Ar k) (l : List Addr) : ArOk c (ρ ++ l) Ar k := ⟨h.fr, h.dp, h.un, h.hd.ext l⟩
theorem ArOk.le {c : FC} {ρ : List Addr} {Ar : Around} {k j : Nat} (h : ArOk c ρ Ar k) (hj : j ≤ k) : ArOk c ρ Ar j := ⟨h.fr, Nat.lt_of_le_of_lt (Nat.add_le_add_left hj _) h.dp, Nat.lt_of_le_of_lt (Nat.add_le_add_left (Nat.mul_le_mul_left _ hj) _) h.un, h.hd⟩
noncomputable def LR (ρ : List Addr) (loc : Loc) (m : Str → Option Value) : Prop := ∀ x v, fget x loc = some v → ∃ u, m x = some u ∧ VR ρ v u
theorem LR.ext {ρ : List Addr} {loc : Loc} {m : Str → Option Value} (h : LR ρ loc m) (l : List Addr) : LR (ρ ++ l) loc m := fun x v e => let ⟨u, a, b⟩ := h x v e; ⟨u, a, b.ext l⟩
noncomputable def LocOk (c : FC) (m : Str → Option Value) (loc : Loc) (ρ : List Addr) : Prop :=
  (c.env.locals = c.L ∧ LR ρ loc m) ∨ ∃ o mC, (c.env.locals, o) ∈ c.other ∧ NsO o mC ∧ LR ρ loc mC
theorem LocOk.ext {c : FC} {m : Str → Option Value} {loc : Loc} {ρ : List Addr} (h : LocOk c m loc ρ) (l : List Addr) : LocOk c m loc (ρ ++ l) := by
  rcases h with ⟨a, b⟩ | ⟨o, mC, a, b, d⟩
  · exact .inl ⟨a, b.ext l⟩
  · exact .inr ⟨o, mC, a, b, d.ext l⟩
noncomputable def CellsOk (c : FC) (ρ : List Addr) : Prop := ∀ x i, cget x c.cc.cells = some i → ∃ a, c.env.cells.lookup x = some a ∧ ρ[i]? = some a
theorem CellsOk.ext {c : FC} {ρ : List Addr} (h : CellsOk c ρ) (l : List Addr) : CellsOk c (ρ ++ l) := fun x i e => let ⟨a, b, d⟩ := h x i e; ⟨a, b, getx d⟩
structure DynI (c : FC) (m : Str → Option Value) (loc : Loc) (ρ : List Addr) (hs : HS) (h : Heap) (own fo : List (Addr × Obj)) : Prop where
  F : Fr c.G c.L h m
  N : News c.G c.L h (own ++ (c.other ++ fo))
  nd : ((own ++ (c.other ++ fo)).map (·.1)).Nodup
  led : Led c.w.params ρ hs.H own
  fo : FoR c.fs fo
  n : ρ.length = hs.n
  loc : LocOk c m loc ρ
  cells : CellsOk c ρ
noncomputable def Dyn (c : FC) (m : Str → Option Value) (loc : Loc) (ρ : List Addr) (hs : HS) (h : Heap) : Prop := ∃ own fo, DynI c m loc ρ hs h own fo
/-- an exception on its way: where it stands, its own dict, its trace -/
structure FlyX (B : Heap) (l : List Env) (e d : Addr) (fl : Value) (h : Heap) : Prop where
  stay : B.StaysIn h
  new : B.get? e = none
  frs : h.FunFrames B l
  tr : ∃ oe vs T oT ts, h.get? e = some oe ∧ oe.cls = .ref 60 ∧ oe.dict = some d ∧ oe.data = .fields vs ∧ vs[1]? = some (.ref T) ∧ vs[2]? = some .none ∧ B.get? T = none ∧ T ≠ e ∧ h.get? T = some oT ∧ oT.data = .fields ts ∧ ts[3]? = some fl
/-- the same, ahead of its first station -/
structure FlyN (B : Heap) (l : List Env) (e d : Addr) (h : Heap) : Prop where
  stay : B.StaysIn h
  new : B.get? e = none
  frs : h.FunFrames B l
  tr : ∃ oe vs, h.get? e = some oe ∧ oe.cls = .ref 60 ∧ oe.dict = some d ∧ oe.data = .fields vs ∧ vs[1]? = some .none ∧ vs[2]? = some .none
noncomputable def FlyA (B : Heap) (l : List Env) (e d : Addr) (h : Heap) : Prop := FlyX B l e d .none h ∨ FlyN B l e d h
structure FlyI (c : FC) (m : Str → Option Value) (ρ : List Addr) (hs : HS) (msg : Str) (e : Addr) (h B : Heap) (own : List (Addr × Obj)) (d : Addr) (od : Obj) : Prop where
  stay : c.G.StaysIn B
  news : ∀ q ∈ (d, od) :: (own ++ c.other), B.get? q.1 = some q.2 ∧ c.G.get? q.1 = none
  fly : FlyA B (c.fenv :: c.outer) e d h
  ed : ExcD od msg
  ns : h.Ns c.L m
  fs : ∀ p ∈ c.fs, h.Ns p.1 p.2
  nd : ((c.L :: c.fs.map (·.1)) ++ ((d, od) :: (own ++ c.other)).map (·.1)).Nodup
  led : Led c.w.params ρ hs.H own
  n : ρ.length = hs.n
  cells : CellsOk c ρ
  above : c.G.objs.size ≤ c.L
  fsG : ∀ p ∈ c.fs, c.G.get? p.1 = none
noncomputable def Fly (c : FC) (m : Str → Option Value) (ρ : List Addr) (hs : HS) (msg : Str) (e : Addr) (h : Heap) : Prop := ∃ B own d od, FlyI c m ρ hs msg e h B own d od

noncomputable def Pst {α β : Type} (c : FC) (m : Str → Option Value) (loc : Loc) (ρ : List Addr) (s : Shared) (rel : List Addr → α → β → Prop) (Q : β → Shared → Prop) (E : Value → Shared → Prop) : Out α → Prop
  | .ok v hs' => ∀ l h' tk b, Dyn c m loc (ρ ++ l) hs' h' → rel (ρ ++ l) v b → Q b { s with heap := h', toks := tk }
  | .exc msg hs' => ∀ l e h' tk, Fly c m (ρ ++ l) hs' msg e h' → E (.ref e) { s with heap := h', toks := tk }
theorem Pst.later {α β : Type} {c : FC} {m : Str → Option Value} {loc : Loc} {ρ : List Addr} {s : Shared} {rel : List Addr → α → β → Prop} {Q : β → Shared → Prop} {E : Value → Shared → Prop} {r : Out α}
    (P : Pst c m loc ρ s rel Q E r) (l : List Addr) (h : Heap) (t : Nat) : Pst c m loc (ρ ++ l) { s with heap := h, toks := t } rel Q E r := by
  cases r with
  | ok v hs' => intro l' h' tk b D R; rw [List.append_assoc] at D R; exact P (l ++ l') h' tk b D R
  | exc msg hs' => intro l' e h' tk D; rw [List.append_assoc] at D; exact P (l ++ l') e h' tk D
noncomputable def Tr {α β : Type} (c : FC) (m : Str → Option Value) (loc : Loc) (Ar : Around) (t : Sem β) (rel : List Addr → α → β → Prop) (ρ : List Addr) (s : Shared) (r : Out α) : Prop :=
  ∀ Q E, Pst c m loc ρ s rel Q E r → wpAny (model pw c.w) Ar t Q E s
theorem Tr.seq {α β α₁ β₁ : Type} {c : FC} {m : Str → Option Value} {loc : Loc} {Ar : Around} {t₁ : Sem β₁} {rel₁ : List Addr → α₁ → β₁ → Prop} {rel : List Addr → α → β → Prop} {ρ : List Addr} {s : Shared} {r : Out α}
    {x : Option (Out α₁)} {k : α₁ → HS → Option (Out α)} {Q : β → Shared → Prop} {E : Value → Shared → Prop} {Q₁ : β₁ → Shared → Prop}
    (h : obind x k = some r) (T : ∀ r₁, x = some r₁ → Tr c m loc Ar t₁ rel₁ ρ s r₁) (P : Pst c m loc ρ s rel Q E r)
    (K : ∀ v hs₁, k v hs₁ = some r → ∀ l h₁ tk b, Dyn c m loc (ρ ++ l) hs₁ h₁ → rel₁ (ρ ++ l) v b → Pst c m loc (ρ ++ l) { s with heap := h₁, toks := tk } rel Q E r → Q₁ b { s with heap := h₁, toks := tk }) :
    wpAny (model pw c.w) Ar t₁ Q₁ E s := by
  cases x with
  | none => cases h
  | some r₁ =>
    cases r₁ with
    | exc msg hs' => cases h; exact T _ rfl _ _ P
    | ok v hs₁ => exact T _ rfl _ _ fun l h₁ tk b D R => K v hs₁ h l h₁ tk b D R (P.later l h₁ tk)
theorem Dyn.here {c : FC} {m : Str → Option Value} {loc : Loc} {ρ : List Addr} {hs : HS} {h : Heap} (D : Dyn c m loc ρ hs h) : Dyn c m loc (ρ ++ []) hs h := by rwa [List.append_nil]
theorem VR.here {ρ : List Addr} {v : AV} {u : Value} (x : VR ρ v u) : VR (ρ ++ []) v u := by rwa [List.append_nil]
/-- an answer that leaves the heap -/
theorem Pst.ok {α β : Type} {c : FC} {m : Str → Option Value} {loc : Loc} {ρ : List Addr} {s : Shared} {rel : List Addr → α → β → Prop} {Q : β → Shared → Prop} {E : Value → Shared → Prop} {v : α} {hs : HS}
    (P : Pst c m loc ρ s rel Q E (.ok v hs)) {b : β} (D : Dyn c m loc ρ hs s.heap) (R : rel ρ v b) (tk : Nat) : Q b { s with toks := tk } :=
  P [] s.heap tk b D.here (by rwa [List.append_nil])
theorem DynI.add {c : FC} {m : Str → Option Value} {loc : Loc} {ρ : List Addr} {hs : HS} {h h' : Heap} {own fo : List (Addr × Obj)} (D : DynI c m loc ρ hs h own fo) {a : Addr} {ob : AObj} {l : List (Addr × Obj)}
    (F : Fr c.G c.L h' m) (N : News c.G c.L h' (l ++ (own ++ (c.other ++ fo)))) (hl : ∀ p ∈ l, ∀ q ∈ own ++ (c.other ++ fo), q.1 ≠ p.1) (nd : (l.map (·.1)).Nodup) (o : OR c.w.params (ρ ++ [a]) ob a l) :
    Dyn c m loc (ρ ++ [a]) ⟨(hs.n, ob) :: hs.H, hs.n + 1⟩ h' := by
  refine ⟨l ++ own, fo, F, by rw [List.append_assoc]; exact N, ?_, .cons (by rw [← D.n]; simp) o (D.led.ext _), D.fo, by rw [List.length_append, D.n]; rfl, D.loc.ext _, D.cells.ext _⟩
  rw [List.append_assoc, List.map_append]
  refine List.nodup_append.mpr ⟨nd, D.nd, fun x hx y hy e => ?_⟩
  obtain ⟨p, hp, rfl⟩ := List.mem_map.mp hx
  obtain ⟨q, hq, rfl⟩ := List.mem_map.mp hy
  exact hl p hp q hq (Eq.symm e)
theorem DynI.toks {c : FC} {m : Str → Option Value} {loc : Loc} {ρ : List Addr} {hs : HS} {h : Heap} {own fo : List (Addr × Obj)} (D : DynI c m loc ρ hs h own fo) : Dyn c m loc ρ hs h := ⟨own, fo, D⟩
end
end Mine
end
section
open PySem PySem.W PyProof.Rows
set_option Elab.async false
namespace Mine
set_option maxRecDepth 100000
/-! stations of an exception with a dict of its own -/
theorem dict_mapFields (o : Obj) (f : Array Value → Array Value) : (o.mapFields f).dict = o.dict := by
  obtain ⟨c, d, dt, sl⟩ := o; cases dt <;> rfl
section
variable {M : Model} {A : Around} {E : Value → Shared → Prop} {s : Shared} {base : Heap} {env : Env} {outer l : List Env} {L e d : Addr} {oe : Obj} {vs : Array Value} {Q : Unit → Shared → Prop} {fl : Value}
/-- a place in the trace is laid: the exception keeps all but its first field -/
theorem entryX {head : Value} {hadNext : Bool} (hfr : A.frames = some (env :: outer)) (hl : s.heap.FunFrames base (env :: outer)) (hf : env.frame = some L)
    (he : s.heap.get? e = some oe) (hkb : base.StaysIn s.heap) (hen : base.get? e = none) (hd : oe.data = .fields vs) (hsz : 1 < vs.size)
    (h : ∀ h' ob T oT ts, base.StaysIn h' → h'.FunFrames base (env :: outer) → h'.get? e = some ob → ob.cls = oe.cls → ob.dict = oe.dict → ob.data = .fields (vs.setIfInBounds 1 (.ref T)) → base.get? T = none → T ≠ e →
      h'.get? T = some oT → oT.data = .fields ts → ts[3]? = some (rawInt L) → s.heap.UpToSlots h' → Q () { s with heap := h' }) :
    wpAny M A (do let a ← frameOf env; let pl ← entryPlaceOf L hadNext; let b ← EntryCells.newEntry head a .none (rawInt L) .none pl; setField (.ref e) 1 b) Q E s := by
  have nframe : e ∉ (env :: outer).filterMap (·.frame) := fun hm => by
    obtain ⟨_, o, ho, hnf⟩ := hl.mem hm
    rw [he] at ho; cases ho; exact hnf vs hd
  refine wpAny_bind (wpAny_frameOf_fun hfr hl hf fun g hg => ?_)
  refine wpAny_bind (wpAny_entryPlaceOf fun pl hpl => ?_)
  unfold EntryCells.newEntry newFields
  refine wpAny_bind (wpAny_newObj_type ?_ (hpl.sizeOk5 _ _ _ _ _))
  have eg : g.get? e = some oe := (hg.2.1 e nframe).trans he
  have bg : base.StaysIn g := fun b o hb => (hg.2.1 b fun hm => by rw [(hl.mem hm).1] at hb; cases hb).trans (hkb b o hb)
  dsimp only
  generalize hts : ([head, Value.ref L, Value.none, rawInt L, Value.none] ++ (if pl.isEmpty then List.replicate 6 Value.none else pl)).toArray = ts
  have h3 : ts[3]? = some (rawInt L) := by rw [← hts]; first | (simp; done) | (rcases hpl with rfl | ⟨_, _, _, _, _, _, _, rfl⟩ <;> simp)
  have eg2 := Heap.get?_push_of_some (h := g) { cls := .type "traceback", dict := none, data := .fields ts } eg
  refine wpAny_setField eg2 hd hsz ?_
  have hTe : g.objs.size ≠ e := Nat.ne_of_gt (Heap.lt_size eg)
  have d3 := Obj.data_mapFields hd (·.setIfInBounds 1 (Value.ref g.objs.size))
  have e3 := Heap.get?_update_self (Obj.mapFields (·.setIfInBounds 1 (Value.ref g.objs.size))) eg2 (Obj.isFreed_of_fields d3)
  have T3 := (Heap.get?_update_other (g.push { cls := .type "traceback", dict := none, data := .fields ts }) (Obj.mapFields (·.setIfInBounds 1 (Value.ref g.objs.size))) (Ne.symm hTe)).trans (Heap.get?_push_size g rfl)
  have keep : ∀ b o, b ≠ e → g.get? b = some o → ((g.push { cls := .type "traceback", dict := none, data := .fields ts }).update e (Obj.mapFields (·.setIfInBounds 1 (Value.ref g.objs.size)))).get? b = some o := fun b o hbe hb =>
    (Heap.get?_update_other _ _ (Ne.symm hbe)).trans (Heap.get?_push_of_some _ hb)
  have nrec : ∀ b o, s.heap.get? b = some o → (∀ vs, o.data ≠ .fields vs) → b ≠ e := fun b o hb hnf q => by
    rw [q, he] at hb; cases hb; exact hnf vs hd
  refine h _ _ g.objs.size _ ts (fun b o hb => keep b o (fun q => by rw [q, hen] at hb; cases hb) (bg b o hb)) (hl.of_keeps fun b o hb hnf => ?_) e3 (Obj.cls_mapFields _ _) (dict_mapFields _ _) d3 bg.fresh hTe T3 rfl h3 (fun b o hb hnf => ?_)
  · obtain ⟨sl, hs⟩ := hg.2.2 b o hb
    exact ⟨_, keep b _ (nrec b o hb hnf) hs, rfl⟩
  · obtain ⟨sl, hs⟩ := hg.2.2 b o hb
    exact ⟨sl, keep b _ (nrec b o hb hnf) hs⟩
theorem set1_2 {T : Value} (h2 : vs[2]? = some .none) : (vs.setIfInBounds 1 T)[2]? = some .none := by rw [Array.getElem?_setIfInBounds_ne (by decide)]; exact h2
theorem set1_1 {T : Value} (hsz : 1 < vs.size) : (vs.setIfInBounds 1 T)[1]? = some T := by simp [hsz]
/-- the trace's first place -/
theorem note_firstX (hfr : A.frames = some (env :: outer)) (hl : s.heap.FunFrames base (env :: outer)) (hf : env.frame = some L) (he : s.heap.get? e = some oe) (hc : oe.cls = .ref 60) (hdc : oe.dict = some d) (hkb : base.StaysIn s.heap) (hen : base.get? e = none)
    (hd : oe.data = .fields vs) (h1 : vs[1]? = some .none) (h2 : vs[2]? = some .none) (h : ∀ h', FlyX base (env :: outer) e d (rawInt L) h' → s.heap.UpToSlots h' → Q () { s with heap := h' }) : wpAny M A (noteFrame (.ref e) env) Q E s := by
  unfold noteFrame
  simp only [hf]
  refine wpAny_bind (wpAny_field he hd h1 ?_)
  rw [if_neg (by decide)]
  refine entryX hfr hl hf he hkb hen hd (Array.getElem?_eq_some_iff.mp h1).1 fun h' ob T oT ts k1 k2 k3 k4 k5 k6 k7 k8 k9 k10 k11 k12 => ?_
  exact h h' ⟨k1, hen, k2, ob, _, T, oT, ts, k3, k4.trans hc, k5.trans hdc, k6, set1_1 (Array.getElem?_eq_some_iff.mp h1).1, set1_2 h2, k7, k8, k9, k10, k11⟩ k12
theorem note_nextX (hfr : A.frames = some (env :: outer)) (hf : env.frame = some L) (F : FlyX base (env :: outer) e d .none s.heap) (h : ∀ h', FlyX base (env :: outer) e d (rawInt L) h' → s.heap.UpToSlots h' → Q () { s with heap := h' }) : wpAny M A (noteFrame (.ref e) env) Q E s := by
  obtain ⟨hkb, hen, hl, oe, vs, T, oT, ts, he, hc, hdc, hd, h1, h2, hnT, hTe, hT, hdT, h3⟩ := F
  unfold noteFrame
  simp only [hf]
  refine wpAny_bind (wpAny_field he hd h1 ?_)
  rw [if_pos (show (Value.ref T != Value.none) = true from by simp)]
  refine wpAny_bind (wpAny_field hT hdT h3 ?_)
  rw [if_neg (show ¬ ((Value.none == rawInt L) = true) from by simp [rawInt])]
  refine wpAny_bind (wpAny_setField hT hdT (Array.getElem?_eq_some_iff.mp h3).1 ?_)
  have other : ∀ b, b ≠ T → (s.heap.update T (Obj.mapFields (·.setIfInBounds 3 Value.none))).get? b = s.heap.get? b := fun b hb => Heap.get?_update_other _ _ (Ne.symm hb)
  have nrec : ∀ b o, s.heap.get? b = some o → (∀ vs, o.data ≠ .fields vs) → b ≠ T := fun b o hb hnf q => by
    rw [q, hT] at hb; cases hb; exact hnf ts hdT
  refine entryX (s := { s with heap := _ }) hfr (hl.of_keeps fun b o hb hnf => ⟨o, (other b (nrec b o hb hnf)).trans hb, rfl⟩) hf ((other e (Ne.symm hTe)).trans he)
    (fun b o hb => (other b fun q => by rw [q, hnT] at hb; cases hb).trans (hkb b o hb)) hen hd (Array.getElem?_eq_some_iff.mp h1).1 fun h' ob T oT ts k1 k2 k3 k4 k5 k6 k7 k8 k9 k10 k11 k12 => ?_
  exact h h' ⟨k1, hen, k2, ob, _, T, oT, ts, k3, k4.trans hc, k5.trans hdc, k6, set1_1 (Array.getElem?_eq_some_iff.mp h1).1, set1_2 h2, k7, k8, k9, k10, k11⟩ fun b o hb hnf => k12 b o ((other b (nrec b o hb hnf)).trans hb) hnf
theorem landX (F : FlyX base l e d fl s.heap) (h : ∀ h', FlyX base l e d .none h' → s.heap.UpToSlots h' → Q () { s with heap := h' }) : wpAny M A (setFlight (.ref e) none) Q E s := by
  obtain ⟨hkb, hen, hl, oe, vs, T, oT, ts, he, hc, hdc, hd, h1, h2, hnT, hTe, hT, hdT, h3⟩ := F
  have hsz3 : 3 < ts.size := (Array.getElem?_eq_some_iff.mp h3).1
  have other : ∀ b, b ≠ T → (s.heap.update T (Obj.mapFields (·.setIfInBounds 3 ((none : Option Addr).elim Value.none fun f => rawInt f)))).get? b = s.heap.get? b :=
    fun b hb => Heap.get?_update_other _ _ (Ne.symm hb)
  have nrec : ∀ b o, s.heap.get? b = some o → (∀ vs, o.data ≠ .fields vs) → b ≠ T := fun b o hb hnf q => by
    rw [q, hT] at hb; cases hb; exact hnf ts hdT
  unfold setFlight
  refine wpAny_bind (wpAny_field he hd h1 ?_)
  rw [if_pos (show (Value.ref T != Value.none) = true from by simp)]
  refine wpAny_setField hT hdT hsz3 (h _ ⟨fun b o hb => (other b fun q => by rw [q, hnT] at hb; cases hb).trans (hkb b o hb), hen, hl.of_keeps fun b o hb hnf => ⟨o, (other b (nrec b o hb hnf)).trans hb, rfl⟩, ?_⟩ fun b o hb hnf => ⟨o.slots, (other b (nrec b o hb hnf)).trans hb⟩)
  exact ⟨oe, vs, T, _, _, (other e (Ne.symm hTe)).trans he, hc, hdc, hd, h1, h2, hnT, hTe, Heap.get?_update_self _ hT (Obj.isFreed_of_fields (Obj.data_mapFields hdT _)), Obj.data_mapFields hdT _, by simp [hsz3]⟩
theorem FlyX.pop {env : Env} (F : FlyX base (env :: outer) e d fl s.heap) : FlyX base outer e d fl s.heap := ⟨F.stay, F.new, F.frs.2.2, F.tr⟩
/-- a frame is left by what flies -/
theorem leave_firstX (hfr : A.frames = some (env :: outer)) (hl : s.heap.FunFrames base (env :: outer)) (hf : env.frame = some L) (he : s.heap.get? e = some oe) (hc : oe.cls = .ref 60) (hdc : oe.dict = some d) (hkb : base.StaysIn s.heap) (hen : base.get? e = none)
    (hd : oe.data = .fields vs) (h1 : vs[1]? = some .none) (h2 : vs[2]? = some .none) (h : ∀ h', FlyX base outer e d .none h' → s.heap.UpToSlots h' → Q () { s with heap := h' }) : wpAny M A (leaving env (.ref e)) Q E s := by
  unfold leaving
  refine wpAny_bind (note_firstX hfr hl hf he hc hdc hkb hen hd h1 h2 fun h' F U => ?_)
  refine landX (s := { s with heap := h' }) F fun h'' F' U' => ?_
  exact h h'' (FlyX.pop (s := { s with heap := h'' }) F') (U.trans U')
theorem leave_nextX (hfr : A.frames = some (env :: outer)) (hf : env.frame = some L) (F : FlyX base (env :: outer) e d .none s.heap) (h : ∀ h', FlyX base outer e d .none h' → s.heap.UpToSlots h' → Q () { s with heap := h' }) : wpAny M A (leaving env (.ref e)) Q E s := by
  unfold leaving
  refine wpAny_bind (note_nextX hfr hf F fun h' F U => ?_)
  refine landX (s := { s with heap := h' }) F fun h'' F' U' => ?_
  exact h h'' (FlyX.pop (s := { s with heap := h'' }) F') (U.trans U')
theorem note_anyX (hfr : A.frames = some (env :: outer)) (hf : env.frame = some L) (F : FlyA base (env :: outer) e d s.heap) (h : ∀ h', FlyX base (env :: outer) e d (rawInt L) h' → s.heap.UpToSlots h' → Q () { s with heap := h' }) : wpAny M A (noteFrame (.ref e) env) Q E s := by
  rcases F with F | ⟨a, b, hl, oe, vs, he, hc, hdc, hd, h1, h2⟩
  · exact note_nextX hfr hf F h
  · exact note_firstX hfr hl hf he hc hdc a b hd h1 h2 h
theorem leave_anyX (hfr : A.frames = some (env :: outer)) (hf : env.frame = some L) (F : FlyA base (env :: outer) e d s.heap) (h : ∀ h', FlyX base outer e d .none h' → s.heap.UpToSlots h' → Q () { s with heap := h' }) : wpAny M A (leaving env (.ref e)) Q E s := by
  rcases F with F | ⟨a, b, hl, oe, vs, he, hc, hdc, hd, h1, h2⟩
  · exact leave_nextX hfr hf F h
  · exact leave_firstX hfr hl hf he hc hdc a b hd h1 h2 h
end
end Mine
end
section
open PySem PySem.W PyProof.Rows
set_option Elab.async false
set_option genInjectivity false
set_option genSizeOf false
set_option genSizeOfSpec false
namespace Mine
section
/-! reads of the abstract heap -/
noncomputable def lstGet (v : AV) (H : AHeap) : Option (List AV) := match v with
  | .ref i => match hget i H with
    | some (.list xs) => some xs
    | _ => none
  | _ => none
noncomputable def gtup (a : Addr) : Option (List AV) := match Nat.beq a 70 || Nat.beq a 71 || Nat.beq a 421 || Nat.beq a 422 with
  | true => some []
  | false => none
noncomputable def tupGet (v : AV) (H : AHeap) : Option (List AV) := match v with
  | .ref i => match hget i H with
    | some (.tup xs) => some xs
    | _ => none
  | .glob a => gtup a
  | _ => none
section
variable {c : FC} {m : Str → Option Value} {loc : Loc} {ρ : List Addr} {hs : HS} {h : Heap} {own fo : List (Addr × Obj)} {v : AV} {u : Value} {xs : List AV}
theorem DynI.list (D : DynI c m loc ρ hs h own fo) (e : lstGet v hs.H = some xs) (x : VR ρ v u) :
    ∃ i a its n pre post, v = .ref i ∧ u = .ref a ∧ ρ[i]? = some a ∧ VRs ρ xs its ∧ own = pre ++ (a, listOf its.toArray n) :: post ∧ (∀ xs' its' n', VRs ρ xs' its' → Led c.w.params ρ (hset i (.list xs') hs.H) (pre ++ (a, listOf its'.toArray n') :: post)) := by
  unfold lstGet at e
  cases x with
  | ref hi =>
    rename_i i a
    dsimp only at e
    cases q : hget i hs.H with
    | none => rw [q] at e; cases e
    | some ob =>
      rw [q] at e
      cases ob with
      | list ys =>
        cases e
        obtain ⟨a', l, pre, post, h1, o, he, hr⟩ := D.led.get q
        rw [hi] at h1; cases h1
        cases o with
        | list hv =>
          rename_i its n
          refine ⟨i, a, its, n, pre, post, rfl, rfl, hi, hv, by rw [he]; simp, fun xs' its' n' hv' => ?_⟩
          have := hr _ _ (.list (n := n') hv')
          simpa using this
      | _ => cases e
  | _ => cases e
theorem DynI.mem (_D : DynI c m loc ρ hs h own fo) {a : Addr} {o : Obj} (e : (a, o) ∈ own) : (a, o) ∈ own ++ (c.other ++ fo) := List.mem_append_left _ e
theorem DynI.isList (D : DynI c m loc ρ hs h own fo) (e : lstGet v hs.H = some xs) (x : VR ρ v u) :
    ∃ a its, u = .ref a ∧ VRs ρ xs its ∧ h.IsList a its.toArray := by
  obtain ⟨i, a, its, n, pre, post, _, rfl, _, hv, he, _⟩ := D.list e x
  have hm : (a, listOf its.toArray n) ∈ own := by rw [he]; simp
  exact ⟨a, its, rfl, hv, D.N.isList (D.mem hm)⟩
theorem gtup_of {a : Addr} (e : gtup a = some xs) {w : World} : xs = [] ∧ (KF w.params).lookup a = some (tupO [] 0) := by
  unfold gtup at e
  cases q : (Nat.beq a 70 || Nat.beq a 71 || Nat.beq a 421 || Nat.beq a 422) with
  | false => rw [q] at e; cases e
  | true =>
    rw [q] at e; cases e
    simp only [Bool.or_eq_true] at q
    refine ⟨rfl, ?_⟩
    rcases q with ((q | q) | q) | q <;> (have := Nat.eq_of_beq_eq_true q; subst this; kernel_rfl)
theorem DynI.isTup (O : c.Ok) (D : DynI c m loc ρ hs h own fo) (e : tupGet v hs.H = some xs) (x : VR ρ v u) :
    ∃ a its, u = .ref a ∧ VRs ρ xs its ∧ IsTup h a its.toArray := by
  unfold tupGet at e
  cases x with
  | ref hi =>
    rename_i i a
    dsimp only at e
    cases q : hget i hs.H with
    | none => rw [q] at e; cases e
    | some ob =>
      rw [q] at e
      cases ob with
      | tup ys =>
        cases e
        obtain ⟨a', l, pre, post, h1, o, he, hr⟩ := D.led.get q
        rw [hi] at h1; cases h1
        cases o with
        | tup hv =>
          rename_i its n
          refine ⟨a, its, rfl, hv, _, (D.N (a, tupOf its n) (D.mem (by rw [he]; simp))).1, rfl, n, rfl⟩
      | _ => cases e
  | glob a =>
    obtain ⟨rfl, hk⟩ := gtup_of (w := c.w) e
    exact ⟨a, [], rfl, .nil, _, D.F.keep _ _ (O.top.X _ _ hk), rfl, 0, rfl⟩
  | _ => cases e
end
/-! comparisons -/
noncomputable def emp2 (xs ys : List AV) : Option Bool := match xs, ys with
  | [], [] => some true
  | [], _ :: _ => some false
  | _ :: _, [] => some false
  | _, _ => none
noncomputable def eqV (H : AHeap) (a b : AV) : Option Bool := match a, b with
  | .str x, .str y => some (sq x y)
  | .int i, .int j => some (i == j)
  | a, b => match lstGet a H, lstGet b H with
    | some xs, some ys => emp2 xs ys
    | _, _ => match tupGet a H, tupGet b H with
      | some [], some [] => some true
      | _, _ => none
noncomputable def neV (H : AHeap) (a b : AV) : Option Bool := match a, b with
  | .str x, .str y => some (!sq x y)
  | .int i, .int j => some (i != j)
  | a, b => match lstGet a H, lstGet b H with
    | some xs, some ys => match emp2 xs ys with
      | some r => some (!r)
      | none => none
    | _, _ => none
noncomputable def isNone (a : AV) : Option Bool := match a with
  | .none => some true
  | .bool _ | .ref _ | .glob _ | .int _ | .str _ => some false
  | _ => none
noncomputable def inStrs (x : Str) : List AV → Option Bool
  | [] => some false
  | .str y :: r => match inStrs x r with
    | some b => some (sq y x || b)
    | none => none
  | _ :: _ => none
termination_by structural l => l
noncomputable def inKeys (x : Str) : List (Str × AV) → Bool
  | [] => false
  | (y, _) :: r => sq y x || inKeys x r
termination_by structural l => l
noncomputable def inV (H : AHeap) (a b : AV) : Option Bool := match a with
  | .str x => match tupGet b H with
    | some xs => inStrs x xs
    | none => match lstGet b H with
      | some xs => inStrs x xs
      | none => match b with
        | .ref i => match hget i H with
          | some (.dict ps) => some (inKeys x ps)
          | _ => none
        | _ => none
  | _ => none
noncomputable def cmpV (H : AHeap) (op : CmpOp) (a b : AV) : Option Bool := match op with
  | .Eq => eqV H a b
  | .NotEq => neV H a b
  | .Lt => match a, b with
    | .int i, .int j => some (decide (i < j))
    | _, _ => none
  | .Gt => match a, b with
    | .int i, .int j => some (decide (j < i))
    | _, _ => none
  | .Is => match b with
    | .none => isNone a
    | _ => none
  | .IsNot => match b with
    | .none => match isNone a with
      | some r => some (!r)
      | none => none
    | _ => none
  | .In => inV H a b
  | _ => none
theorem sq_beq (x y : Str) : sq x y = (x == y) := by
  cases h : sq x y with
  | true => rw [sq_iff.mp h]; simp
  | false => have := sq_no h; simp [this]
theorem emp2_eq {xs ys : List AV} {r : Bool} (e : emp2 xs ys = some r) : (xs.length = 0 ∧ ys.length = 0 ∧ r = true) ∨ (xs.length ≠ ys.length ∧ r = false) := by
  unfold emp2 at e
  split at e <;> cases e
  · exact .inl ⟨rfl, rfl, rfl⟩
  · exact .inr ⟨by simp, rfl⟩
  · exact .inr ⟨by simp, rfl⟩
theorem strsAre {ρ : List Addr} {x : Str} {xs : List AV} : ∀ {vs : List Value} {b : Bool}, VRs ρ xs vs → inStrs x xs = some b → ∃ ys, StrsAre vs ys ∧ (ys.any fun y => y == x) = b := by
  induction xs with
  | nil => intro vs b h e; cases h; cases e; exact ⟨[], .nil, rfl⟩
  | cons z r ih =>
    intro vs b h e
    cases h with
    | cons hv hr =>
      cases z with
      | str y =>
        cases hv with
        | str _ t =>
          have e' : (match inStrs x r with | some b => some (sq y x || b) | none => none) = some b := e
          cases q : inStrs x r with
          | none => rw [q] at e'; cases e'
          | some b' =>
            rw [q] at e'; cases e'
            obtain ⟨ys, a1, a2⟩ := ih hr q
            exact ⟨y :: ys, .cons y t a1, by rw [List.any_cons, a2, sq_beq]⟩
      | _ => cases e
section
variable {c : FC} {m : Str → Option Value} {loc : Loc} {ρ : List Addr} {hs : HS} {s : Shared} {own fo : List (Addr × Obj)} {a b : AV} {ua ub : Value} {r : Bool} {Ar : Around} {Q : Value → Shared → Prop} {E : Value → Shared → Prop}
theorem eqV_heap {H : AHeap} (e : eqV H a b = some r) : (∃ x y, a = .str x ∧ b = .str y ∧ r = sq x y) ∨ (∃ i j, a = .int i ∧ b = .int j ∧ r = (i == j)) ∨ (∃ xs ys, lstGet a H = some xs ∧ lstGet b H = some ys ∧ emp2 xs ys = some r) ∨ (tupGet a H = some [] ∧ tupGet b H = some [] ∧ r = true) := by
  unfold eqV at e
  split at e
  · cases e; exact .inl ⟨_, _, rfl, rfl, rfl⟩
  · cases e; exact .inr (.inl ⟨_, _, rfl, rfl, rfl⟩)
  · split at e
    · exact .inr (.inr (.inl ⟨_, _, ‹_›, ‹_›, e⟩))
    · split at e
      · cases e; exact .inr (.inr (.inr ⟨‹_›, ‹_›, rfl⟩))
      · cases e
theorem neV_heap {H : AHeap} (e : neV H a b = some r) : (∃ x y, a = .str x ∧ b = .str y ∧ r = !sq x y) ∨ (∃ i j, a = .int i ∧ b = .int j ∧ r = (i != j)) ∨ (∃ xs ys r', lstGet a H = some xs ∧ lstGet b H = some ys ∧ emp2 xs ys = some r' ∧ r = !r') := by
  unfold neV at e
  split at e
  · cases e; exact .inl ⟨_, _, rfl, rfl, rfl⟩
  · cases e; exact .inr (.inl ⟨_, _, rfl, rfl, rfl⟩)
  · split at e
    · split at e
      · cases e; exact .inr (.inr ⟨_, _, _, ‹_›, ‹_›, ‹_›, rfl⟩)
      · cases e
    · cases e
theorem eq_sound (O : c.Ok) (D : DynI c m loc ρ hs s.heap own fo) (hu : Ar.units < cLine) (xa : VR ρ a ua) (xb : VR ρ b ub) (e : eqV hs.H a b = some r) (h : Q (.bool r) s) :
    wpAny (model pw c.w) Ar (compareOp .Eq ua ub) Q E s := by
  rcases eqV_heap e with ⟨x, y, rfl, rfl, rfl⟩ | ⟨i, j, rfl, rfl, rfl⟩ | ⟨xs, ys, ex, ey, e'⟩ | ⟨ex, ey, rfl⟩
  · cases xa; cases xb; exact eq_str (by rw [← sq_beq]; exact h)
  · cases xa; cases xb; exact eq_int h
  · obtain ⟨l, its, rfl, hv, hl⟩ := D.isList ex xa
    obtain ⟨l', its', rfl, hv', hl'⟩ := D.isList ey xb
    have h1 := hv.length
    have h2 := hv'.length
    rcases emp2_eq e' with ⟨q1, q2, rfl⟩ | ⟨q, rfl⟩
    · have z1 : its = [] := List.eq_nil_of_length_eq_zero (h1.trans q1)
      have z2 : its' = [] := List.eq_nil_of_length_eq_zero (h2.trans q2)
      subst z1 z2
      exact SeqAt.eq_listAt (e := fun _ => true) hl hl' rfl hu (fun j h _ => absurd h (Nat.not_lt_zero j)) h
    · exact SeqAt.eq_list_lengthsAt hl hl' (by simp [h1, h2, q]) hu h
  · obtain ⟨l, its, rfl, hv, hl⟩ := D.isTup O ex xa
    obtain ⟨l', its', rfl, hv', hl'⟩ := D.isTup O ey xb
    cases hv; cases hv'
    exact SeqAt.eq_tupleAt (e := fun _ => true) hl hl' hu (fun j h _ => absurd h (Nat.not_lt_zero j)) h
theorem ne_sound (D : DynI c m loc ρ hs s.heap own fo) (hu : Ar.units < cLine) (xa : VR ρ a ua) (xb : VR ρ b ub) (e : neV hs.H a b = some r) (h : Q (.bool r) s) :
    wpAny (model pw c.w) Ar (compareOp .NotEq ua ub) Q E s := by
  rcases neV_heap e with ⟨x, y, rfl, rfl, rfl⟩ | ⟨i, j, rfl, rfl, rfl⟩ | ⟨xs, ys, r', ex, ey, e', rfl⟩
  · cases xa; cases xb; exact ne_str (by rw [sq_beq] at h; exact h)
  · cases xa; cases xb; exact ne_int h
  · obtain ⟨l, its, rfl, hv, hl⟩ := D.isList ex xa
    obtain ⟨l', its', rfl, hv', hl'⟩ := D.isList ey xb
    have h1 := hv.length
    have h2 := hv'.length
    rcases emp2_eq e' with ⟨q1, q2, rfl⟩ | ⟨q, rfl⟩
    · have z1 : its = [] := List.eq_nil_of_length_eq_zero (h1.trans q1)
      have z2 : its' = [] := List.eq_nil_of_length_eq_zero (h2.trans q2)
      subst z1 z2
      exact SeqAt.RcNeAt.lists (e := fun _ => true) hl hl' rfl hu (fun j h _ => absurd h (Nat.not_lt_zero j)) _ _ _ _ h
    · exact SeqAt.RcNeAt.lists_lengths hl hl' (by simp [h1, h2, q]) hu _ _ _ _ h
theorem isNone_plain (xa : VR ρ a ua) (e : isNone a = some r) : PySem.plainIs ua .none = true ∧ (ua == Value.none) = r := by
  cases xa <;> cases e <;> exact ⟨rfl, rfl⟩
theorem keys_sound {ps : List (Str × AV)} {es : List DictEntry} (F : FR c.w.params ρ ps es) (x : Str) : (findBy Value.isStrOf es.toArray x).isSome = inKeys x ps := by
  unfold findBy
  rw [Option.isSome_map, List.find?_toArray]
  induction F with
  | nil => rfl
  | cons hv hr ih =>
    rename_i y v t u fs es
    have e : inKeys x ((y, v) :: fs) = (sq y x || inKeys x fs) := rfl
    rw [List.find?_cons, e, ← isStr_of, isStr_str]
    cases q : sq y x with
    | true => rw [decide_eq_true (sq_iff.mp q)]; rfl
    | false => rw [decide_eq_false (sq_no q)]; exact ih
theorem keysOf {ps : List (Str × AV)} {es : List DictEntry} (F : FR c.w.params ρ ps es) : ∀ e ∈ es, ∃ x t, e.key = .str x t ∧ e.hash = PyData.keyHash c.w.params x := by
  induction F with
  | nil => intro e he; cases he
  | cons hv hr ih =>
    intro e he
    rcases List.mem_cons.mp he with rfl | he
    · exact ⟨_, _, rfl, rfl⟩
    · exact ih e he
theorem in_sound (O : c.Ok) (D : DynI c m loc ρ hs s.heap own fo) (xa : VR ρ a ua) (xb : VR ρ b ub) (e : inV hs.H a b = some r) (h : ∀ tk, Q (.bool r) { s with toks := tk }) :
    wpAny (model pw c.w) Ar (compareOp .In ua ub) Q E s := by
  unfold inV at e
  cases xa with
  | str x t =>
    dsimp only at e
    cases q : tupGet b hs.H with
    | some xs =>
      rw [q] at e
      obtain ⟨l, its, rfl, hv, hl⟩ := D.isTup O q xb
      obtain ⟨ys, s1, rfl⟩ := strsAre hv e
      exact in_tuple_strs hl s1 (h s.toks)
    | none =>
      rw [q] at e
      dsimp only at e
      cases q' : lstGet b hs.H with
      | some xs =>
        rw [q'] at e
        obtain ⟨l, its, rfl, hv, hl⟩ := D.isList q' xb
        obtain ⟨ys, s1, rfl⟩ := strsAre hv e
        exact in_list_strs hl s1 (h s.toks)
      | none =>
        rw [q'] at e
        cases xb with
        | ref hi =>
          rename_i i a
          dsimp only at e
          cases q2 : hget i hs.H with
          | none => rw [q2] at e; cases e
          | some ob =>
            rw [q2] at e
            cases ob with
            | dict ps =>
              cases e
              obtain ⟨a', l, pre, post, h1, o, he, hr⟩ := D.led.get q2
              rw [hi] at h1; cases h1
              cases o with
              | dict hv =>
                rename_i es n
                have hm := (D.N (a, dictOf es n) (D.mem (by rw [he]; simp)))
                refine wpAny_in_of (strKind_is pw c.w x t) ?_ (f := fun k => findBy Value.isStrOf es.toArray k) ⟨_, es.toArray, n, hm.1, ⟨rfl, rfl, rfl⟩, rfl, fun e he => ?_, fun _ => rfl⟩ (by rw [keys_sound hv]; exact h _)
                · cases z : (a == sysModules) with
                  | false => rfl
                  | true =>
                    exfalso
                    have z' : a = sysModules := beq_iff_eq.mp z
                    rw [z'] at hm
                    exact O.top.sm hm.2.2
                · obtain ⟨x, t, e1, e2⟩ := keysOf hv e (Array.mem_toList_iff.mpr he)
                  exact ⟨x, by rw [e1]; exact strKind_is pw c.w x t, e2⟩
            | _ => cases e
        | _ => cases e
  | _ => cases e
end
end
end Mine
end
section
open PySem PySem.W PyProof.Rows
set_option Elab.async false
set_option genInjectivity false
set_option genSizeOf false
set_option genSizeOfSpec false
namespace Mine
/-! the evaluator -/
inductive Fl where
  | next | ret (v : AV)
inductive Src where
  | lst (v : AV) | tup (v : AV) | rng (n : Nat)
structure Ev where
  e : CC → Loc → Expr → HS → Option (Out AV)
  t : CC → Loc → Expr → HS → Option (Out Bool)
  ss : CC → Loc → List Stmt → HS → Option (Out (Fl × Loc))
  fl : CC → Loc → Expr → List Stmt → Src → Nat → HS → Option (Out (Fl × Loc))
  wl : CC → Loc → Expr → List Stmt → HS → Option (Out (Fl × Loc))
  cl : CC → Loc → Str → List Expr → Expr → AV → Nat → Nat → HS → Option (Out Unit)
  call : Option Nat → AV → List AV → HS → Option (Out AV)
noncomputable def Ev.nil : Ev := ⟨fun _ _ _ _ => none, fun _ _ _ _ => none, fun _ _ _ _ => none, fun _ _ _ _ _ _ _ => none, fun _ _ _ _ _ => none, fun _ _ _ _ _ _ _ _ _ => none, fun _ _ _ _ => none⟩
noncomputable def newO (ob : AObj) (hs : HS) : Option (Out AV) := some (.ok (.ref hs.n) ⟨(hs.n, ob) :: hs.H, hs.n + 1⟩)
noncomputable def setO (i : Nat) (ob : AObj) (hs : HS) : HS := ⟨hset i ob hs.H, hs.n⟩
noncomputable def oval {α : Type} (x : Option α) (hs : HS) : Option (Out α) := match x with
  | some v => some (.ok v hs)
  | none => none
noncomputable def klook (x : Str) : List (Str × NameKind) → Option NameKind
  | [] => none
  | (y, k) :: r => match sq y x with
    | true => some k
    | false => klook x r
termination_by structural l => l
noncomputable def evCell (cc : CC) (x : Str) (H : AHeap) : Option AV := match cget x cc.cells with
  | some i => match hget i H with
    | some (.cell v) => v
    | _ => none
  | none => none
noncomputable def evName (cc : CC) (loc : Loc) (x : Str) (H : AHeap) : Option AV := match sq x "__debug__" || sq x "__classdict__" with
  | true => none
  | false => match cc.kind x with
    | some .local => fget x loc
    | some .globalImplicit => evGlob x
    | some .cell => evCell cc x H
    | some .free => evCell cc x H
    | _ => none
noncomputable def evConst : Const → Option AV
  | .none => some .none
  | .bool b => some (.bool b)
  | .int i => some (.int i)
  | .str s => some (.str s)
  | .bytes b => some (.bytes b.toArray)
  | _ => none
noncomputable def memS (x : Str) : List Str → Bool
  | [] => false
  | y :: r => match sq y x with
    | true => true
    | false => memS x r
termination_by structural l => l
/-- every field that the text stores -/
noncomputable def fldN1 : List Str := ["name", "kids", "parent", "occurs", "working", "linkage", "files", "conditions", "indexes", "shape", "category", "level"]
noncomputable def fldN2 : List Str := ["picture_text", "usage", "sign", "is_separate", "redefines", "value", "is_justified", "is_blank_zero", "renames", "base", "offset", "size"]
noncomputable def fldN3 : List Str := ["sorts", "low", "high", "depending", "keys", "rows", "picture", "digits", "scale", "is_signed", "indexes"]
noncomputable def fldN : List Str := fldN1 ++ (fldN2 ++ fldN3)
noncomputable def clsN : List Addr := [164, 190, 394, 89, 117]
noncomputable def memA (x : Addr) : List Addr → Bool
  | [] => false
  | y :: r => match Nat.beq y x with
    | true => true
    | false => memA x r
termination_by structural l => l
noncomputable def fldOk (C : Addr) (a : Str) : Bool := memA C clsN && memS a fldN
noncomputable def notBi : AV → Option AV
  | .bi _ => none
  | v => some v
noncomputable def attrV (v : AV) (a : Str) (H : AHeap) : Option AV := match v with
  | .ref i => match hget i H with
    | some (.inst C fs) => match fldOk C a with
      | true => match fget a fs with
        | some v => notBi v
        | none => none
      | false => none
    | some (.exc msg) => match sq a "what" with
      | true => some (.str msg)
      | false => none
    | _ => none
  | _ => none
noncomputable def small (xs : List AV) : Bool := Nat.ble xs.length 500
noncomputable def binV (op : Operator) (a b : AV) (hs : HS) : Option (Out AV) := match op, a, b with
  | .Add, .str x, .str y => match Nat.ble (x.length + y.length) 1000 with
    | true => some (.ok (.str (x ++ y)) hs)
    | false => none
  | .Add, .int i, .int j => some (.ok (.int (i + j)) hs)
  | .Sub, .int i, .int j => some (.ok (.int (i - j)) hs)
  | .Add, a, b => match lstGet a hs.H, lstGet b hs.H with
    | some xs, some ys => match small (xs ++ ys) with
      | true => newO (.list (xs ++ ys)) hs
      | false => none
    | _, _ => none
  | .Mult, a, .int k => match tupGet a hs.H with
    | some [v] => match k with
      | .ofNat 0 => newO (.tup []) hs
      | .ofNat 1 => some (.ok a hs)
      | .ofNat 2 => newO (.tup [v, v]) hs
      | _ => none
    | _ => none
  | _, _, _ => none
noncomputable def nth (xs : List AV) (n : Nat) : Option AV := match Nat.ble n 1000 with
  | true => xs[n]?
  | false => none
noncomputable def subV (a b : AV) (H : AHeap) : Option AV := match b with
  | .int k => match lstGet a H with
    | some xs => match k with
      | .ofNat n => nth xs n
      | .negSucc 0 => xs.getLast?
      | _ => none
    | none => match tupGet a H with
      | some xs => match k with
        | .ofNat n => nth xs n
        | _ => none
      | none => none
  | _ => none
noncomputable def lenV (a : AV) (H : AHeap) : Option Nat := match lstGet a H with
  | some xs => some xs.length
  | none => match tupGet a H with
    | some xs => some xs.length
    | none => none
noncomputable def digit (k : Nat) : Str := ⟨#[48 + k]⟩
/-- the one split of the text -/
noncomputable def ariS : Str := "+ - * / **"
noncomputable def ariL : List Str := ["+", "-", "*", "/", "**"]
noncomputable def notStar : Expr → Bool
  | .Starred .. => false
  | _ => true
noncomputable def evs (r : Ev) (cc : CC) (loc : Loc) : List Expr → HS → Option (Out (List AV))
  | [], hs => some (.ok [] hs)
  | e :: es, hs => match notStar e with
    | true => obind (r.e cc loc e hs) fun v hs => obind (evs r cc loc es hs) fun vs hs => some (.ok (v :: vs) hs)
    | false => none
noncomputable def fnAt (a : Addr) : List FnI → Option FnI
  | [] => none
  | f :: r => match Nat.beq f.at_ a with
    | true => some f
    | false => fnAt a r
termination_by structural l => l
noncomputable def clsAt (a : Addr) : Option Addr := match a with
  | 89 => some 79
  | 117 => some 107
  | 164 => some 135
  | 190 => some 182
  | 394 => some 377
  | _ => none
noncomputable def callable (v : AV) : Bool := match v with
  | .glob a => match fnAt a fnL, clsAt a with
    | none, none => false
    | _, _ => true
  | .bi _ | .ty _ => true
  | _ => false
noncomputable def avLast : List AV → Option (List AV × AV)
  | [] => none
  | [x] => some ([], x)
  | x :: r => match avLast r with
    | some (ys, y) => some (x :: ys, y)
    | none => none
/-- a method of what the value is -/
noncomputable def methV (r : Ev) (hand : Option Nat) (v : AV) (name : Str) (args : List AV) (hs : HS) : Option (Out AV) := match v with
  | .str s => match sq name "split", args with
    | true, [.str sep] => match sq sep " " && sq s ariS with
      | true => newO (.list (ariL.map .str)) hs
      | false => none
    | _, _ => none
  | .ref i => match hget i hs.H with
    | some (.list xs) => match small xs with
      | true => match sq name "append", args with
        | true, [x] => some (.ok .none (setO i (.list (xs ++ [x])) hs))
        | _, _ => match sq name "pop", args with
          | true, [] => match avLast xs with
            | some (ys, y) => some (.ok y (setO i (.list ys) hs))
            | none => none
          | _, _ => match sq name "extend", args with
            | true, [x] => match lstGet x hs.H with
              | some ys => match small ys with
                | true => some (.ok .none (setO i (.list (xs ++ ys)) hs))
                | false => none
              | none => none
            | _, _ => none
      | false => none
    | some (.inst C _) => match Nat.beq C 164, sq name "add" with
      | true, true => r.call hand (.glob 142) (v :: args) hs
      | _, _ => none
    | _ => none
  | _ => none
noncomputable def notSet : Expr → Bool
  | .Set .. => false
  | _ => true
noncomputable def plainAll : List Expr → Bool
  | [] => true
  | e :: r => notStar e && plainAll r
noncomputable def notSlice : Expr → Bool
  | .Slice .. => false
  | _ => true
/-- a base whose attribute is read plainly -/
noncomputable def baseOk : Expr → Bool
  | .Name .. => true
  | .Attribute .. => true
  | .Subscript .. => true
  | _ => false
/-- what the name's method is, at the reading -/
noncomputable def methOk (v : AV) (name : Str) (H : AHeap) : Bool := match v with
  | .str _ => sq name "split"
  | .ref i => match hget i H with
    | some (.list _) => sq name "append" || sq name "pop" || sq name "extend"
    | some (.inst C fs) => Nat.beq C 164 && sq name "add" && (match fget name fs with | none => true | some _ => false)
    | _ => false
  | _ => false
/-- the block's view of names -/
noncomputable def isLocK : Option NameKind → Bool
  | some .local => true
  | _ => false
noncomputable def nmOk (cc : CC) (all : List (Str × NameKind)) : List (Str × NameKind) → Bool
  | [] => true
  | (y, k) :: r => match k with
    | .local => isLocK (klook y all) && nmOk cc all r
    | .free => match cget y cc.cells with
      | some _ => nmOk cc all r
      | none => false
    | .cell => false
    | _ => nmOk cc all r
termination_by structural l => l
noncomputable def compCells (cs : List (Str × Nat)) : List (Str × NameKind) → List (Str × Nat)
  | [] => []
  | (y, k) :: r => match k with
    | .free => match cget y cs with
      | some i => (y, i) :: compCells cs r
      | none => compCells cs r
    | _ => compCells cs r
termination_by structural l => l
noncomputable def isFnK : ScopeKind → Bool
  | .function => true
  | _ => false
noncomputable def compOk (cc : CC) (scope : Scope) (x : Str) : Bool := isFnK scope.kind && (isLocK (klook x scope.names) && nmOk cc scope.names scope.names)
noncomputable def compCC (cc : CC) (names : List (Str × NameKind)) : CC := ⟨fun n => match klook n names with
  | some .free => match cc.kind n with
    | some .cell => some .cell
    | _ => some .free
  | k => k, compCells cc.cells names, cc.hand⟩
noncomputable def compV (r : Ev) (cc : CC) (loc : Loc) (elt : Expr) (x : Str) (iter : Expr) (ifs : List Expr) (scope : Scope) (hs : HS) : Option (Out AV) := match compOk cc scope x && notSet iter with
  | true => obind (r.e cc loc iter hs) fun v hs => match lstGet v hs.H with
    | some _ => match r.cl (compCC cc scope.names) [] x ifs elt v 0 hs.n ⟨(hs.n, .list []) :: hs.H, hs.n + 1⟩ with
      | some (.ok _ hs') => some (.ok (.ref hs.n) hs')
      | _ => none
    | none => none
  | false => none
/-- the forms that are read -/
inductive EV : Expr → Type
  | const_ (k a p) : EV (.Constant k a p)
  | name_ (x p) : EV (.Name x p)
  | attr_ (o a p) : EV (.Attribute o a p)
  | rev_ (o a b c d p) : EV (.Subscript o (.Slice none none (some (.UnaryOp .USub (.Constant (.int (.ofNat 1)) a b) c)) d) p)
  | upto_ (o k a b c p) : EV (.Subscript o (.Slice none (some (.Constant (.int (.ofNat k)) a b)) none c) p)
  | sub_ (o i p) : EV (.Subscript o i p)
  | meth_ (o a ap args p) : EV (.Call (.Attribute o a ap) args [] p)
  | call_ (f fp args p) : EV (.Call (.Name f fp) args [] p)
  | list_ (es p) : EV (.List es p)
  | tup_ (es a p) : EV (.Tuple es a p)
  | dict0_ (p) : EV (.Dict [] [] p)
  | dict2_ (x a b y c d v e w f p) : EV (.Dict [some (.Constant (.str x) a b), some (.Constant (.str y) c d)] [.Name v e, .Name w f] p)
  | cmp_ (l op x p) : EV (.Compare l [op] [x] p)
  | bool1_ (o x p) : EV (.BoolOp o [x] p)
  | and_ (x y rest p) : EV (.BoolOp .And (x :: y :: rest) p)
  | or_ (x y rest p) : EV (.BoolOp .Or (x :: y :: rest) p)
  | not_ (x p) : EV (.UnaryOp .Not x p)
  | neg_ (x p) : EV (.UnaryOp .USub x p)
  | bin_ (l op x p) : EV (.BinOp l op x p)
  | ife_ (t a b p) : EV (.IfExp t a b p)
  | comp_ (elt x xp iter ifs scope p) : EV (.ListComp elt [⟨.Name x xp, iter, ifs, 0⟩] scope p)
  | other_ (x) : EV x
noncomputable def EV.of : (x : Expr) → EV x
  | .Constant k a p => .const_ k a p
  | .Name x p => .name_ x p
  | .Attribute o a p => .attr_ o a p
  | .Subscript o (.Slice none none (some (.UnaryOp .USub (.Constant (.int (.ofNat 1)) a b) c)) d) p => .rev_ o a b c d p
  | .Subscript o (.Slice none (some (.Constant (.int (.ofNat k)) a b)) none c) p => .upto_ o k a b c p
  | .Subscript o i p => .sub_ o i p
  | .Call (.Attribute o a ap) args [] p => .meth_ o a ap args p
  | .Call (.Name f fp) args [] p => .call_ f fp args p
  | .List es p => .list_ es p
  | .Tuple es a p => .tup_ es a p
  | .Dict [] [] p => .dict0_ p
  | .Dict [some (.Constant (.str x) a b), some (.Constant (.str y) c d)] [.Name v e, .Name w f] p => .dict2_ x a b y c d v e w f p
  | .Compare l [op] [x] p => .cmp_ l op x p
  | .BoolOp o [x] p => .bool1_ o x p
  | .BoolOp .And (x :: y :: rest) p => .and_ x y rest p
  | .BoolOp .Or (x :: y :: rest) p => .or_ x y rest p
  | .UnaryOp .Not x p => .not_ x p
  | .UnaryOp .USub x p => .neg_ x p
  | .BinOp l op x p => .bin_ l op x p
  | .IfExp t a b p => .ife_ t a b p
  | .ListComp elt [⟨.Name x xp, iter, ifs, 0⟩] scope p => .comp_ elt x xp iter ifs scope p
  | x => .other_ x
noncomputable def stepE (r : Ev) (cc : CC) (loc : Loc) (e : Expr) (hs : HS) : Option (Out AV) := match e, EV.of e with
  | _, .const_ k _ _ => oval (evConst k) hs
  | _, .name_ x _ => oval (evName cc loc x hs.H) hs
  | _, .attr_ o a _ => match baseOk o with
    | true => obind (r.e cc loc o hs) fun v hs => oval (attrV v a hs.H) hs
    | false => none
  | _, .rev_ o _ _ _ _ _ => obind (r.e cc loc o hs) fun v hs => match lstGet v hs.H with
    | some xs => match small xs with
      | true => newO (.list xs.reverse) hs
      | false => none
    | none => none
  | _, .upto_ o k _ _ _ _ => obind (r.e cc loc o hs) fun v hs => match lstGet v hs.H with
    | some xs => match small xs && Nat.ble k xs.length with
      | true => newO (.list (xs.take k)) hs
      | false => none
    | none => none
  | _, .sub_ o i _ => match notSlice i with
    | true => obind (r.e cc loc o hs) fun v hs => obind (r.e cc loc i hs) fun j hs => oval (subV v j hs.H) hs
    | false => none
  | _, .meth_ o a ap args p => match baseOk o && (Nat.beq ap.endLine p.line && (Nat.ble args.length 20 && plainAll args)) with
    | true => obind (r.e cc loc o hs) fun v hs => match methOk v a hs.H with
      | true => obind (evs r cc loc args hs) fun vs hs => methV r cc.hand v a vs hs
      | false => none
    | false => none
  | _, .call_ f fp args _ => obind (r.e cc loc (.Name f fp) hs) fun v hs => match callable v && plainAll args with
    | true => obind (evs r cc loc args hs) fun vs hs => r.call cc.hand v vs hs
    | false => none
  | _, .list_ es _ => obind (evs r cc loc es hs) fun vs hs => match small vs with
    | true => newO (.list vs) hs
    | false => none
  | _, .tup_ es _ _ => obind (evs r cc loc es hs) fun vs hs => match small vs with
    | true => newO (.tup vs) hs
    | false => none
  | _, .dict0_ _ => newO (.dict []) hs
  | _, .dict2_ x _ _ y _ _ v _ w _ _ => match evName cc loc v ((hs.n, .dict []) :: hs.H), evName cc loc w ((hs.n, .dict []) :: hs.H), sq x y with
    | some a, some b, false => newO (.dict [(x, a), (y, b)]) hs
    | _, _, _ => none
  | _, .cmp_ l op x _ => match notSet x with
    | true => obind (r.e cc loc l hs) fun a hs => obind (r.e cc loc x hs) fun b hs => match cmpV hs.H op a b with
      | some v => some (.ok (.bool v) hs)
      | none => none
    | false => none
  | _, .bool1_ _ x _ => r.e cc loc x hs
  | _, .and_ x y rest p => obind (r.e cc loc x hs) fun a hs => match a with
    | .bool true => r.e cc loc (.BoolOp .And (y :: rest) p) hs
    | .bool false => some (.ok (.bool false) hs)
    | _ => none
  | _, .or_ x y rest p => obind (r.e cc loc x hs) fun a hs => match a with
    | .bool false => r.e cc loc (.BoolOp .Or (y :: rest) p) hs
    | .bool true => some (.ok (.bool true) hs)
    | _ => none
  | _, .not_ x _ => obind (r.e cc loc x hs) fun a hs => match a with
    | .bool b => some (.ok (.bool !b) hs)
    | _ => none
  | _, .neg_ x _ => obind (r.e cc loc x hs) fun a hs => match a with
    | .int i => some (.ok (.int (-i)) hs)
    | _ => none
  | _, .bin_ l op x _ => obind (r.e cc loc l hs) fun a hs => obind (r.e cc loc x hs) fun b hs => binV op a b hs
  | _, .ife_ t a b _ => obind (r.t cc loc t hs) fun c hs => match c with
    | true => r.e cc loc a hs
    | false => r.e cc loc b hs
  | _, .comp_ elt x _ iter ifs scope _ => compV r cc loc elt x iter ifs scope hs
  | _, .other_ _ => none
/-- the forms that are read -/
inductive TV : Expr → Type
  | not_ (x p) : TV (.UnaryOp .Not x p)
  | and0_ (p) : TV (.BoolOp .And [] p)
  | and_ (x rest p) : TV (.BoolOp .And (x :: rest) p)
  | or0_ (p) : TV (.BoolOp .Or [] p)
  | or_ (x rest p) : TV (.BoolOp .Or (x :: rest) p)
  | cmp_ (l op x p) : TV (.Compare l [op] [x] p)
  | call_ (f args kw p) : TV (.Call f args kw p)
  | name_ (x p) : TV (.Name x p)
  | other_ (x) : TV x
noncomputable def TV.of : (x : Expr) → TV x
  | .UnaryOp .Not x p => .not_ x p
  | .BoolOp .And [] p => .and0_ p
  | .BoolOp .And (x :: rest) p => .and_ x rest p
  | .BoolOp .Or [] p => .or0_ p
  | .BoolOp .Or (x :: rest) p => .or_ x rest p
  | .Compare l [op] [x] p => .cmp_ l op x p
  | .Call f args kw p => .call_ f args kw p
  | .Name x p => .name_ x p
  | x => .other_ x
noncomputable def stepT (r : Ev) (cc : CC) (loc : Loc) (e : Expr) (hs : HS) : Option (Out Bool) := match e, TV.of e with
  | _, .not_ x _ => obind (r.t cc loc x hs) fun b hs => some (.ok (!b) hs)
  | _, .and0_ _ => some (.ok true hs)
  | _, .and_ x rest p => obind (r.t cc loc x hs) fun b hs => match b with
    | true => r.t cc loc (.BoolOp .And rest p) hs
    | false => some (.ok false hs)
  | _, .or0_ _ => some (.ok false hs)
  | _, .or_ x rest p => obind (r.t cc loc x hs) fun b hs => match b with
    | true => some (.ok true hs)
    | false => r.t cc loc (.BoolOp .Or rest p) hs
  | _, .cmp_ l op x _ => match notSet x with
    | true => obind (r.e cc loc l hs) fun a hs => obind (r.e cc loc x hs) fun b hs => oval (cmpV hs.H op a b) hs
    | false => none
  | _, .call_ f args kw p => obind (r.e cc loc (.Call f args kw p) hs) fun a hs => match a with
    | .bool b => some (.ok b hs)
    | _ => none
  | _, .name_ x p => obind (r.e cc loc (.Name x p) hs) fun a hs => match a with
    | .bool b => some (.ok b hs)
    | _ => none
  | _, .other_ _ => none
/-- what a For's target takes -/
noncomputable def isLoc (cc : CC) (x : Str) : Bool := match cc.kind x with
  | some .local => true
  | _ => false
inductive BV : Expr → Type
  | name_ (x p) : BV (.Name x p)
  | pair_ (x p y q k r) : BV (.Tuple [.Name x p, .Name y q] k r)
  | other_ (x) : BV x
noncomputable def BV.of : (x : Expr) → BV x
  | .Name x p => .name_ x p
  | .Tuple [.Name x p, .Name y q] k r => .pair_ x p y q k r
  | x => .other_ x
noncomputable def bindT (cc : CC) (loc : Loc) (H : AHeap) (tg : Expr) (v : AV) : Option Loc := match tg, BV.of tg with
  | _, .name_ x _ => match isLoc cc x with
    | true => some (fput x v loc)
    | false => none
  | _, .pair_ x _ y _ _ _ => match isLoc cc x && isLoc cc y, cc.hand, tupGet v H with
    | true, none, some [a, b] => some (fput y b (fput x a loc))
    | _, _, _ => none
  | _, .other_ _ => none
noncomputable def srcAt (s : Src) (i : Nat) (H : AHeap) : Option (Option AV) := match s with
  | .lst v => match lstGet v H with
    | some xs => some xs[i]?
    | none => none
  | .tup v => match tupGet v H with
    | some xs => some xs[i]?
    | none => none
  | .rng n => match Nat.blt i n with
    | true => some (some (.int (.ofNat i)))
    | false => some none
noncomputable def dicEmpty (v : AV) (H : AHeap) : Bool := match v with
  | .ref j => match hget j H with
    | some (.dict []) => true
    | _ => false
  | _ => false
noncomputable def srcOf (v : AV) (H : AHeap) : Option Src := match lstGet v H with
  | some _ => some (.lst v)
  | none => match tupGet v H with
    | some _ => some (.tup v)
    | none => none
noncomputable def handFree (s : Src) (hand : Option Nat) (H : AHeap) : Bool := match hand with
  | none => true
  | some i => match s with
    | .tup _ => match hget i H with
      | some (.exc _) => true
      | _ => false
    | _ => false
noncomputable def stepFl (r : Ev) (cc : CC) (loc : Loc) (tg : Expr) (body : List Stmt) (s : Src) (i : Nat) (hs : HS) : Option (Out (Fl × Loc)) := match srcAt s i hs.H with
  | some none => match handFree s cc.hand hs.H with
    | true => some (.ok (.next, loc) hs)
    | false => none
  | some (some v) => match bindT cc loc hs.H tg v with
    | some loc => match r.ss cc loc body hs with
      | some (.ok (.next, loc) hs) => r.fl cc loc tg body s (i + 1) hs
      | some (.ok (.ret v, loc) hs) => some (.ok (.ret v, loc) hs)
      | _ => none
    | none => none
  | none => none
noncomputable def stepWl (r : Ev) (cc : CC) (loc : Loc) (test : Expr) (body : List Stmt) (hs : HS) : Option (Out (Fl × Loc)) := match r.t cc loc test hs with
  | some (.ok true hs) => match r.ss cc loc body hs with
    | some (.ok (.next, loc) hs) => r.wl cc loc test body hs
    | some (.ok (.ret v, loc) hs) => some (.ok (.ret v, loc) hs)
    | _ => none
  | some (.ok false hs) => some (.ok (.next, loc) hs)
  | _ => none
noncomputable def ifsV (r : Ev) (cc : CC) (loc : Loc) (ifs : List Expr) (hs : HS) : Option (Out Bool) := match ifs with
  | [] => some (.ok true hs)
  | [e] => r.t cc loc e hs
  | _ => none
noncomputable def stepCl (r : Ev) (cc : CC) (loc : Loc) (x : Str) (ifs : List Expr) (elt : Expr) (s : AV) (i : Nat) (acc : Nat) (hs : HS) : Option (Out Unit) := match lstGet s hs.H with
  | some xs => match xs[i]? with
    | none => match cc.hand with
      | none => some (.ok () hs)
      | some _ => none
    | some v => match ifsV r cc (fput x v loc) ifs hs with
      | some (.ok true hs) => match r.e cc (fput x v loc) elt hs with
        | some (.ok y hs) => match hget acc hs.H with
          | some (.list ys) => match small ys with
            | true => r.cl cc (fput x v loc) x ifs elt s (i + 1) acc (setO acc (.list (ys ++ [y])) hs)
            | false => none
          | _ => none
        | _ => none
      | some (.ok false hs) => r.cl cc (fput x v loc) x ifs elt s (i + 1) acc hs
      | _ => none
  | none => none
noncomputable def noNm (y : Str) (l : List (Str × NameKind)) : Bool := match klook y l with
  | none => true
  | some _ => false
noncomputable def isGl : Option NameKind → Bool
  | some .globalImplicit => true
  | _ => false
noncomputable def isComp : Expr → Bool
  | .ListComp .. => true
  | .SetComp .. => true
  | .DictComp .. => true
  | _ => false
/-- the forms that are read -/
inductive SV : Stmt → Type
  | pass_ (p) : SV (.Pass p)
  | ret0_ (p) : SV (.Return none p)
  | ret_ (e p) : SV (.Return (some e) p)
  | expr_ (f args kw p q) : SV (.Expr (.Call f args kw p) q)
  | asgC_ (y yp elt x xp iter ifs scope pos q) : SV (.Assign [.Name y yp] (.ListComp elt [⟨.Name x xp, iter, ifs, 0⟩] scope pos) q)
  | asg_ (x p e q) : SV (.Assign [.Name x p] e q)
  | asgA_ (o a p e q) : SV (.Assign [.Attribute o a p] e q)
  | ifs_ (t a b p) : SV (.If t a b p)
  | raise_ (x xp e p q) : SV (.Raise (some (.Call (.Name x xp) [e] [] p)) none q)
  | whil_ (t a p) : SV (.While t a [] p)
  | forR_ (tg x px k nn pk pc body pos) : SV (.For tg (.Call (.Name x px) [.Constant (.int (.ofNat k)) nn pk] [] pc) body [] pos)
  | for_ (tg it body pos) : SV (.For tg it body [] pos)
  | tryR_ (e pr x px b₀ hb ph pos) : SV (.Try [.Return (some e) pr] [.ExceptHandler (some (.Name x px)) none (b₀ :: hb) ph] [] [] pos)
  | tryA_ (y py e pe x px nm b₀ hb ph pos) : SV (.Try [.Assign [.Name y py] e pe] [.ExceptHandler (some (.Name x px)) (some nm) (b₀ :: hb) ph] [] [] pos)
  | other_ (x) : SV x
noncomputable def SV.of : (x : Stmt) → SV x
  | .Pass p => .pass_ p
  | .Return none p => .ret0_ p
  | .Return (some e) p => .ret_ e p
  | .Expr (.Call f args kw p) q => .expr_ f args kw p q
  | .Assign [.Name y yp] (.ListComp elt [⟨.Name x xp, iter, ifs, 0⟩] scope pos) q => .asgC_ y yp elt x xp iter ifs scope pos q
  | .Assign [.Name x p] e q => .asg_ x p e q
  | .Assign [.Attribute o a p] e q => .asgA_ o a p e q
  | .If t a b p => .ifs_ t a b p
  | .Raise (some (.Call (.Name x xp) [e] [] p)) none q => .raise_ x xp e p q
  | .While t a [] p => .whil_ t a p
  | .For tg (.Call (.Name x px) [.Constant (.int (.ofNat k)) nn pk] [] pc) body [] pos => .forR_ tg x px k nn pk pc body pos
  | .For tg it body [] pos => .for_ tg it body pos
  | .Try [.Return (some e) pr] [.ExceptHandler (some (.Name x px)) none (b₀ :: hb) ph] [] [] pos => .tryR_ e pr x px b₀ hb ph pos
  | .Try [.Assign [.Name y py] e pe] [.ExceptHandler (some (.Name x px)) (some nm) (b₀ :: hb) ph] [] [] pos => .tryA_ y py e pe x px nm b₀ hb ph pos
  | x => .other_ x
noncomputable def stepS (r : Ev) (cc : CC) (loc : Loc) (st : Stmt) (hs : HS) : Option (Out (Fl × Loc)) := match st, SV.of st with
  | _, .pass_ _ => some (.ok (.next, loc) hs)
  | _, .ret0_ _ => some (.ok (.ret .none, loc) hs)
  | _, .ret_ e _ => obind (r.e cc loc e hs) fun v hs => some (.ok (.ret v, loc) hs)
  | _, .expr_ f args kw p _ => obind (r.e cc loc (.Call f args kw p) hs) fun _ hs => some (.ok (.next, loc) hs)
  | _, .asgC_ y yp elt x _ iter ifs scope pos _ => match isLoc cc y && (Nat.beq yp.line pos.line && noNm y scope.names) with
    | true => obind (compV r cc loc elt x iter ifs scope hs) fun v hs => some (.ok (.next, fput y v loc) hs)
    | false => none
  | _, .asg_ x _ e _ => match isComp e with
    | true => none
    | false => obind (r.e cc loc e hs) fun v hs => match cc.kind x with
      | some .local => some (.ok (.next, fput x v loc) hs)
      | some .cell => match cget x cc.cells with
        | some i => match hget i hs.H with
          | some (.cell _) => some (.ok (.next, loc) (setO i (.cell (some v)) hs))
          | _ => none
        | none => none
      | _ => none
  | _, .asgA_ o a _ e _ => match isComp e with
    | true => none
    | false => obind (r.e cc loc e hs) fun v hs => obind (r.e cc loc o hs) fun ov hs => match ov with
      | .ref i => match hget i hs.H with
        | some (.inst C fs) => match Nat.ble fs.length 100 && fldOk C a with
          | true => some (.ok (.next, loc) (setO i (.inst C (fput a v fs)) hs))
          | false => none
        | _ => none
      | _ => none
  | _, .ifs_ t a b _ => obind (r.t cc loc t hs) fun c hs => match c with
    | true => r.ss cc loc a hs
    | false => r.ss cc loc b hs
  | _, .raise_ x _ e _ _ => match sq x "CheckFault" && (isGl (cc.kind x) && notStar e), cc.hand with
    | true, none => obind (r.e cc loc e hs) fun v hs => match v with
      | .str msg => some (.exc msg hs)
      | _ => none
    | _, _ => none
  | _, .whil_ t a _ => match cc.hand with
    | none => r.wl cc loc t a hs
    | some _ => none
  | _, .forR_ tg x _ k _ _ _ body _ => match sq x "range" && (isGl (cc.kind x) && Nat.ble k 500), cc.hand with
    | true, none => r.fl cc loc tg body (.rng k) 0 hs
    | _, _ => none
  | _, .for_ tg it body _ => match notSet it with
    | true => obind (r.e cc loc it hs) fun v hs => match dicEmpty v hs.H, cc.hand with
      | true, none => some (.ok (.next, loc) hs)
      | _, _ => match srcOf v hs.H with
        | some s => r.fl cc loc tg body s 0 hs
        | none => none
    | false => none
  | _, .tryR_ e _ x _ b₀ hb _ _ => match sq x "CheckFault" && isGl (cc.kind x), cc.hand with
    | true, none => match r.e cc loc e hs with
      | some (.ok v hs) => some (.ok (.ret v, loc) hs)
      | some (.exc msg hs) => match r.ss ⟨cc.kind, cc.cells, some hs.n⟩ loc (b₀ :: hb) ⟨(hs.n, .exc msg) :: hs.H, hs.n + 1⟩ with
        | some (.ok p hs) => some (.ok p hs)
        | _ => none
      | none => none
    | _, _ => none
  | _, .tryA_ y _ e _ x _ nm b₀ hb _ _ => match sq x "CheckFault" && isGl (cc.kind x), cc.hand, isLoc cc y && (isLoc cc nm && !isComp e) with
    | true, none, true => match r.e cc loc e hs with
      | some (.ok v hs) => some (.ok (.next, fput y v loc) hs)
      | some (.exc msg hs) => match r.ss ⟨cc.kind, cc.cells, some hs.n⟩ (fput nm (.ref hs.n) loc) (b₀ :: hb) ⟨(hs.n, .exc msg) :: hs.H, hs.n + 1⟩ with
        | some (.ok (.ret v, _) hs) => some (.ok (.ret v, []) hs)
        | _ => none
      | none => none
    | _, _, _ => none
  | _, .other_ _ => none
noncomputable def stepSs (r : Ev) (cc : CC) (loc : Loc) (sts : List Stmt) (hs : HS) : Option (Out (Fl × Loc)) := match sts with
  | [] => some (.ok (.next, loc) hs)
  | st :: rest => obind (stepS r cc loc st hs) fun fl hs => match fl with
    | (.next, loc) => r.ss cc loc rest hs
    | (.ret v, loc) => some (.ok (.ret v, loc) hs)
/-! calls -/
noncomputable def dflt (a : Addr) : List AV := match a with
  | 377 => [.none, .str "display", .str "trailing", .bool false, .bool false, .bool false]
  | 299 => [.int 0]
  | 413 => [.int 1]
  | 430 => [.glob 421, .none, .glob 422]
  | 37 => [.glob 29]
  | _ => []
noncomputable def zipB : List Arg → List AV → Option (List (Str × AV))
  | [], [] => some []
  | p :: ps, v :: vs => match zipB ps vs with
    | some r => some ((p.arg, v) :: r)
    | none => none
  | _, _ => none
termination_by structural l => l
/-- the binds: the given, then the last of the defaults -/
noncomputable def binds (f : FnI) (vs : List AV) : Option (List (Str × AV)) := match Nat.beq vs.length f.params.args.length with
  | true => zipB f.params.args vs
  | false => match dfN f.at_ vs.length with
    | 0 => none
    | k + 1 => zipB f.params.args (vs ++ (dflt f.at_).drop ((dflt f.at_).length - (k + 1)))
/-- the cells: one for each name that is kept in one -/
noncomputable def cellsAt (names : List (Str × NameKind)) (n : Nat) : List (Str × Nat) := match names with
  | [] => []
  | (x, .cell) :: r => (x, n) :: cellsAt r (n + 1)
  | _ :: r => cellsAt r n
termination_by structural names
noncomputable def cellHeap (cs : List (Str × Nat)) (bs : Loc) (H : AHeap) : AHeap := match cs with
  | [] => H
  | (x, i) :: r => cellHeap r bs ((i, .cell (fget x bs)) :: H)
noncomputable def locOf (names : List (Str × NameKind)) : Loc → Loc
  | [] => []
  | (x, v) :: r => match klook x names with
    | some .local => (x, v) :: locOf names r
    | _ => locOf names r
noncomputable def isPure (a : Addr) : Bool := Nat.ble 201 a && Nat.ble a 362
noncomputable def refIx : AV → List Nat
  | .ref i => [i]
  | _ => []
noncomputable def memN (i : Nat) : List Nat → Bool
  | [] => false
  | j :: r => match Nat.beq j i with
    | true => true
    | false => memN i r
/-- what of the new objects an answer holds (two steps deep) -/
noncomputable def keepOf (v : AV) (H : AHeap) : List Nat := match v with
  | .ref i => i :: (match hget i H with
    | some (.list xs) | some (.tup xs) => xs.flatMap refIx
    | _ => [])
  | _ => []
noncomputable def sweep (n : Nat) (ks : List Nat) : AHeap → AHeap
  | [] => []
  | (i, ob) :: r => match Nat.blt i n with
    | true => (i, ob) :: r
    | false => match memN i ks with
      | true => (i, ob) :: sweep n ks r
      | false => sweep n ks r
noncomputable def callFn (r : Ev) (hand : Option Nat) (f : FnI) (args : List AV) (hs : HS) : Option (Out AV) := match binds f args with
  | some bs =>
    let names := f.scope.names
    let cs := cellsAt names hs.n
    match r.ss ⟨fun x => klook x names, cs, hand⟩ (locOf names bs) f.body ⟨cellHeap cs bs hs.H, hs.n + cs.length⟩ with
    | some (.ok fl hs') =>
      let v := match fl.1 with | .ret v => v | .next => .none
      match isPure f.at_ with
      | true => some (.ok v ⟨sweep hs.n (keepOf v hs'.H) hs'.H, hs'.n⟩)
      | false => some (.ok v hs')
    | some (.exc msg hs') => some (.exc msg ⟨sweep hs.n [] hs'.H, hs'.n⟩)
    | none => none
  | none => none
noncomputable def lawDraw (args : List AV) (hs : HS) : Option (Out AV) := match args with
  | [.ref i, .int k] => match hget i hs.H with
    | some (.src ((k', v) :: q)) => match k == k' with
      | true => some (.ok (.int v) (setO i (.src q) hs))
      | false => none
    | _ => none
  | _ => none
noncomputable def stepCall (r : Ev) (hand : Option Nat) (f : AV) (args : List AV) (hs : HS) : Option (Out AV) := match f with
  | .glob a => match Nat.beq a 405 with
    | true => lawDraw args hs
    | false => match fnAt a fnL with
      | some f => callFn r hand f args hs
      | none => match clsAt a with
        | some ini => match r.call hand (.glob ini) (.ref hs.n :: args) ⟨(hs.n, .inst a []) :: hs.H, hs.n + 1⟩ with
          | some (.ok .none hs') => some (.ok (.ref hs.n) hs')
          | _ => none
        | none => none
  | .bi b => match b == "len", args with
    | true, [x] => match lenV x hs.H with
      | some n => match Nat.ble n 1000 with
        | true => some (.ok (.int (.ofNat n)) hs)
        | false => none
      | none => none
    | _, _ => none
  | .ty t => match t == "tuple", args with
    | true, [x] => match tupGet x hs.H with
      | some _ => some (.ok x hs)
      | none => none
    | _, _ => match t == "str", args with
      | true, [.int (.ofNat k)] => match Nat.ble k 9 with
        | true => some (.ok (.str (digit k)) hs)
        | false => none
      | _, _ => none
  | _ => none
noncomputable def stepEv (r : Ev) : Ev := ⟨stepE r, stepT r, stepSs r, stepFl r, stepWl r, stepCl r, stepCall r⟩
noncomputable def run (n : Nat) : Ev := Nat.rec .nil (fun _ r => stepEv r) n
end Mine
end
section
open PySem PySem.W PyProof.Rows
set_option Elab.async false
set_option genInjectivity false
set_option genSizeOf false
set_option genSizeOfSpec false
namespace Mine
set_option maxRecDepth 100000
/-! the data, the leaves: what the evaluator gives (written by GenH) -/
noncomputable def fe (x : Str) (v : AV) : Str × AV := (x, v)
noncomputable def H1 : AHeap := [(79, .inst 394 [fe "category" (.str "numeric"), fe "size" (.int 4), fe "picture" (.none), fe "usage" (.str "display"), fe "sign" (.str "trailing"), fe "is_separate" (.bool false), fe "is_justified" (.bool false), fe "is_blank_zero" (.bool false), fe "digits" (.int 0), fe "scale" (.int 0), fe "is_signed" (.bool false)]), (78, .list []), (77, .list []), (76, .inst 164 [fe "level" (.int 5), fe "name" (.str "TWICE"), fe "picture_text" (.none), fe "usage" (.str ""), fe "sign" (.str ""), fe "is_separate" (.bool false), fe "occurs" (.none), fe "redefines" (.str ""), fe "value" (.none), fe "is_justified" (.bool false), fe "is_blank_zero" (.bool false), fe "conditions" (.ref 77), fe "kids" (.ref 78), fe "parent" (.ref 72), fe "renames" (.none), fe "base" (.str ""), fe "offset" (.int 0), fe "size" (.int 0), fe "shape" (.ref 79)]), (75, .inst 394 [fe "category" (.str "group"), fe "size" (.int 4), fe "picture" (.none), fe "usage" (.str "display"), fe "sign" (.str "trailing"), fe "is_separate" (.bool false), fe "is_justified" (.bool false), fe "is_blank_zero" (.bool false), fe "digits" (.int 0), fe "scale" (.int 0), fe "is_signed" (.bool false)]), (74, .list [.ref 76]), (73, .list []), (72, .inst 164 [fe "level" (.int 1), fe "name" (.str "Q1"), fe "picture_text" (.none), fe "usage" (.str ""), fe "sign" (.str ""), fe "is_separate" (.bool false), fe "occurs" (.none), fe "redefines" (.str ""), fe "value" (.none), fe "is_justified" (.bool false), fe "is_blank_zero" (.bool false), fe "conditions" (.ref 73), fe "kids" (.ref 74), fe "parent" (.none), fe "renames" (.none), fe "base" (.str ""), fe "offset" (.int 0), fe "size" (.int 0), fe "shape" (.ref 75)]), (71, .inst 394 [fe "category" (.str "numeric"), fe "size" (.int 4), fe "picture" (.none), fe "usage" (.str "display"), fe "sign" (.str "trailing"), fe "is_separate" (.bool false), fe "is_justified" (.bool false), fe "is_blank_zero" (.bool false), fe "digits" (.int 0), fe "scale" (.int 0), fe "is_signed" (.bool false)]), (70, .list []), (69, .list []), (68, .inst 164 [fe "level" (.int 5), fe "name" (.str "TWICE"), fe "picture_text" (.none), fe "usage" (.str ""), fe "sign" (.str ""), fe "is_separate" (.bool false), fe "occurs" (.none), fe "redefines" (.str ""), fe "value" (.none), fe "is_justified" (.bool false), fe "is_blank_zero" (.bool false), fe "conditions" (.ref 69), fe "kids" (.ref 70), fe "parent" (.ref 64), fe "renames" (.none), fe "base" (.str ""), fe "offset" (.int 0), fe "size" (.int 0), fe "shape" (.ref 71)]), (67, .inst 394 [fe "category" (.str "group"), fe "size" (.int 4), fe "picture" (.none), fe "usage" (.str "display"), fe "sign" (.str "trailing"), fe "is_separate" (.bool false), fe "is_justified" (.bool false), fe "is_blank_zero" (.bool false), fe "digits" (.int 0), fe "scale" (.int 0), fe "is_signed" (.bool false)]), (66, .list [.ref 68]), (65, .list []), (64, .inst 164 [fe "level" (.int 1), fe "name" (.str "Q0"), fe "picture_text" (.none), fe "usage" (.str ""), fe "sign" (.str ""), fe "is_separate" (.bool false), fe "occurs" (.none), fe "redefines" (.str ""), fe "value" (.none), fe "is_justified" (.bool false), fe "is_blank_zero" (.bool false), fe "conditions" (.ref 65), fe "kids" (.ref 66), fe "parent" (.none), fe "renames" (.none), fe "base" (.str ""), fe "offset" (.int 0), fe "size" (.int 0), fe "shape" (.ref 67)]), (63, .dict [fe "T-I" (.ref 41), fe "U-I" (.ref 52)]), (62, .inst 394 [fe "category" (.str "numeric"), fe "size" (.int 4), fe "picture" (.none), fe "usage" (.str "display"), fe "sign" (.str "trailing"), fe "is_separate" (.bool false), fe "is_justified" (.bool false), fe "is_blank_zero" (.bool false), fe "digits" (.int 0), fe "scale" (.int 0), fe "is_signed" (.bool false)]), (61, .list []), (60, .list []), (59, .inst 164 [fe "level" (.int 5), fe "name" (.str "V"), fe "picture_text" (.none), fe "usage" (.str ""), fe "sign" (.str ""), fe "is_separate" (.bool false), fe "occurs" (.none), fe "redefines" (.str ""), fe "value" (.none), fe "is_justified" (.bool false), fe "is_blank_zero" (.bool false), fe "conditions" (.ref 60), fe "kids" (.ref 61), fe "parent" (.ref 52), fe "renames" (.none), fe "base" (.str ""), fe "offset" (.int 0), fe "size" (.int 0), fe "shape" (.ref 62)]), (58, .inst 89 [fe "low" (.int 1), fe "high" (.int 2), fe "depending" (.none), fe "keys" (.ref 56), fe "indexes" (.ref 57)]), (57, .tup [.str "U-I"]), (56, .tup []), (55, .inst 394 [fe "category" (.str "group"), fe "size" (.int 4), fe "picture" (.none), fe "usage" (.str "display"), fe "sign" (.str "trailing"), fe "is_separate" (.bool false), fe "is_justified" (.bool false), fe "is_blank_zero" (.bool false), fe "digits" (.int 0), fe "scale" (.int 0), fe "is_signed" (.bool false)]), (54, .list [.ref 59]), (53, .list []), (52, .inst 164 [fe "level" (.int 5), fe "name" (.str "U"), fe "picture_text" (.none), fe "usage" (.str ""), fe "sign" (.str ""), fe "is_separate" (.bool false), fe "occurs" (.ref 58), fe "redefines" (.str ""), fe "value" (.none), fe "is_justified" (.bool false), fe "is_blank_zero" (.bool false), fe "conditions" (.ref 53), fe "kids" (.ref 54), fe "parent" (.ref 41), fe "renames" (.none), fe "base" (.str ""), fe "offset" (.int 0), fe "size" (.int 0), fe "shape" (.ref 55)]), (51, .inst 394 [fe "category" (.str "numeric"), fe "size" (.int 4), fe "picture" (.none), fe "usage" (.str "display"), fe "sign" (.str "trailing"), fe "is_separate" (.bool false), fe "is_justified" (.bool false), fe "is_blank_zero" (.bool false), fe "digits" (.int 0), fe "scale" (.int 0), fe "is_signed" (.bool false)]), (50, .list []), (49, .list []), (48, .inst 164 [fe "level" (.int 5), fe "name" (.str "K"), fe "picture_text" (.none), fe "usage" (.str ""), fe "sign" (.str ""), fe "is_separate" (.bool false), fe "occurs" (.none), fe "redefines" (.str ""), fe "value" (.none), fe "is_justified" (.bool false), fe "is_blank_zero" (.bool false), fe "conditions" (.ref 49), fe "kids" (.ref 50), fe "parent" (.ref 41), fe "renames" (.none), fe "base" (.str ""), fe "offset" (.int 0), fe "size" (.int 0), fe "shape" (.ref 51)]), (47, .inst 89 [fe "low" (.int 1), fe "high" (.int 3), fe "depending" (.none), fe "keys" (.ref 45), fe "indexes" (.ref 46)]), (46, .tup [.str "T-I"]), (45, .tup []), (44, .inst 394 [fe "category" (.str "group"), fe "size" (.int 4), fe "picture" (.none), fe "usage" (.str "display"), fe "sign" (.str "trailing"), fe "is_separate" (.bool false), fe "is_justified" (.bool false), fe "is_blank_zero" (.bool false), fe "digits" (.int 0), fe "scale" (.int 0), fe "is_signed" (.bool false)]), (43, .list [.ref 48, .ref 52]), (42, .list []), (41, .inst 164 [fe "level" (.int 5), fe "name" (.str "T"), fe "picture_text" (.none), fe "usage" (.str ""), fe "sign" (.str ""), fe "is_separate" (.bool false), fe "occurs" (.ref 47), fe "redefines" (.str ""), fe "value" (.none), fe "is_justified" (.bool false), fe "is_blank_zero" (.bool false), fe "conditions" (.ref 42), fe "kids" (.ref 43), fe "parent" (.ref 6), fe "renames" (.none), fe "base" (.str ""), fe "offset" (.int 0), fe "size" (.int 0), fe "shape" (.ref 44)]), (40, .inst 394 [fe "category" (.str "index"), fe "size" (.int 4), fe "picture" (.none), fe "usage" (.str "display"), fe "sign" (.str "trailing"), fe "is_separate" (.bool false), fe "is_justified" (.bool false), fe "is_blank_zero" (.bool false), fe "digits" (.int 0), fe "scale" (.int 0), fe "is_signed" (.bool false)]), (39, .list []), (38, .list []), (37, .inst 164 [fe "level" (.int 5), fe "name" (.str "IX"), fe "picture_text" (.none), fe "usage" (.str ""), fe "sign" (.str ""), fe "is_separate" (.bool false), fe "occurs" (.none), fe "redefines" (.str ""), fe "value" (.none), fe "is_justified" (.bool false), fe "is_blank_zero" (.bool false), fe "conditions" (.ref 38), fe "kids" (.ref 39), fe "parent" (.ref 6), fe "renames" (.none), fe "base" (.str ""), fe "offset" (.int 0), fe "size" (.int 0), fe "shape" (.ref 40)]), (36, .inst 394 [fe "category" (.str "edited"), fe "size" (.int 4), fe "picture" (.none), fe "usage" (.str "display"), fe "sign" (.str "trailing"), fe "is_separate" (.bool false), fe "is_justified" (.bool false), fe "is_blank_zero" (.bool false), fe "digits" (.int 0), fe "scale" (.int 0), fe "is_signed" (.bool false)]), (35, .list []), (34, .list []), (33, .inst 164 [fe "level" (.int 5), fe "name" (.str "NE"), fe "picture_text" (.none), fe "usage" (.str ""), fe "sign" (.str ""), fe "is_separate" (.bool false), fe "occurs" (.none), fe "redefines" (.str ""), fe "value" (.none), fe "is_justified" (.bool false), fe "is_blank_zero" (.bool false), fe "conditions" (.ref 34), fe "kids" (.ref 35), fe "parent" (.ref 6), fe "renames" (.none), fe "base" (.str ""), fe "offset" (.int 0), fe "size" (.int 0), fe "shape" (.ref 36)]), (32, .inst 394 [fe "category" (.str "numeric"), fe "size" (.int 4), fe "picture" (.none), fe "usage" (.str "display"), fe "sign" (.str "trailing"), fe "is_separate" (.bool false), fe "is_justified" (.bool false), fe "is_blank_zero" (.bool false), fe "digits" (.int 0), fe "scale" (.int 0), fe "is_signed" (.bool false)]), (31, .list []), (30, .list []), (29, .inst 164 [fe "level" (.int 5), fe "name" (.str "NU"), fe "picture_text" (.none), fe "usage" (.str ""), fe "sign" (.str ""), fe "is_separate" (.bool false), fe "occurs" (.none), fe "redefines" (.str ""), fe "value" (.none), fe "is_justified" (.bool false), fe "is_blank_zero" (.bool false), fe "conditions" (.ref 30), fe "kids" (.ref 31), fe "parent" (.ref 6), fe "renames" (.none), fe "base" (.str ""), fe "offset" (.int 0), fe "size" (.int 0), fe "shape" (.ref 32)]), (28, .inst 394 [fe "category" (.str "alnum-edited"), fe "size" (.int 4), fe "picture" (.none), fe "usage" (.str "display"), fe "sign" (.str "trailing"), fe "is_separate" (.bool false), fe "is_justified" (.bool false), fe "is_blank_zero" (.bool false), fe "digits" (.int 0), fe "scale" (.int 0), fe "is_signed" (.bool false)]), (27, .list []), (26, .list []), (25, .inst 164 [fe "level" (.int 5), fe "name" (.str "AE"), fe "picture_text" (.none), fe "usage" (.str ""), fe "sign" (.str ""), fe "is_separate" (.bool false), fe "occurs" (.none), fe "redefines" (.str ""), fe "value" (.none), fe "is_justified" (.bool false), fe "is_blank_zero" (.bool false), fe "conditions" (.ref 26), fe "kids" (.ref 27), fe "parent" (.ref 6), fe "renames" (.none), fe "base" (.str ""), fe "offset" (.int 0), fe "size" (.int 0), fe "shape" (.ref 28)]), (24, .inst 394 [fe "category" (.str "alphanumeric"), fe "size" (.int 4), fe "picture" (.none), fe "usage" (.str "display"), fe "sign" (.str "trailing"), fe "is_separate" (.bool false), fe "is_justified" (.bool false), fe "is_blank_zero" (.bool false), fe "digits" (.int 0), fe "scale" (.int 0), fe "is_signed" (.bool false)]), (23, .list []), (22, .list []), (21, .inst 164 [fe "level" (.int 5), fe "name" (.str "AN"), fe "picture_text" (.none), fe "usage" (.str ""), fe "sign" (.str ""), fe "is_separate" (.bool false), fe "occurs" (.none), fe "redefines" (.str ""), fe "value" (.none), fe "is_justified" (.bool false), fe "is_blank_zero" (.bool false), fe "conditions" (.ref 22), fe "kids" (.ref 23), fe "parent" (.ref 6), fe "renames" (.none), fe "base" (.str ""), fe "offset" (.int 0), fe "size" (.int 0), fe "shape" (.ref 24)]), (20, .inst 394 [fe "category" (.str "alphabetic"), fe "size" (.int 4), fe "picture" (.none), fe "usage" (.str "display"), fe "sign" (.str "trailing"), fe "is_separate" (.bool false), fe "is_justified" (.bool false), fe "is_blank_zero" (.bool false), fe "digits" (.int 0), fe "scale" (.int 0), fe "is_signed" (.bool false)]), (19, .list []), (18, .list []), (17, .inst 164 [fe "level" (.int 5), fe "name" (.str "AL"), fe "picture_text" (.none), fe "usage" (.str ""), fe "sign" (.str ""), fe "is_separate" (.bool false), fe "occurs" (.none), fe "redefines" (.str ""), fe "value" (.none), fe "is_justified" (.bool false), fe "is_blank_zero" (.bool false), fe "conditions" (.ref 18), fe "kids" (.ref 19), fe "parent" (.ref 6), fe "renames" (.none), fe "base" (.str ""), fe "offset" (.int 0), fe "size" (.int 0), fe "shape" (.ref 20)]), (16, .tup [.ref 10, .ref 11, .ref 12, .ref 13, .ref 14, .ref 15]), (15, .tup [.str "IX", .str "index"]), (14, .tup [.str "NE", .str "edited"]), (13, .tup [.str "NU", .str "numeric"]), (12, .tup [.str "AE", .str "alnum-edited"]), (11, .tup [.str "AN", .str "alphanumeric"]), (10, .tup [.str "AL", .str "alphabetic"]), (9, .inst 394 [fe "category" (.str "group"), fe "size" (.int 60), fe "picture" (.none), fe "usage" (.str "display"), fe "sign" (.str "trailing"), fe "is_separate" (.bool false), fe "is_justified" (.bool false), fe "is_blank_zero" (.bool false), fe "digits" (.int 0), fe "scale" (.int 0), fe "is_signed" (.bool false)]), (8, .list [.ref 17, .ref 21, .ref 25, .ref 29, .ref 33, .ref 37, .ref 41]), (7, .list []), (6, .inst 164 [fe "level" (.int 1), fe "name" (.str "R"), fe "picture_text" (.none), fe "usage" (.str ""), fe "sign" (.str ""), fe "is_separate" (.bool false), fe "occurs" (.none), fe "redefines" (.str ""), fe "value" (.none), fe "is_justified" (.bool false), fe "is_blank_zero" (.bool false), fe "conditions" (.ref 7), fe "kids" (.ref 8), fe "parent" (.none), fe "renames" (.none), fe "base" (.str ""), fe "offset" (.int 0), fe "size" (.int 0), fe "shape" (.ref 9)]), (5, .dict []), (4, .list []), (3, .dict []), (2, .list []), (1, .list [.ref 6, .ref 64, .ref 72]), (0, .inst 190 [fe "working" (.ref 1), fe "linkage" (.ref 2), fe "files" (.ref 3), fe "sorts" (.ref 4), fe "size" (.int 0), fe "indexes" (.ref 63)])]
noncomputable def HD : AHeap := [(88, .inst 117 [fe "name" (.str "BOTH"), fe "rows" (.ref 87)]), (87, .tup []), (86, .inst 117 [fe "name" (.str "BOTH"), fe "rows" (.ref 85)]), (85, .tup []), (84, .list [.ref 17, .ref 21]), (83, .inst 117 [fe "name" (.str "DEEP"), fe "rows" (.ref 82)]), (82, .tup []), (81, .inst 117 [fe "name" (.str "YES"), fe "rows" (.ref 80)]), (80, .tup []), (79, .inst 394 [fe "category" (.str "numeric"), fe "size" (.int 4), fe "picture" (.none), fe "usage" (.str "display"), fe "sign" (.str "trailing"), fe "is_separate" (.bool false), fe "is_justified" (.bool false), fe "is_blank_zero" (.bool false), fe "digits" (.int 0), fe "scale" (.int 0), fe "is_signed" (.bool false)]), (78, .list []), (77, .list []), (76, .inst 164 [fe "level" (.int 5), fe "name" (.str "TWICE"), fe "picture_text" (.none), fe "usage" (.str ""), fe "sign" (.str ""), fe "is_separate" (.bool false), fe "occurs" (.none), fe "redefines" (.str ""), fe "value" (.none), fe "is_justified" (.bool false), fe "is_blank_zero" (.bool false), fe "conditions" (.ref 77), fe "kids" (.ref 78), fe "parent" (.ref 72), fe "renames" (.none), fe "base" (.str ""), fe "offset" (.int 0), fe "size" (.int 0), fe "shape" (.ref 79)]), (75, .inst 394 [fe "category" (.str "group"), fe "size" (.int 4), fe "picture" (.none), fe "usage" (.str "display"), fe "sign" (.str "trailing"), fe "is_separate" (.bool false), fe "is_justified" (.bool false), fe "is_blank_zero" (.bool false), fe "digits" (.int 0), fe "scale" (.int 0), fe "is_signed" (.bool false)]), (74, .list [.ref 76]), (73, .list []), (72, .inst 164 [fe "level" (.int 1), fe "name" (.str "Q1"), fe "picture_text" (.none), fe "usage" (.str ""), fe "sign" (.str ""), fe "is_separate" (.bool false), fe "occurs" (.none), fe "redefines" (.str ""), fe "value" (.none), fe "is_justified" (.bool false), fe "is_blank_zero" (.bool false), fe "conditions" (.ref 73), fe "kids" (.ref 74), fe "parent" (.none), fe "renames" (.none), fe "base" (.str ""), fe "offset" (.int 0), fe "size" (.int 0), fe "shape" (.ref 75)]), (71, .inst 394 [fe "category" (.str "numeric"), fe "size" (.int 4), fe "picture" (.none), fe "usage" (.str "display"), fe "sign" (.str "trailing"), fe "is_separate" (.bool false), fe "is_justified" (.bool false), fe "is_blank_zero" (.bool false), fe "digits" (.int 0), fe "scale" (.int 0), fe "is_signed" (.bool false)]), (70, .list []), (69, .list []), (68, .inst 164 [fe "level" (.int 5), fe "name" (.str "TWICE"), fe "picture_text" (.none), fe "usage" (.str ""), fe "sign" (.str ""), fe "is_separate" (.bool false), fe "occurs" (.none), fe "redefines" (.str ""), fe "value" (.none), fe "is_justified" (.bool false), fe "is_blank_zero" (.bool false), fe "conditions" (.ref 69), fe "kids" (.ref 70), fe "parent" (.ref 64), fe "renames" (.none), fe "base" (.str ""), fe "offset" (.int 0), fe "size" (.int 0), fe "shape" (.ref 71)]), (67, .inst 394 [fe "category" (.str "group"), fe "size" (.int 4), fe "picture" (.none), fe "usage" (.str "display"), fe "sign" (.str "trailing"), fe "is_separate" (.bool false), fe "is_justified" (.bool false), fe "is_blank_zero" (.bool false), fe "digits" (.int 0), fe "scale" (.int 0), fe "is_signed" (.bool false)]), (66, .list [.ref 68]), (65, .list []), (64, .inst 164 [fe "level" (.int 1), fe "name" (.str "Q0"), fe "picture_text" (.none), fe "usage" (.str ""), fe "sign" (.str ""), fe "is_separate" (.bool false), fe "occurs" (.none), fe "redefines" (.str ""), fe "value" (.none), fe "is_justified" (.bool false), fe "is_blank_zero" (.bool false), fe "conditions" (.ref 65), fe "kids" (.ref 66), fe "parent" (.none), fe "renames" (.none), fe "base" (.str ""), fe "offset" (.int 0), fe "size" (.int 0), fe "shape" (.ref 67)]), (63, .dict [fe "T-I" (.ref 41), fe "U-I" (.ref 52)]), (62, .inst 394 [fe "category" (.str "numeric"), fe "size" (.int 4), fe "picture" (.none), fe "usage" (.str "display"), fe "sign" (.str "trailing"), fe "is_separate" (.bool false), fe "is_justified" (.bool false), fe "is_blank_zero" (.bool false), fe "digits" (.int 0), fe "scale" (.int 0), fe "is_signed" (.bool false)]), (61, .list []), (60, .list []), (59, .inst 164 [fe "level" (.int 5), fe "name" (.str "V"), fe "picture_text" (.none), fe "usage" (.str ""), fe "sign" (.str ""), fe "is_separate" (.bool false), fe "occurs" (.none), fe "redefines" (.str ""), fe "value" (.none), fe "is_justified" (.bool false), fe "is_blank_zero" (.bool false), fe "conditions" (.ref 60), fe "kids" (.ref 61), fe "parent" (.ref 52), fe "renames" (.none), fe "base" (.str ""), fe "offset" (.int 0), fe "size" (.int 0), fe "shape" (.ref 62)]), (58, .inst 89 [fe "low" (.int 1), fe "high" (.int 2), fe "depending" (.none), fe "keys" (.ref 56), fe "indexes" (.ref 57)]), (57, .tup [.str "U-I"]), (56, .tup []), (55, .inst 394 [fe "category" (.str "group"), fe "size" (.int 4), fe "picture" (.none), fe "usage" (.str "display"), fe "sign" (.str "trailing"), fe "is_separate" (.bool false), fe "is_justified" (.bool false), fe "is_blank_zero" (.bool false), fe "digits" (.int 0), fe "scale" (.int 0), fe "is_signed" (.bool false)]), (54, .list [.ref 59]), (53, .list []), (52, .inst 164 [fe "level" (.int 5), fe "name" (.str "U"), fe "picture_text" (.none), fe "usage" (.str ""), fe "sign" (.str ""), fe "is_separate" (.bool false), fe "occurs" (.ref 58), fe "redefines" (.str ""), fe "value" (.none), fe "is_justified" (.bool false), fe "is_blank_zero" (.bool false), fe "conditions" (.ref 53), fe "kids" (.ref 54), fe "parent" (.ref 41), fe "renames" (.none), fe "base" (.str ""), fe "offset" (.int 0), fe "size" (.int 0), fe "shape" (.ref 55)]), (51, .inst 394 [fe "category" (.str "numeric"), fe "size" (.int 4), fe "picture" (.none), fe "usage" (.str "display"), fe "sign" (.str "trailing"), fe "is_separate" (.bool false), fe "is_justified" (.bool false), fe "is_blank_zero" (.bool false), fe "digits" (.int 0), fe "scale" (.int 0), fe "is_signed" (.bool false)]), (50, .list []), (49, .list [.ref 83]), (48, .inst 164 [fe "level" (.int 5), fe "name" (.str "K"), fe "picture_text" (.none), fe "usage" (.str ""), fe "sign" (.str ""), fe "is_separate" (.bool false), fe "occurs" (.none), fe "redefines" (.str ""), fe "value" (.none), fe "is_justified" (.bool false), fe "is_blank_zero" (.bool false), fe "conditions" (.ref 49), fe "kids" (.ref 50), fe "parent" (.ref 41), fe "renames" (.none), fe "base" (.str ""), fe "offset" (.int 0), fe "size" (.int 0), fe "shape" (.ref 51)]), (47, .inst 89 [fe "low" (.int 1), fe "high" (.int 3), fe "depending" (.none), fe "keys" (.ref 45), fe "indexes" (.ref 46)]), (46, .tup [.str "T-I"]), (45, .tup []), (44, .inst 394 [fe "category" (.str "group"), fe "size" (.int 4), fe "picture" (.none), fe "usage" (.str "display"), fe "sign" (.str "trailing"), fe "is_separate" (.bool false), fe "is_justified" (.bool false), fe "is_blank_zero" (.bool false), fe "digits" (.int 0), fe "scale" (.int 0), fe "is_signed" (.bool false)]), (43, .list [.ref 48, .ref 52]), (42, .list []), (41, .inst 164 [fe "level" (.int 5), fe "name" (.str "T"), fe "picture_text" (.none), fe "usage" (.str ""), fe "sign" (.str ""), fe "is_separate" (.bool false), fe "occurs" (.ref 47), fe "redefines" (.str ""), fe "value" (.none), fe "is_justified" (.bool false), fe "is_blank_zero" (.bool false), fe "conditions" (.ref 42), fe "kids" (.ref 43), fe "parent" (.ref 6), fe "renames" (.none), fe "base" (.str ""), fe "offset" (.int 0), fe "size" (.int 0), fe "shape" (.ref 44)]), (40, .inst 394 [fe "category" (.str "index"), fe "size" (.int 4), fe "picture" (.none), fe "usage" (.str "display"), fe "sign" (.str "trailing"), fe "is_separate" (.bool false), fe "is_justified" (.bool false), fe "is_blank_zero" (.bool false), fe "digits" (.int 0), fe "scale" (.int 0), fe "is_signed" (.bool false)]), (39, .list []), (38, .list []), (37, .inst 164 [fe "level" (.int 5), fe "name" (.str "IX"), fe "picture_text" (.none), fe "usage" (.str ""), fe "sign" (.str ""), fe "is_separate" (.bool false), fe "occurs" (.none), fe "redefines" (.str ""), fe "value" (.none), fe "is_justified" (.bool false), fe "is_blank_zero" (.bool false), fe "conditions" (.ref 38), fe "kids" (.ref 39), fe "parent" (.ref 6), fe "renames" (.none), fe "base" (.str ""), fe "offset" (.int 0), fe "size" (.int 0), fe "shape" (.ref 40)]), (36, .inst 394 [fe "category" (.str "edited"), fe "size" (.int 4), fe "picture" (.none), fe "usage" (.str "display"), fe "sign" (.str "trailing"), fe "is_separate" (.bool false), fe "is_justified" (.bool false), fe "is_blank_zero" (.bool false), fe "digits" (.int 0), fe "scale" (.int 0), fe "is_signed" (.bool false)]), (35, .list []), (34, .list []), (33, .inst 164 [fe "level" (.int 5), fe "name" (.str "NE"), fe "picture_text" (.none), fe "usage" (.str ""), fe "sign" (.str ""), fe "is_separate" (.bool false), fe "occurs" (.none), fe "redefines" (.str ""), fe "value" (.none), fe "is_justified" (.bool false), fe "is_blank_zero" (.bool false), fe "conditions" (.ref 34), fe "kids" (.ref 35), fe "parent" (.ref 6), fe "renames" (.none), fe "base" (.str ""), fe "offset" (.int 0), fe "size" (.int 0), fe "shape" (.ref 36)]), (32, .inst 394 [fe "category" (.str "numeric"), fe "size" (.int 4), fe "picture" (.none), fe "usage" (.str "display"), fe "sign" (.str "trailing"), fe "is_separate" (.bool false), fe "is_justified" (.bool false), fe "is_blank_zero" (.bool false), fe "digits" (.int 0), fe "scale" (.int 0), fe "is_signed" (.bool false)]), (31, .list []), (30, .list [.ref 81]), (29, .inst 164 [fe "level" (.int 5), fe "name" (.str "NU"), fe "picture_text" (.none), fe "usage" (.str ""), fe "sign" (.str ""), fe "is_separate" (.bool false), fe "occurs" (.none), fe "redefines" (.str ""), fe "value" (.none), fe "is_justified" (.bool false), fe "is_blank_zero" (.bool false), fe "conditions" (.ref 30), fe "kids" (.ref 31), fe "parent" (.ref 6), fe "renames" (.none), fe "base" (.str ""), fe "offset" (.int 0), fe "size" (.int 0), fe "shape" (.ref 32)]), (28, .inst 394 [fe "category" (.str "alnum-edited"), fe "size" (.int 4), fe "picture" (.none), fe "usage" (.str "display"), fe "sign" (.str "trailing"), fe "is_separate" (.bool false), fe "is_justified" (.bool false), fe "is_blank_zero" (.bool false), fe "digits" (.int 0), fe "scale" (.int 0), fe "is_signed" (.bool false)]), (27, .list []), (26, .list []), (25, .inst 164 [fe "level" (.int 5), fe "name" (.str "AE"), fe "picture_text" (.none), fe "usage" (.str ""), fe "sign" (.str ""), fe "is_separate" (.bool false), fe "occurs" (.none), fe "redefines" (.str ""), fe "value" (.none), fe "is_justified" (.bool false), fe "is_blank_zero" (.bool false), fe "conditions" (.ref 26), fe "kids" (.ref 27), fe "parent" (.ref 6), fe "renames" (.none), fe "base" (.str ""), fe "offset" (.int 0), fe "size" (.int 0), fe "shape" (.ref 28)]), (24, .inst 394 [fe "category" (.str "alphanumeric"), fe "size" (.int 4), fe "picture" (.none), fe "usage" (.str "display"), fe "sign" (.str "trailing"), fe "is_separate" (.bool false), fe "is_justified" (.bool false), fe "is_blank_zero" (.bool false), fe "digits" (.int 0), fe "scale" (.int 0), fe "is_signed" (.bool false)]), (23, .list []), (22, .list [.ref 88]), (21, .inst 164 [fe "level" (.int 5), fe "name" (.str "AN"), fe "picture_text" (.none), fe "usage" (.str ""), fe "sign" (.str ""), fe "is_separate" (.bool false), fe "occurs" (.none), fe "redefines" (.str ""), fe "value" (.none), fe "is_justified" (.bool false), fe "is_blank_zero" (.bool false), fe "conditions" (.ref 22), fe "kids" (.ref 23), fe "parent" (.ref 6), fe "renames" (.none), fe "base" (.str ""), fe "offset" (.int 0), fe "size" (.int 0), fe "shape" (.ref 24)]), (20, .inst 394 [fe "category" (.str "alphabetic"), fe "size" (.int 4), fe "picture" (.none), fe "usage" (.str "display"), fe "sign" (.str "trailing"), fe "is_separate" (.bool false), fe "is_justified" (.bool false), fe "is_blank_zero" (.bool false), fe "digits" (.int 0), fe "scale" (.int 0), fe "is_signed" (.bool false)]), (19, .list []), (18, .list [.ref 86]), (17, .inst 164 [fe "level" (.int 5), fe "name" (.str "AL"), fe "picture_text" (.none), fe "usage" (.str ""), fe "sign" (.str ""), fe "is_separate" (.bool false), fe "occurs" (.none), fe "redefines" (.str ""), fe "value" (.none), fe "is_justified" (.bool false), fe "is_blank_zero" (.bool false), fe "conditions" (.ref 18), fe "kids" (.ref 19), fe "parent" (.ref 6), fe "renames" (.none), fe "base" (.str ""), fe "offset" (.int 0), fe "size" (.int 0), fe "shape" (.ref 20)]), (16, .tup [.ref 10, .ref 11, .ref 12, .ref 13, .ref 14, .ref 15]), (15, .tup [.str "IX", .str "index"]), (14, .tup [.str "NE", .str "edited"]), (13, .tup [.str "NU", .str "numeric"]), (12, .tup [.str "AE", .str "alnum-edited"]), (11, .tup [.str "AN", .str "alphanumeric"]), (10, .tup [.str "AL", .str "alphabetic"]), (9, .inst 394 [fe "category" (.str "group"), fe "size" (.int 60), fe "picture" (.none), fe "usage" (.str "display"), fe "sign" (.str "trailing"), fe "is_separate" (.bool false), fe "is_justified" (.bool false), fe "is_blank_zero" (.bool false), fe "digits" (.int 0), fe "scale" (.int 0), fe "is_signed" (.bool false)]), (8, .list [.ref 17, .ref 21, .ref 25, .ref 29, .ref 33, .ref 37, .ref 41]), (7, .list []), (6, .inst 164 [fe "level" (.int 1), fe "name" (.str "R"), fe "picture_text" (.none), fe "usage" (.str ""), fe "sign" (.str ""), fe "is_separate" (.bool false), fe "occurs" (.none), fe "redefines" (.str ""), fe "value" (.none), fe "is_justified" (.bool false), fe "is_blank_zero" (.bool false), fe "conditions" (.ref 7), fe "kids" (.ref 8), fe "parent" (.none), fe "renames" (.none), fe "base" (.str ""), fe "offset" (.int 0), fe "size" (.int 0), fe "shape" (.ref 9)]), (5, .dict []), (4, .list []), (3, .dict []), (2, .list []), (1, .list [.ref 6, .ref 64, .ref 72]), (0, .inst 190 [fe "working" (.ref 1), fe "linkage" (.ref 2), fe "files" (.ref 3), fe "sorts" (.ref 4), fe "size" (.int 0), fe "indexes" (.ref 63)])]
structure Lf where
  q : List (Int × Int)
  L : AHeap
  n : Nat
  p : Nat
  c : Nat
  d : Nat
  names : List Str
  ids : List Nat
  F : AHeap
  r : Nat
  n2 : Nat
noncomputable def pick (ks : List Nat) : AHeap → AHeap
  | [] => []
  | (i, ob) :: r => match memN i ks with
    | true => (i, ob) :: pick ks r
    | false => pick ks r
noncomputable def strsOf : List AV → Option (List Str)
  | [] => some []
  | .str s :: r => match strsOf r with
    | some l => some (s :: l)
    | none => none
  | _ :: _ => none
noncomputable def namesOf (H : AHeap) : List AV → Option (List Str)
  | [] => some []
  | .ref t :: r => match hget t H with
    | some (.tup [.str _, .str s]) => match namesOf H r with
      | some l => some (s :: l)
      | none => none
    | _ => none
  | _ :: _ => none
noncomputable def eqS : List Str → List Str → Bool
  | [], [] => true
  | x :: r, y :: s => sq x y && eqS r s
  | _, _ => false
noncomputable def avBelow (k : Nat) : AV → Bool
  | .ref i => Nat.blt i k
  | _ => true
noncomputable def obBelow (k : Nat) : AObj → Bool
  | .list xs => xs.all (avBelow k)
  | .tup xs => xs.all (avBelow k)
  | .inst _ fs => fs.all fun p => avBelow k p.2
  | .dict fs => fs.all fun p => avBelow k p.2
  | .cell (some v) => avBelow k v
  | _ => true
noncomputable def hBelow (k : Nat) (H : AHeap) : Bool := H.all fun p => Nat.blt p.1 k && obBelow k p.2
/-- what is asked of a leaf's words -/
noncomputable def lfChk (l : Lf) : Bool := (match hget l.p l.L with | some (.tup [.ref c, .ref d]) => Nat.beq c l.c && Nat.beq d l.d | _ => false) &&
  ((match hget l.d l.L with | some (.list xs) => (match strsOf xs with | some ns => eqS ns l.names | none => false) | _ => false) &&
  ((match hget l.r l.F with | some (.list xs) => (match namesOf l.F xs with | some ns => eqS ns l.names | none => false) | _ => false) &&
  (Nat.ble l.names.length 3 && (Nat.ble l.n 500 && (memN l.c l.ids && (Nat.ble 90 l.n && hBelow l.n (pick l.ids l.L)))))))
structure LfOk (l : Lf) : Prop where
  s : ∀ q, (run 200).call none (.glob 444) [.ref 89] ⟨(89, .src (l.q ++ q)) :: HD, 90⟩ = some (.ok (.ref l.p) ⟨l.L ++ (89, .src q) :: HD, l.n⟩)
  f : (run 200).call none (.glob 362) [.ref 0, .ref l.c] ⟨pick l.ids l.L ++ HD, l.n⟩ = some (.ok (.ref l.r) ⟨l.F ++ (pick l.ids l.L ++ HD), l.n2⟩)
  k : lfChk l = true
set_option maxRecDepth 1000000
theorem data1 : (run 200).call none (.glob 420) [] ⟨[], 0⟩ = some (.ok (.ref 0) ⟨H1, 80⟩) := by kernel_rfl
theorem data2 : (run 200).call none (.glob 437) [.ref 0] ⟨H1, 80⟩ = some (.ok .none ⟨HD, 89⟩) := by kernel_rfl
theorem hd_below : hBelow 89 HD = true := by kernel_rfl
noncomputable def lf0 : Lf := ⟨[(8, 0), (4, 0)], [(95, .tup [.ref 93, .ref 94]), (94, .list []), (93, .tup [.str "rel", .str "=", .ref 91, .ref 92]), (92, .tup [.str "text", .bytes #[97]]), (91, .tup [.str "ref", .str "AN", .glob 422, .glob 421, .none]), (90, .tup [.str "AN", .str "NU", .str "NO", .str "R"])], 96, 95, 93, 94, [], [93, 91, 92], [(163, .list [])], 163, 164⟩
theorem lk0 : LfOk lf0 := ⟨fun q => by kernel_rfl, by kernel_rfl, by kernel_rfl⟩
noncomputable def lf1 : Lf := ⟨[(8, 0), (4, 1)], [(95, .tup [.ref 93, .ref 94]), (94, .list []), (93, .tup [.str "rel", .str "=", .ref 91, .ref 92]), (92, .tup [.str "text", .bytes #[97]]), (91, .tup [.str "ref", .str "NU", .glob 422, .glob 421, .none]), (90, .tup [.str "AN", .str "NU", .str "NO", .str "R"])], 96, 95, 93, 94, [], [93, 91, 92], [(163, .list [])], 163, 164⟩
theorem lk1 : LfOk lf1 := ⟨fun q => by kernel_rfl, by kernel_rfl, by kernel_rfl⟩
noncomputable def lf2 : Lf := ⟨[(8, 0), (4, 2)], [(95, .tup [.ref 93, .ref 94]), (94, .list [.str "NO"]), (93, .tup [.str "rel", .str "=", .ref 91, .ref 92]), (92, .tup [.str "text", .bytes #[97]]), (91, .tup [.str "ref", .str "NO", .glob 422, .glob 421, .none]), (90, .tup [.str "AN", .str "NU", .str "NO", .str "R"])], 96, 95, 93, 94, ["NO"], [93, 91, 92], [(155, .list [.ref 148]), (148, .tup [.str "an unknown name: NO", .str "NO"])], 155, 156⟩
theorem lk2 : LfOk lf2 := ⟨fun q => by kernel_rfl, by kernel_rfl, by kernel_rfl⟩
noncomputable def lf3 : Lf := ⟨[(8, 0), (4, 3)], [(95, .tup [.ref 93, .ref 94]), (94, .list []), (93, .tup [.str "rel", .str "=", .ref 91, .ref 92]), (92, .tup [.str "text", .bytes #[97]]), (91, .tup [.str "ref", .str "R", .glob 422, .glob 421, .none]), (90, .tup [.str "AN", .str "NU", .str "NO", .str "R"])], 96, 95, 93, 94, [], [93, 91, 92], [(163, .list [])], 163, 164⟩
theorem lk3 : LfOk lf3 := ⟨fun q => by kernel_rfl, by kernel_rfl, by kernel_rfl⟩
noncomputable def lf4 : Lf := ⟨[(8, 1), (4, 0)], [(97, .tup [.ref 95, .ref 96]), (96, .list [.str "AN"]), (95, .tup [.str "rel", .str "<", .ref 92, .ref 94]), (94, .tup [.str "neg", .ref 93]), (93, .tup [.str "ref", .str "AN", .glob 422, .glob 421, .none]), (92, .tup [.str "number", .ref 91]), (91, .tup [.int 1, .int 0]), (90, .tup [.str "AN", .str "NU", .str "NO", .str "NE"])], 98, 97, 95, 96, ["AN"], [95, 92, 91, 94, 93], [(224, .list [.ref 223]), (223, .tup [.str "no number", .str "AN"])], 224, 225⟩
theorem lk4 : LfOk lf4 := ⟨fun q => by kernel_rfl, by kernel_rfl, by kernel_rfl⟩
noncomputable def lf5 : Lf := ⟨[(8, 1), (4, 1)], [(97, .tup [.ref 95, .ref 96]), (96, .list []), (95, .tup [.str "rel", .str "<", .ref 92, .ref 94]), (94, .tup [.str "neg", .ref 93]), (93, .tup [.str "ref", .str "NU", .glob 422, .glob 421, .none]), (92, .tup [.str "number", .ref 91]), (91, .tup [.int 1, .int 0]), (90, .tup [.str "AN", .str "NU", .str "NO", .str "NE"])], 98, 97, 95, 96, [], [95, 92, 91, 94, 93], [(223, .list [])], 223, 224⟩
theorem lk5 : LfOk lf5 := ⟨fun q => by kernel_rfl, by kernel_rfl, by kernel_rfl⟩
noncomputable def lf6 : Lf := ⟨[(8, 1), (4, 2)], [(97, .tup [.ref 95, .ref 96]), (96, .list [.str "NO"]), (95, .tup [.str "rel", .str "<", .ref 92, .ref 94]), (94, .tup [.str "neg", .ref 93]), (93, .tup [.str "ref", .str "NO", .glob 422, .glob 421, .none]), (92, .tup [.str "number", .ref 91]), (91, .tup [.int 1, .int 0]), (90, .tup [.str "AN", .str "NU", .str "NO", .str "NE"])], 98, 97, 95, 96, ["NO"], [95, 92, 91, 94, 93], [(158, .list [.ref 152]), (152, .tup [.str "an unknown name: NO", .str "NO"])], 158, 159⟩
theorem lk6 : LfOk lf6 := ⟨fun q => by kernel_rfl, by kernel_rfl, by kernel_rfl⟩
noncomputable def lf7 : Lf := ⟨[(8, 1), (4, 3)], [(97, .tup [.ref 95, .ref 96]), (96, .list [.str "NE"]), (95, .tup [.str "rel", .str "<", .ref 92, .ref 94]), (94, .tup [.str "neg", .ref 93]), (93, .tup [.str "ref", .str "NE", .glob 422, .glob 421, .none]), (92, .tup [.str "number", .ref 91]), (91, .tup [.int 1, .int 0]), (90, .tup [.str "AN", .str "NU", .str "NO", .str "NE"])], 98, 97, 95, 96, ["NE"], [95, 92, 91, 94, 93], [(224, .list [.ref 223]), (223, .tup [.str "no number", .str "NE"])], 224, 225⟩
theorem lk7 : LfOk lf7 := ⟨fun q => by kernel_rfl, by kernel_rfl, by kernel_rfl⟩
noncomputable def lf8 : Lf := ⟨[(8, 2), (3, 0)], [(94, .tup [.ref 92, .ref 93]), (93, .list []), (92, .tup [.str "class", .str "NUMERIC", .ref 91]), (91, .tup [.str "ref", .str "AN", .glob 422, .glob 421, .none]), (90, .tup [.str "AN", .str "NO", .str "K"])], 95, 94, 92, 93, [], [92, 91], [(152, .list [])], 152, 159⟩
theorem lk8 : LfOk lf8 := ⟨fun q => by kernel_rfl, by kernel_rfl, by kernel_rfl⟩
noncomputable def lf9 : Lf := ⟨[(8, 2), (3, 1)], [(94, .tup [.ref 92, .ref 93]), (93, .list [.str "NO"]), (92, .tup [.str "class", .str "NUMERIC", .ref 91]), (91, .tup [.str "ref", .str "NO", .glob 422, .glob 421, .none]), (90, .tup [.str "AN", .str "NO", .str "K"])], 95, 94, 92, 93, ["NO"], [92, 91], [(150, .list [.ref 146]), (146, .tup [.str "an unknown name: NO", .str "NO"])], 150, 151⟩
theorem lk9 : LfOk lf9 := ⟨fun q => by kernel_rfl, by kernel_rfl, by kernel_rfl⟩
noncomputable def lf10 : Lf := ⟨[(8, 2), (3, 2)], [(94, .tup [.ref 92, .ref 93]), (93, .list [.str "K"]), (92, .tup [.str "class", .str "NUMERIC", .ref 91]), (91, .tup [.str "ref", .str "K", .glob 422, .glob 421, .none]), (90, .tup [.str "AN", .str "NO", .str "K"])], 95, 94, 92, 93, ["K"], [92, 91], [(159, .tup [.str "another number of subscripts", .str "K"]), (152, .list [.ref 159])], 152, 160⟩
theorem lk10 : LfOk lf10 := ⟨fun q => by kernel_rfl, by kernel_rfl, by kernel_rfl⟩
noncomputable def lf11 : Lf := ⟨[(8, 3), (4, 0)], [(95, .tup [.ref 92, .ref 94]), (94, .list []), (93, .tup [.str "NU", .str "T-I"]), (92, .tup [.str "sign", .str "ZERO", .ref 91]), (91, .tup [.str "ref", .str "NU", .glob 422, .glob 421, .none]), (90, .tup [.str "NU", .str "AN", .str "T-I", .str "NO"])], 96, 95, 92, 94, [], [92, 91], [(154, .list [])], 154, 219⟩
theorem lk11 : LfOk lf11 := ⟨fun q => by kernel_rfl, by kernel_rfl, by kernel_rfl⟩
noncomputable def lf12 : Lf := ⟨[(8, 3), (4, 1)], [(95, .tup [.ref 92, .ref 94]), (94, .list [.str "AN"]), (93, .tup [.str "NU", .str "T-I"]), (92, .tup [.str "sign", .str "ZERO", .ref 91]), (91, .tup [.str "ref", .str "AN", .glob 422, .glob 421, .none]), (90, .tup [.str "NU", .str "AN", .str "T-I", .str "NO"])], 96, 95, 92, 94, ["AN"], [92, 91], [(219, .tup [.str "no number", .str "AN"]), (154, .list [.ref 219])], 154, 220⟩
theorem lk12 : LfOk lf12 := ⟨fun q => by kernel_rfl, by kernel_rfl, by kernel_rfl⟩
noncomputable def lf13 : Lf := ⟨[(8, 3), (4, 2)], [(95, .tup [.ref 92, .ref 94]), (94, .list []), (93, .tup [.str "NU", .str "T-I"]), (92, .tup [.str "sign", .str "ZERO", .ref 91]), (91, .tup [.str "ref", .str "T-I", .glob 422, .glob 421, .none]), (90, .tup [.str "NU", .str "AN", .str "T-I", .str "NO"])], 96, 95, 92, 94, [], [92, 91], [(100, .list [])], 100, 104⟩
theorem lk13 : LfOk lf13 := ⟨fun q => by kernel_rfl, by kernel_rfl, by kernel_rfl⟩
noncomputable def lf14 : Lf := ⟨[(8, 3), (4, 3)], [(95, .tup [.ref 92, .ref 94]), (94, .list [.str "NO"]), (93, .tup [.str "NU", .str "T-I"]), (92, .tup [.str "sign", .str "ZERO", .ref 91]), (91, .tup [.str "ref", .str "NO", .glob 422, .glob 421, .none]), (90, .tup [.str "NU", .str "AN", .str "T-I", .str "NO"])], 96, 95, 92, 94, ["NO"], [92, 91], [(152, .list [.ref 148]), (148, .tup [.str "an unknown name: NO", .str "NO"])], 152, 154⟩
theorem lk14 : LfOk lf14 := ⟨fun q => by kernel_rfl, by kernel_rfl, by kernel_rfl⟩
noncomputable def lf15 : Lf := ⟨[(8, 4), (4, 0), (3, 0)], [(97, .tup [.ref 95, .ref 96]), (96, .list []), (95, .tup [.str "named", .ref 94]), (94, .tup [.str "ref", .str "YES", .glob 422, .ref 93, .none]), (93, .tup []), (92, .tup [.ref 91]), (91, .tup [.str "ref", .str "NU", .glob 422, .glob 421, .none]), (90, .tup [.str "YES", .str "DEEP", .str "BOTH", .str "NU"])], 98, 97, 95, 96, [], [95, 94, 93], [(279, .list [])], 279, 286⟩
theorem lk15 : LfOk lf15 := ⟨fun q => by kernel_rfl, by kernel_rfl, by kernel_rfl⟩
noncomputable def lf16 : Lf := ⟨[(8, 4), (4, 0), (3, 1)], [(96, .tup [.ref 94, .ref 95]), (95, .list [.str "YES"]), (94, .tup [.str "named", .ref 93]), (93, .tup [.str "ref", .str "YES", .glob 422, .ref 92, .none]), (92, .tup [.ref 91]), (91, .tup [.str "ref", .str "NU", .glob 422, .glob 421, .none]), (90, .tup [.str "YES", .str "DEEP", .str "BOTH", .str "NU"])], 97, 96, 94, 95, ["YES"], [94, 93, 92, 91], [(407, .tup [.str "another number of subscripts", .str "YES"]), (278, .list [.ref 407])], 278, 408⟩
theorem lk16 : LfOk lf16 := ⟨fun q => by kernel_rfl, by kernel_rfl, by kernel_rfl⟩
noncomputable def lf17 : Lf := ⟨[(8, 4), (4, 0), (3, 2)], [(97, .tup [.ref 95, .ref 96]), (96, .list [.str "YES"]), (95, .tup [.str "named", .ref 94]), (94, .tup [.str "ref", .str "YES", .glob 422, .ref 93, .none]), (93, .tup [.ref 91, .ref 91]), (92, .tup [.ref 91]), (91, .tup [.str "ref", .str "NU", .glob 422, .glob 421, .none]), (90, .tup [.str "YES", .str "DEEP", .str "BOTH", .str "NU"])], 98, 97, 95, 96, ["YES"], [95, 94, 93, 91], [(530, .tup [.str "another number of subscripts", .str "YES"]), (279, .list [.ref 530])], 279, 531⟩
theorem lk17 : LfOk lf17 := ⟨fun q => by kernel_rfl, by kernel_rfl, by kernel_rfl⟩
noncomputable def lf18 : Lf := ⟨[(8, 4), (4, 1), (3, 0)], [(97, .tup [.ref 95, .ref 96]), (96, .list [.str "DEEP"]), (95, .tup [.str "named", .ref 94]), (94, .tup [.str "ref", .str "DEEP", .glob 422, .ref 93, .none]), (93, .tup []), (92, .tup [.ref 91]), (91, .tup [.str "ref", .str "NU", .glob 422, .glob 421, .none]), (90, .tup [.str "YES", .str "DEEP", .str "BOTH", .str "NU"])], 98, 97, 95, 96, ["DEEP"], [95, 94, 93], [(286, .tup [.str "another number of subscripts", .str "DEEP"]), (279, .list [.ref 286])], 279, 287⟩
theorem lk18 : LfOk lf18 := ⟨fun q => by kernel_rfl, by kernel_rfl, by kernel_rfl⟩
noncomputable def lf19 : Lf := ⟨[(8, 4), (4, 1), (3, 1)], [(96, .tup [.ref 94, .ref 95]), (95, .list []), (94, .tup [.str "named", .ref 93]), (93, .tup [.str "ref", .str "DEEP", .glob 422, .ref 92, .none]), (92, .tup [.ref 91]), (91, .tup [.str "ref", .str "NU", .glob 422, .glob 421, .none]), (90, .tup [.str "YES", .str "DEEP", .str "BOTH", .str "NU"])], 97, 96, 94, 95, [], [94, 93, 92, 91], [(278, .list [])], 278, 407⟩
theorem lk19 : LfOk lf19 := ⟨fun q => by kernel_rfl, by kernel_rfl, by kernel_rfl⟩
noncomputable def lf20 : Lf := ⟨[(8, 4), (4, 1), (3, 2)], [(97, .tup [.ref 95, .ref 96]), (96, .list [.str "DEEP"]), (95, .tup [.str "named", .ref 94]), (94, .tup [.str "ref", .str "DEEP", .glob 422, .ref 93, .none]), (93, .tup [.ref 91, .ref 91]), (92, .tup [.ref 91]), (91, .tup [.str "ref", .str "NU", .glob 422, .glob 421, .none]), (90, .tup [.str "YES", .str "DEEP", .str "BOTH", .str "NU"])], 98, 97, 95, 96, ["DEEP"], [95, 94, 93, 91], [(530, .tup [.str "another number of subscripts", .str "DEEP"]), (279, .list [.ref 530])], 279, 531⟩
theorem lk20 : LfOk lf20 := ⟨fun q => by kernel_rfl, by kernel_rfl, by kernel_rfl⟩
noncomputable def lf21 : Lf := ⟨[(8, 4), (4, 2), (3, 0)], [(97, .tup [.ref 95, .ref 96]), (96, .list [.str "BOTH"]), (95, .tup [.str "named", .ref 94]), (94, .tup [.str "ref", .str "BOTH", .glob 422, .ref 93, .none]), (93, .tup []), (92, .tup [.ref 91]), (91, .tup [.str "ref", .str "NU", .glob 422, .glob 421, .none]), (90, .tup [.str "YES", .str "DEEP", .str "BOTH", .str "NU"])], 98, 97, 95, 96, ["BOTH"], [95, 94, 93], [(282, .list [.ref 281]), (281, .tup [.str "an ambiguous name: BOTH", .str "BOTH"])], 282, 283⟩
theorem lk21 : LfOk lf21 := ⟨fun q => by kernel_rfl, by kernel_rfl, by kernel_rfl⟩
noncomputable def lf22 : Lf := ⟨[(8, 4), (4, 2), (3, 1)], [(96, .tup [.ref 94, .ref 95]), (95, .list [.str "BOTH"]), (94, .tup [.str "named", .ref 93]), (93, .tup [.str "ref", .str "BOTH", .glob 422, .ref 92, .none]), (92, .tup [.ref 91]), (91, .tup [.str "ref", .str "NU", .glob 422, .glob 421, .none]), (90, .tup [.str "YES", .str "DEEP", .str "BOTH", .str "NU"])], 97, 96, 94, 95, ["BOTH"], [94, 93, 92, 91], [(281, .list [.ref 280]), (280, .tup [.str "an ambiguous name: BOTH", .str "BOTH"])], 281, 282⟩
theorem lk22 : LfOk lf22 := ⟨fun q => by kernel_rfl, by kernel_rfl, by kernel_rfl⟩
noncomputable def lf23 : Lf := ⟨[(8, 4), (4, 2), (3, 2)], [(97, .tup [.ref 95, .ref 96]), (96, .list [.str "BOTH"]), (95, .tup [.str "named", .ref 94]), (94, .tup [.str "ref", .str "BOTH", .glob 422, .ref 93, .none]), (93, .tup [.ref 91, .ref 91]), (92, .tup [.ref 91]), (91, .tup [.str "ref", .str "NU", .glob 422, .glob 421, .none]), (90, .tup [.str "YES", .str "DEEP", .str "BOTH", .str "NU"])], 98, 97, 95, 96, ["BOTH"], [95, 94, 93, 91], [(282, .list [.ref 281]), (281, .tup [.str "an ambiguous name: BOTH", .str "BOTH"])], 282, 283⟩
theorem lk23 : LfOk lf23 := ⟨fun q => by kernel_rfl, by kernel_rfl, by kernel_rfl⟩
noncomputable def lf24 : Lf := ⟨[(8, 4), (4, 3), (3, 0)], [(97, .tup [.ref 95, .ref 96]), (96, .list [.str "NU"]), (95, .tup [.str "named", .ref 94]), (94, .tup [.str "ref", .str "NU", .glob 422, .ref 93, .none]), (93, .tup []), (92, .tup [.ref 91]), (91, .tup [.str "ref", .str "NU", .glob 422, .glob 421, .none]), (90, .tup [.str "YES", .str "DEEP", .str "BOTH", .str "NU"])], 98, 97, 95, 96, ["NU"], [95, 94, 93], [(280, .list [.ref 279]), (279, .tup [.str "an unknown name: NU", .str "NU"])], 280, 281⟩
theorem lk24 : LfOk lf24 := ⟨fun q => by kernel_rfl, by kernel_rfl, by kernel_rfl⟩
noncomputable def lf25 : Lf := ⟨[(8, 4), (4, 3), (3, 1)], [(96, .tup [.ref 94, .ref 95]), (95, .list [.str "NU"]), (94, .tup [.str "named", .ref 93]), (93, .tup [.str "ref", .str "NU", .glob 422, .ref 92, .none]), (92, .tup [.ref 91]), (91, .tup [.str "ref", .str "NU", .glob 422, .glob 421, .none]), (90, .tup [.str "YES", .str "DEEP", .str "BOTH", .str "NU"])], 97, 96, 94, 95, ["NU"], [94, 93, 92, 91], [(279, .list [.ref 278]), (278, .tup [.str "an unknown name: NU", .str "NU"])], 279, 280⟩
theorem lk25 : LfOk lf25 := ⟨fun q => by kernel_rfl, by kernel_rfl, by kernel_rfl⟩
noncomputable def lf26 : Lf := ⟨[(8, 4), (4, 3), (3, 2)], [(97, .tup [.ref 95, .ref 96]), (96, .list [.str "NU"]), (95, .tup [.str "named", .ref 94]), (94, .tup [.str "ref", .str "NU", .glob 422, .ref 93, .none]), (93, .tup [.ref 91, .ref 91]), (92, .tup [.ref 91]), (91, .tup [.str "ref", .str "NU", .glob 422, .glob 421, .none]), (90, .tup [.str "YES", .str "DEEP", .str "BOTH", .str "NU"])], 98, 97, 95, 96, ["NU"], [95, 94, 93, 91], [(280, .list [.ref 279]), (279, .tup [.str "an unknown name: NU", .str "NU"])], 280, 281⟩
theorem lk26 : LfOk lf26 := ⟨fun q => by kernel_rfl, by kernel_rfl, by kernel_rfl⟩
noncomputable def lf27 : Lf := ⟨[(8, 5), (4, 0), (3, 0)], [(97, .tup [.ref 95, .ref 96]), (96, .list []), (95, .tup [.str "named", .ref 94]), (94, .tup [.str "ref", .str "YES", .glob 422, .ref 93, .none]), (93, .tup []), (92, .tup [.ref 91]), (91, .tup [.str "ref", .str "NU", .glob 422, .glob 421, .none]), (90, .tup [.str "YES", .str "DEEP", .str "BOTH", .str "NU"])], 98, 97, 95, 96, [], [95, 94, 93], [(279, .list [])], 279, 286⟩
theorem lk27 : LfOk lf27 := ⟨fun q => by kernel_rfl, by kernel_rfl, by kernel_rfl⟩
noncomputable def lf28 : Lf := ⟨[(8, 5), (4, 0), (3, 1)], [(96, .tup [.ref 94, .ref 95]), (95, .list [.str "YES"]), (94, .tup [.str "named", .ref 93]), (93, .tup [.str "ref", .str "YES", .glob 422, .ref 92, .none]), (92, .tup [.ref 91]), (91, .tup [.str "ref", .str "NU", .glob 422, .glob 421, .none]), (90, .tup [.str "YES", .str "DEEP", .str "BOTH", .str "NU"])], 97, 96, 94, 95, ["YES"], [94, 93, 92, 91], [(407, .tup [.str "another number of subscripts", .str "YES"]), (278, .list [.ref 407])], 278, 408⟩
theorem lk28 : LfOk lf28 := ⟨fun q => by kernel_rfl, by kernel_rfl, by kernel_rfl⟩
noncomputable def lf29 : Lf := ⟨[(8, 5), (4, 0), (3, 2)], [(97, .tup [.ref 95, .ref 96]), (96, .list [.str "YES"]), (95, .tup [.str "named", .ref 94]), (94, .tup [.str "ref", .str "YES", .glob 422, .ref 93, .none]), (93, .tup [.ref 91, .ref 91]), (92, .tup [.ref 91]), (91, .tup [.str "ref", .str "NU", .glob 422, .glob 421, .none]), (90, .tup [.str "YES", .str "DEEP", .str "BOTH", .str "NU"])], 98, 97, 95, 96, ["YES"], [95, 94, 93, 91], [(530, .tup [.str "another number of subscripts", .str "YES"]), (279, .list [.ref 530])], 279, 531⟩
theorem lk29 : LfOk lf29 := ⟨fun q => by kernel_rfl, by kernel_rfl, by kernel_rfl⟩
noncomputable def lf30 : Lf := ⟨[(8, 5), (4, 1), (3, 0)], [(97, .tup [.ref 95, .ref 96]), (96, .list [.str "DEEP"]), (95, .tup [.str "named", .ref 94]), (94, .tup [.str "ref", .str "DEEP", .glob 422, .ref 93, .none]), (93, .tup []), (92, .tup [.ref 91]), (91, .tup [.str "ref", .str "NU", .glob 422, .glob 421, .none]), (90, .tup [.str "YES", .str "DEEP", .str "BOTH", .str "NU"])], 98, 97, 95, 96, ["DEEP"], [95, 94, 93], [(286, .tup [.str "another number of subscripts", .str "DEEP"]), (279, .list [.ref 286])], 279, 287⟩
theorem lk30 : LfOk lf30 := ⟨fun q => by kernel_rfl, by kernel_rfl, by kernel_rfl⟩
noncomputable def lf31 : Lf := ⟨[(8, 5), (4, 1), (3, 1)], [(96, .tup [.ref 94, .ref 95]), (95, .list []), (94, .tup [.str "named", .ref 93]), (93, .tup [.str "ref", .str "DEEP", .glob 422, .ref 92, .none]), (92, .tup [.ref 91]), (91, .tup [.str "ref", .str "NU", .glob 422, .glob 421, .none]), (90, .tup [.str "YES", .str "DEEP", .str "BOTH", .str "NU"])], 97, 96, 94, 95, [], [94, 93, 92, 91], [(278, .list [])], 278, 407⟩
theorem lk31 : LfOk lf31 := ⟨fun q => by kernel_rfl, by kernel_rfl, by kernel_rfl⟩
noncomputable def lf32 : Lf := ⟨[(8, 5), (4, 1), (3, 2)], [(97, .tup [.ref 95, .ref 96]), (96, .list [.str "DEEP"]), (95, .tup [.str "named", .ref 94]), (94, .tup [.str "ref", .str "DEEP", .glob 422, .ref 93, .none]), (93, .tup [.ref 91, .ref 91]), (92, .tup [.ref 91]), (91, .tup [.str "ref", .str "NU", .glob 422, .glob 421, .none]), (90, .tup [.str "YES", .str "DEEP", .str "BOTH", .str "NU"])], 98, 97, 95, 96, ["DEEP"], [95, 94, 93, 91], [(530, .tup [.str "another number of subscripts", .str "DEEP"]), (279, .list [.ref 530])], 279, 531⟩
theorem lk32 : LfOk lf32 := ⟨fun q => by kernel_rfl, by kernel_rfl, by kernel_rfl⟩
noncomputable def lf33 : Lf := ⟨[(8, 5), (4, 2), (3, 0)], [(97, .tup [.ref 95, .ref 96]), (96, .list [.str "BOTH"]), (95, .tup [.str "named", .ref 94]), (94, .tup [.str "ref", .str "BOTH", .glob 422, .ref 93, .none]), (93, .tup []), (92, .tup [.ref 91]), (91, .tup [.str "ref", .str "NU", .glob 422, .glob 421, .none]), (90, .tup [.str "YES", .str "DEEP", .str "BOTH", .str "NU"])], 98, 97, 95, 96, ["BOTH"], [95, 94, 93], [(282, .list [.ref 281]), (281, .tup [.str "an ambiguous name: BOTH", .str "BOTH"])], 282, 283⟩
theorem lk33 : LfOk lf33 := ⟨fun q => by kernel_rfl, by kernel_rfl, by kernel_rfl⟩
noncomputable def lf34 : Lf := ⟨[(8, 5), (4, 2), (3, 1)], [(96, .tup [.ref 94, .ref 95]), (95, .list [.str "BOTH"]), (94, .tup [.str "named", .ref 93]), (93, .tup [.str "ref", .str "BOTH", .glob 422, .ref 92, .none]), (92, .tup [.ref 91]), (91, .tup [.str "ref", .str "NU", .glob 422, .glob 421, .none]), (90, .tup [.str "YES", .str "DEEP", .str "BOTH", .str "NU"])], 97, 96, 94, 95, ["BOTH"], [94, 93, 92, 91], [(281, .list [.ref 280]), (280, .tup [.str "an ambiguous name: BOTH", .str "BOTH"])], 281, 282⟩
theorem lk34 : LfOk lf34 := ⟨fun q => by kernel_rfl, by kernel_rfl, by kernel_rfl⟩
noncomputable def lf35 : Lf := ⟨[(8, 5), (4, 2), (3, 2)], [(97, .tup [.ref 95, .ref 96]), (96, .list [.str "BOTH"]), (95, .tup [.str "named", .ref 94]), (94, .tup [.str "ref", .str "BOTH", .glob 422, .ref 93, .none]), (93, .tup [.ref 91, .ref 91]), (92, .tup [.ref 91]), (91, .tup [.str "ref", .str "NU", .glob 422, .glob 421, .none]), (90, .tup [.str "YES", .str "DEEP", .str "BOTH", .str "NU"])], 98, 97, 95, 96, ["BOTH"], [95, 94, 93, 91], [(282, .list [.ref 281]), (281, .tup [.str "an ambiguous name: BOTH", .str "BOTH"])], 282, 283⟩
theorem lk35 : LfOk lf35 := ⟨fun q => by kernel_rfl, by kernel_rfl, by kernel_rfl⟩
noncomputable def lf36 : Lf := ⟨[(8, 5), (4, 3), (3, 0)], [(97, .tup [.ref 95, .ref 96]), (96, .list [.str "NU"]), (95, .tup [.str "named", .ref 94]), (94, .tup [.str "ref", .str "NU", .glob 422, .ref 93, .none]), (93, .tup []), (92, .tup [.ref 91]), (91, .tup [.str "ref", .str "NU", .glob 422, .glob 421, .none]), (90, .tup [.str "YES", .str "DEEP", .str "BOTH", .str "NU"])], 98, 97, 95, 96, ["NU"], [95, 94, 93], [(280, .list [.ref 279]), (279, .tup [.str "an unknown name: NU", .str "NU"])], 280, 281⟩
theorem lk36 : LfOk lf36 := ⟨fun q => by kernel_rfl, by kernel_rfl, by kernel_rfl⟩
noncomputable def lf37 : Lf := ⟨[(8, 5), (4, 3), (3, 1)], [(96, .tup [.ref 94, .ref 95]), (95, .list [.str "NU"]), (94, .tup [.str "named", .ref 93]), (93, .tup [.str "ref", .str "NU", .glob 422, .ref 92, .none]), (92, .tup [.ref 91]), (91, .tup [.str "ref", .str "NU", .glob 422, .glob 421, .none]), (90, .tup [.str "YES", .str "DEEP", .str "BOTH", .str "NU"])], 97, 96, 94, 95, ["NU"], [94, 93, 92, 91], [(279, .list [.ref 278]), (278, .tup [.str "an unknown name: NU", .str "NU"])], 279, 280⟩
theorem lk37 : LfOk lf37 := ⟨fun q => by kernel_rfl, by kernel_rfl, by kernel_rfl⟩
noncomputable def lf38 : Lf := ⟨[(8, 5), (4, 3), (3, 2)], [(97, .tup [.ref 95, .ref 96]), (96, .list [.str "NU"]), (95, .tup [.str "named", .ref 94]), (94, .tup [.str "ref", .str "NU", .glob 422, .ref 93, .none]), (93, .tup [.ref 91, .ref 91]), (92, .tup [.ref 91]), (91, .tup [.str "ref", .str "NU", .glob 422, .glob 421, .none]), (90, .tup [.str "YES", .str "DEEP", .str "BOTH", .str "NU"])], 98, 97, 95, 96, ["NU"], [95, 94, 93, 91], [(280, .list [.ref 279]), (279, .tup [.str "an unknown name: NU", .str "NU"])], 280, 281⟩
theorem lk38 : LfOk lf38 := ⟨fun q => by kernel_rfl, by kernel_rfl, by kernel_rfl⟩
noncomputable def lf39 : Lf := ⟨[(8, 6)], [(95, .tup [.ref 93, .ref 94]), (94, .list [.str "AL"]), (93, .tup [.str "named", .ref 92]), (92, .tup [.str "ref", .str "DEEP", .glob 422, .ref 91, .none]), (91, .tup [.ref 90]), (90, .tup [.str "ref", .str "AL", .glob 422, .glob 421, .none])], 96, 95, 93, 94, ["AL"], [93, 92, 91, 90], [(400, .tup [.str "no number", .str "AL"]), (277, .list [.ref 400])], 277, 407⟩
theorem lk39 : LfOk lf39 := ⟨fun q => by kernel_rfl, by kernel_rfl, by kernel_rfl⟩
noncomputable def lf40 : Lf := ⟨[(8, 7)], [(96, .tup [.ref 94, .ref 95]), (95, .list [.str "NE", .str "NO", .str "NO"]), (94, .tup [.str "rel", .str ">", .ref 92, .ref 93]), (93, .tup [.str "ref", .str "NO", .glob 422, .glob 421, .none]), (92, .tup [.str "+", .ref 90, .ref 91]), (91, .tup [.str "ref", .str "NO", .glob 422, .glob 421, .none]), (90, .tup [.str "ref", .str "NE", .glob 422, .glob 421, .none])], 97, 96, 94, 95, ["NE", "NO", "NO"], [94, 92, 90, 91, 93], [(337, .list [.ref 222, .ref 274, .ref 332]), (332, .tup [.str "an unknown name: NO", .str "NO"]), (274, .tup [.str "an unknown name: NO", .str "NO"]), (222, .tup [.str "no number", .str "NE"])], 337, 338⟩
theorem lk40 : LfOk lf40 := ⟨fun q => by kernel_rfl, by kernel_rfl, by kernel_rfl⟩
noncomputable def lfs : List Lf := [lf0, lf1, lf2, lf3, lf4, lf5, lf6, lf7, lf8, lf9, lf10, lf11, lf12, lf13, lf14, lf15, lf16, lf17, lf18, lf19, lf20, lf21, lf22, lf23, lf24, lf25, lf26, lf27, lf28, lf29, lf30, lf31, lf32, lf33, lf34, lf35, lf36, lf37, lf38, lf39, lf40]
theorem lfs_ok : ∀ l ∈ lfs, LfOk l := by
  refine List.forall_mem_cons.mpr ⟨lk0, ?_⟩
  refine List.forall_mem_cons.mpr ⟨lk1, ?_⟩
  refine List.forall_mem_cons.mpr ⟨lk2, ?_⟩
  refine List.forall_mem_cons.mpr ⟨lk3, ?_⟩
  refine List.forall_mem_cons.mpr ⟨lk4, ?_⟩
  refine List.forall_mem_cons.mpr ⟨lk5, ?_⟩
  refine List.forall_mem_cons.mpr ⟨lk6, ?_⟩
  refine List.forall_mem_cons.mpr ⟨lk7, ?_⟩
  refine List.forall_mem_cons.mpr ⟨lk8, ?_⟩
  refine List.forall_mem_cons.mpr ⟨lk9, ?_⟩
  refine List.forall_mem_cons.mpr ⟨lk10, ?_⟩
  refine List.forall_mem_cons.mpr ⟨lk11, ?_⟩
  refine List.forall_mem_cons.mpr ⟨lk12, ?_⟩
  refine List.forall_mem_cons.mpr ⟨lk13, ?_⟩
  refine List.forall_mem_cons.mpr ⟨lk14, ?_⟩
  refine List.forall_mem_cons.mpr ⟨lk15, ?_⟩
  refine List.forall_mem_cons.mpr ⟨lk16, ?_⟩
  refine List.forall_mem_cons.mpr ⟨lk17, ?_⟩
  refine List.forall_mem_cons.mpr ⟨lk18, ?_⟩
  refine List.forall_mem_cons.mpr ⟨lk19, ?_⟩
  refine List.forall_mem_cons.mpr ⟨lk20, ?_⟩
  refine List.forall_mem_cons.mpr ⟨lk21, ?_⟩
  refine List.forall_mem_cons.mpr ⟨lk22, ?_⟩
  refine List.forall_mem_cons.mpr ⟨lk23, ?_⟩
  refine List.forall_mem_cons.mpr ⟨lk24, ?_⟩
  refine List.forall_mem_cons.mpr ⟨lk25, ?_⟩
  refine List.forall_mem_cons.mpr ⟨lk26, ?_⟩
  refine List.forall_mem_cons.mpr ⟨lk27, ?_⟩
  refine List.forall_mem_cons.mpr ⟨lk28, ?_⟩
  refine List.forall_mem_cons.mpr ⟨lk29, ?_⟩
  refine List.forall_mem_cons.mpr ⟨lk30, ?_⟩
  refine List.forall_mem_cons.mpr ⟨lk31, ?_⟩
  refine List.forall_mem_cons.mpr ⟨lk32, ?_⟩
  refine List.forall_mem_cons.mpr ⟨lk33, ?_⟩
  refine List.forall_mem_cons.mpr ⟨lk34, ?_⟩
  refine List.forall_mem_cons.mpr ⟨lk35, ?_⟩
  refine List.forall_mem_cons.mpr ⟨lk36, ?_⟩
  refine List.forall_mem_cons.mpr ⟨lk37, ?_⟩
  refine List.forall_mem_cons.mpr ⟨lk38, ?_⟩
  refine List.forall_mem_cons.mpr ⟨lk39, ?_⟩
  refine List.forall_mem_cons.mpr ⟨lk40, ?_⟩
  exact fun l hl => (nomatch hl)
end Mine
end
section
open PySem PySem.W PyProof.Rows
set_option Elab.async false
namespace Mine
/-! soundness: what is asked of an evaluator at a height -/
noncomputable abbrev BR (_ : List Addr) (a b : Bool) : Prop := a = b
structure Snd (r : Ev) (k : Nat) : Prop where
  e : ∀ {c : FC} {m loc ρ hs s Ar e out}, c.Ok → ArOk c ρ Ar k → r.e c.cc loc e hs = some out → Dyn c m loc ρ hs s.heap → Tr c m loc Ar (eval e c.env) VR ρ s out
  t : ∀ {c : FC} {m loc ρ hs s Ar e out}, c.Ok → ArOk c ρ Ar k → r.t c.cc loc e hs = some out → Dyn c m loc ρ hs s.heap → Tr c m loc Ar (isTrue e c.env (eval e c.env)) BR ρ s out
  call : ∀ {c : FC} {m loc ρ hs s Ar f u args us out}, c.Ok → ArOk c ρ Ar k → r.call c.cc.hand f args hs = some out → Dyn c m loc ρ hs s.heap → VR ρ f u → VRs ρ args us → Tr c m loc Ar (call u us) VR ρ s out
theorem fget_mem {x : Str} {v : AV} : ∀ {l : Loc}, fget x l = some v → (x, v) ∈ l
  | (y, u) :: r, e => by
    rw [fget_cons] at e
    cases q : sq y x with
    | true => rw [q] at e; cases e; rw [sq_iff.mp q]; exact .head _
    | false => rw [q] at e; exact .tail _ (fget_mem e)
noncomputable def okG (v : Value) : Bool := match v with
  | .ref _ => true
  | .str .. => true
  | _ => false
theorem okG_of {v : Value} (h : okG v = true) (ρ : List Addr) : VR ρ (avOf v) v := by
  cases v <;> first | exact .glob _ | exact .str _ _ | (exfalso; exact Bool.noConfusion h)
theorem glL_ok : ∀ p ∈ glL, okG p.2 = true := List.all_eq_true.mp (by kernel_rfl)
noncomputable def blV : List (Str × Value) := [("int", .type "int"), ("len", .builtin "len"), ("tuple", .type "tuple"), ("range", .type "range"), ("str", .type "str"), ("Exception", .type "Exception")]
theorem blA_is : blA = blV.map (fun p => (p.1, avOf p.2)) := rfl
theorem blV_boot : ∀ p ∈ blV, bootBuiltins p.1 = some p.2 := by
  intro p hp
  simp only [blV, List.mem_cons, List.not_mem_nil, or_false] at hp
  rcases hp with rfl | rfl | rfl | rfl | rfl | rfl <;> kernel_rfl
theorem blV_none : ∀ p ∈ blV, p.1 ∈ noneL := by
  intro p hp
  simp only [blV, List.mem_cons, List.not_mem_nil, or_false] at hp
  rcases hp with rfl | rfl | rfl | rfl | rfl | rfl <;> simp [noneL]
theorem blV_vr (ρ : List Addr) : ∀ p ∈ blV, VR ρ (avOf p.2) p.2 := by
  intro p hp
  simp only [blV, List.mem_cons, List.not_mem_nil, or_false] at hp
  rcases hp with rfl | rfl | rfl | rfl | rfl | rfl <;> first | exact .ty _ | exact .bi _
section
variable {c : FC} {m : Str → Option Value} {loc : Loc} {ρ : List Addr} {hs : HS} {s : Shared} {Ar : Around} {E : Value → Shared → Prop}
theorem glob_sound (O : c.Ok) (D : Dyn c m loc ρ hs s.heap) {x : Str} {v : AV} (e : evGlob x = some v) {Q : Value → Shared → Prop} (h : ∀ u, VR ρ v u → Q u s) : wpAny (model pw c.w) Ar (loadGlobal c.env x) Q E s := by
  obtain ⟨own, fo, D⟩ := D
  obtain ⟨mg, mb, h1, h2, h3, h4⟩ := O.top.ns
  have g1 : s.heap.Ns c.env.globals mg := by rw [O.eG]; exact h1.keeps D.F.keep
  have g2 : s.heap.Ns c.env.builtins mb := by rw [O.eB]; exact h2.keeps D.F.keep
  unfold evGlob at e
  cases q : fget x glA with
  | some w =>
    rw [q] at e; cases e
    obtain ⟨p, hp, e⟩ := List.mem_map.mp (fget_mem q)
    obtain ⟨rfl, rfl⟩ := Prod.mk.inj e
    exact Calls.loadGlobal_global g1 (h3 p hp) (h _ (okG_of (glL_ok p hp) ρ))
  | none =>
    rw [q] at e
    have hm := fget_mem e
    rw [blA_is] at hm
    obtain ⟨p, hp, e⟩ := List.mem_map.mp hm
    obtain ⟨rfl, rfl⟩ := Prod.mk.inj e
    obtain ⟨n1, n2⟩ := h4 p.1 (blV_none p hp)
    exact Calls.loadGlobal_builtin g1 n1 g2 (n2.trans (blV_boot p hp)) (h _ (blV_vr ρ p hp))
theorem cell_sound (D : Dyn c m loc ρ hs s.heap) {x : Str} {v : AV} (e : evCell c.cc x hs.H = some v) : ∃ a u, c.env.cells.lookup x = some a ∧ s.heap.IsCell a (some u) ∧ VR ρ v u := by
  obtain ⟨own, fo, D⟩ := D
  unfold evCell at e
  cases q : cget x c.cc.cells with
  | none => rw [q] at e; cases e
  | some i =>
    rw [q] at e
    dsimp only at e
    obtain ⟨a, h1, h2⟩ := D.cells x i q
    cases q2 : hget i hs.H with
    | none => rw [q2] at e; cases e
    | some ob =>
      rw [q2] at e
      cases ob with
      | cell o =>
        have e : o = some v := e
        subst e
        obtain ⟨a', l, pre, post, h3, o', he, _⟩ := D.led.get q2
        rw [h2] at h3; cases h3
        cases o' with
        | cellS hv hd =>
          rename_i u o
          exact ⟨a, u, h1, ⟨_, (D.N (a, o) (D.mem (by rw [he]; simp))).1, hd⟩, hv⟩
      | _ => cases e
theorem locals_sound (D : Dyn c m loc ρ hs s.heap) {x : Str} {v : AV} (e : fget x loc = some v) : ∃ ml u, s.heap.Ns c.env.locals ml ∧ ml x = some u ∧ VR ρ v u := by
  obtain ⟨own, fo, D⟩ := D
  rcases D.loc with ⟨h1, h2⟩ | ⟨o, mC, h1, h2, h3⟩
  · obtain ⟨u, a, b⟩ := h2 x v e
    exact ⟨m, u, by rw [h1]; exact D.F.ns, a, b⟩
  · obtain ⟨u, a, b⟩ := h3 x v e
    exact ⟨mC, u, h2.ns (D.N (c.env.locals, o) (by simp [h1])).1, a, b⟩
theorem beq_false_of {x y : Str} (h : sq x y = false) : (x == y) = false := by rw [← sq_beq]; exact h
theorem name_sound (O : c.Ok) (D : Dyn c m loc ρ hs s.heap) {x : Str} {pos : Pos} {v : AV} (e : evName c.cc loc x hs.H = some v) {Q : Value → Shared → Prop} (h : ∀ u, VR ρ v u → Q u s) :
    wpAny (model pw c.w) Ar (eval (.Name x pos) c.env) Q E s := by
  unfold evName at e
  cases q : (sq x "__debug__" || sq x "__classdict__") with
  | true => rw [q] at e; cases e
  | false =>
    rw [q] at e
    dsimp only at e
    obtain ⟨q1, q2⟩ := Bool.or_eq_false_iff.mp q
    have hk := O.kind x
    cases qk : c.cc.kind x with
    | none => rw [qk] at e; cases e
    | some k =>
      rw [qk] at e hk
      cases k with
      | «local» =>
        obtain ⟨ml, u, h1, h2, h3⟩ := locals_sound D e
        exact wpAny_Name (wpAny_loadName_local O.eK hk h1 h2 (h u h3)) (beq_false_of q1)
      | globalImplicit => exact Calls.Name_function_global O.eK hk (glob_sound O D e h) (beq_false_of q1)
      | cell =>
        obtain ⟨a, u, h1, h2, h3⟩ := cell_sound D e
        exact wpAny_Name (wpAny_loadName_cell O.eK hk h1 h2 (h u h3)) (beq_false_of q1)
      | free =>
        obtain ⟨a, u, h1, h2, h3⟩ := cell_sound D e
        exact wpAny_Name (wpAny_loadName_free O.eK hk h1 h2 (h u h3) (beq_false_of q2)) (beq_false_of q1)
      | globalExplicit => cases e
theorem const_sound {k : Const} {n : Nat} {pos : Pos} {v : AV} (e : evConst k = some v) {Q : Value → Shared → Prop} (h : ∀ u tk, VR ρ v u → Q u { s with toks := tk }) : wpAny (model pw c.w) Ar (eval (.Constant k n pos) c.env) Q E s := by
  cases k <;> cases e
  · exact Constant_none (h _ s.toks .none)
  · exact Constant_bool (h _ s.toks (.bool _))
  · exact wpAny_Constant_int (h _ _ (.int _ _))
  · exact Calls.Constant_str (h _ _ (.str _ _))
  · exact fun _ _ _ => h _ _ (.bytes _ _)
end
end Mine
end
section
open PySem PySem.W PyProof.Rows
set_option Elab.async false
namespace Mine
theorem memS_mem {x : Str} : ∀ {l : List Str}, memS x l = true → x ∈ l
  | y :: r, e => by
    have e' : (match sq y x with | true => true | false => memS x r) = true := e
    cases q : sq y x with
    | true => rw [sq_iff.mp q]; exact .head _
    | false => rw [q] at e'; exact .tail _ (memS_mem e')
theorem memA_mem {x : Addr} : ∀ {l : List Addr}, memA x l = true → x ∈ l
  | y :: r, e => by
    have e' : (match Nat.beq y x with | true => true | false => memA x r) = true := e
    cases q : Nat.beq y x with
    | true => rw [Nat.eq_of_beq_eq_true q]; exact .head _
    | false => rw [q] at e'; exact .tail _ (memA_mem e')
noncomputable def fldFacts (P : Params) (C : Addr) (x : Str) : Bool :=
  plainGet (KF P) C x && (hasDictIn (KF P) C && ((findIn (KF P) (.ref C) x == some none) && ((takerIn (KF P) C x == some none) && ((findIn (KF P) (.ref C) "__setattr__" == some (some (.builtin "object.__setattr__"))) && plainOver (KF P) C))))
theorem fld_facts (P : Params) : (clsN.all fun C => fldN.all fun x => fldFacts P C x) = true := by kernel_rfl
structure FldF (P : Params) (C : Addr) (x : Str) : Prop where
  pg : plainGet (KF P) C x = true
  hd : hasDictIn (KF P) C = true
  fi : findIn (KF P) (.ref C) x = some none
  tk : takerIn (KF P) C x = some none
  sa : findIn (KF P) (.ref C) "__setattr__" = some (some (.builtin "object.__setattr__"))
  po : plainOver (KF P) C = true
theorem fld_of {P : Params} {C : Addr} {x : Str} (h : fldOk C x = true) : FldF P C x := by
  obtain ⟨a, b⟩ := Bool.and_eq_true_iff.mp h
  have h := List.all_eq_true.mp (List.all_eq_true.mp (fld_facts P) C (memA_mem a)) x (memS_mem b)
  unfold fldFacts at h
  simp only [Bool.and_eq_true, beq_iff_eq] at h
  exact ⟨h.1, h.2.1, h.2.2.1, h.2.2.2.1, h.2.2.2.2.1, h.2.2.2.2.2⟩
/-- a flown exception's word, read -/
noncomputable def ExcAt (w : World) : Prop := ∀ {A : Around} {E : Value → Shared → Prop} {Q : Value → Shared → Prop} {s : Shared} {e d : Addr} {oe od : Obj} {vs : Array Value} {msg : Str} {expr : Bool},
  (KF w.params).In s.heap → s.heap.get? e = some oe → oe.cls = .ref 60 → oe.dict = some d → oe.data = .fields vs → s.heap.get? d = some od → ExcD od msg → (∀ t tk, Q (.str msg t) { s with toks := tk }) →
  wpAny (model pw w) A (getAttr (.ref e) "what" expr) Q E s
theorem handed_of {ρ : List Addr} {v v' : AV} {u : Value} (x : VR ρ v u) (h : notBi v = some v') : v' = v ∧ handedIn u = true := by
  cases x <;> cases h <;> exact ⟨rfl, rfl⟩
section
variable {c : FC} {m : Str → Option Value} {loc : Loc} {ρ : List Addr} {hs : HS} {s : Shared} {Ar : Around} {E : Value → Shared → Prop} {v r : AV} {u : Value} {a : Str} {expr : Bool} {own fo : List (Addr × Obj)}
theorem DynI.inst (D : DynI c m loc ρ hs s.heap own fo) {i : Nat} {x : Addr} {C : Addr} {fs : Loc} (q : hget i hs.H = some (.inst C fs)) (hi : ρ[i]? = some x) :
    ∃ d es n pre post, FR c.w.params ρ fs es ∧ own = pre ++ (x, instObj C d) :: (d, dictOf es n) :: post ∧ (∀ fs' es' n', FR c.w.params ρ fs' es' → Led c.w.params ρ (hset i (.inst C fs') hs.H) (pre ++ (x, instObj C d) :: (d, dictOf es' n') :: post)) := by
  obtain ⟨a', l, pre, post, h1, o, he, hr⟩ := D.led.get q
  rw [hi] at h1; cases h1
  cases o with
  | inst hv =>
    rename_i es d n
    exact ⟨d, es, n, pre, post, hv, by rw [he]; simp, fun fs' es' n' hv' => by simpa using hr _ _ (.inst (d := d) (n := n') hv')⟩
theorem attr_sound (XA : ExcAt c.w) (O : c.Ok) (D : Dyn c m loc ρ hs s.heap) (e : attrV v a hs.H = some r) (x : VR ρ v u) {Q : Value → Shared → Prop} (h : ∀ w tk, VR ρ r w → Q w { s with toks := tk }) :
    wpAny (model pw c.w) Ar (getAttr u a expr) Q E s := by
  obtain ⟨own, fo, D⟩ := D
  unfold attrV at e
  cases x with
  | ref hi =>
    rename_i i p
    dsimp only at e
    cases q : hget i hs.H with
    | none => rw [q] at e; cases e
    | some ob =>
      rw [q] at e
      cases ob with
      | inst C fs =>
        dsimp only at e
        cases q1 : fldOk C a with
        | false => rw [q1] at e; cases e
        | true =>
          rw [q1] at e
          dsimp only at e
          cases q2 : fget a fs with
          | none => rw [q2] at e; cases e
          | some v' =>
            rw [q2] at e
            obtain ⟨d, es, n, pre, post, hv, he, _⟩ := D.inst q hi
            obtain ⟨u', e1, e2⟩ := hv.get q2
            obtain ⟨rfl, hh⟩ := handed_of e2 e
            have f := fld_of (P := c.w.params) q1
            have m1 : (p, instObj C d) ∈ own ++ (c.other ++ fo) := by rw [he]; simp
            have m2 : (d, dictOf es n) ∈ own ++ (c.other ++ fo) := by rw [he]; simp
            exact get_own D.F O.top.X (InstAt.of_news D.N m1 m2) f.pg f.hd f.fi rfl e1 hh (h _ _ e2)
      | exc msg =>
        dsimp only at e
        cases q1 : sq a "what" with
        | false => rw [q1] at e; cases e
        | true =>
          rw [q1] at e; cases e
          obtain ⟨a', l, pre, post, h1, o, he, hr⟩ := D.led.get q
          rw [hi] at h1; cases h1
          cases o with
          | exc b1 b2 b3 b4 b5 =>
            rename_i d oe od vs
            have m1 : (p, oe) ∈ own ++ (c.other ++ fo) := by rw [he]; simp
            have m2 : (d, od) ∈ own ++ (c.other ++ fo) := by rw [he]; simp
            rw [sq_iff.mp q1]
            exact XA (O.top.X.keeps D.F.keep) (D.N _ m1).1 b1 b2 b3 (D.N _ m2).1 b5 fun t tk => h _ _ (.str _ _)
      | _ => cases e
  | _ => cases e
end
end Mine
end
section
open PySem PySem.W PyProof.Rows
set_option Elab.async false
namespace Mine
theorem small_len {xs : List AV} (h : small xs = true) : xs.length ≤ 500 := Nat.le_of_ble_eq_true h
theorem lt_ne {α : Type} {news : List (Addr × α)} {a : Addr} {o : Obj} (h : ∀ p ∈ news, p.1 < a) : ∀ p ∈ [(a, o)], ∀ q ∈ news, q.1 ≠ p.1 := by
  intro p hp q hq
  rw [List.mem_singleton.mp hp]
  exact Nat.ne_of_lt (h q hq)
section
variable {c : FC} {m : Str → Option Value} {loc : Loc} {ρ : List Addr} {hs : HS} {s : Shared} {Ar : Around} {E : Value → Shared → Prop} {own fo : List (Addr × Obj)} {Q : Value → Shared → Prop}
/-- an answer that is a new object -/
theorem Pst.new {ob : AObj} (P : Pst c m loc ρ s VR Q E (.ok (.ref hs.n) ⟨(hs.n, ob) :: hs.H, hs.n + 1⟩)) {h₀ : Heap} (D : DynI c m loc ρ hs h₀ own fo) {h' : Heap} {a : Addr} {l : List (Addr × Obj)}
    (F : Fr c.G c.L h' m) (N : News c.G c.L h' (l ++ (own ++ (c.other ++ fo)))) (hl : ∀ p ∈ l, ∀ q ∈ own ++ (c.other ++ fo), q.1 ≠ p.1) (nd : (l.map (·.1)).Nodup) (o : OR c.w.params (ρ ++ [a]) ob a l) (tk : Nat) : Q (.ref a) { s with heap := h', toks := tk } :=
  P [a] h' tk _ (D.add F N hl nd o) (.ref (by rw [← D.n]; simp))
theorem newO_eq {ob : AObj} {out : Out AV} (e : newO ob hs = some out) : out = .ok (.ref hs.n) ⟨(hs.n, ob) :: hs.H, hs.n + 1⟩ := by cases e; rfl
theorem newList_sound {xs : List AV} {us : List Value} {out : Out AV} (D : Dyn c m loc ρ hs s.heap) (hv : VRs ρ xs us) (hz : small xs = true) (e : newO (.list xs) hs = some out) (P : Pst c m loc ρ s VR Q E out) :
    wpAny (model pw c.w) Ar (newList us) Q E s := by
  obtain ⟨own, fo, D⟩ := D
  rw [newO_eq e] at P
  refine newList_K D.F D.N (fun l h' F N hlt => ?_) (by rw [hv.length, sizeLine_eq]; exact Nat.le_trans (small_len hz) (by decide))
  exact P.new D (l := [(l, listOf us.toArray 0)]) F N (lt_ne hlt) (by simp) (.list (hv.ext _)) s.toks
theorem newTuple_sound {xs : List AV} {us : List Value} {out : Out AV} (D : Dyn c m loc ρ hs s.heap) (hv : VRs ρ xs us) (hz : small xs = true) (e : newO (.tup xs) hs = some out) (P : Pst c m loc ρ s VR Q E out) :
    wpAny (model pw c.w) Ar (newTuple us) Q E s := by
  obtain ⟨own, fo, D⟩ := D
  rw [newO_eq e] at P
  refine kup_newTuple D.F D.N (fun l h' F N hlt => ?_) (by rw [hv.length, sizeLine_eq]; exact Nat.le_trans (small_len hz) (by decide))
  exact P.new D (l := [(l, tupOf us 0)]) F N (lt_ne hlt) (by simp) (.tup (hv.ext _)) s.toks
end
section
variable {r : Ev} {k : Nat} {c : FC} {m : Str → Option Value} {loc : Loc} {Ar : Around}
theorem star_plain {e : Expr} {rest : List Expr} {env : Env} (h : notStar e = true) : starEach (e :: rest) env = (false, eval e env) :: starEach rest env := by
  cases e <;> first | rfl | (exfalso; exact Bool.noConfusion h)
theorem evs_sound (S : Snd r k) (O : c.Ok) (pos : Pos) : ∀ {es : List Expr} {ρ hs} {s : Shared} {out : Out (List AV)}, ArOk c ρ Ar k → evs r c.cc loc es hs = some out → Dyn c m loc ρ hs s.heap →
    Tr c m loc Ar (spliced (backTo pos (starEach es c.env))) VRs ρ s out := by
  intro es
  induction es with
  | nil =>
    intro ρ hs s out A e D Q E P
    cases e
    exact args_nil (P.ok D .nil s.toks)
  | cons x es ih =>
    intro ρ hs s out A e D Q E P
    have e : (match notStar x with | true => obind (r.e c.cc loc x hs) fun v hs => obind (evs r c.cc loc es hs) fun vs hs => some (.ok (v :: vs) hs) | false => none) = some out := e
    cases q : notStar x with
    | false => rw [q] at e; cases e
    | true =>
      rw [q] at e
      refine args_cons ?_ (star_plain q)
      refine Tr.seq e (fun r₁ h₁ => S.e O A h₁ D) P fun v hs₁ e l h₁ tk b D₁ x₁ P => ?_
      refine Tr.seq e (fun r₁ h₁ => ih (A.ext l) h₁ D₁) P fun vs hs₂ e l₂ h₂ tk₂ bs D₂ x₂ P => ?_
      cases e
      exact P.ok D₂ (.cons (x₁.ext _) x₂) tk₂
end
end Mine
end
section
open PySem PySem.W PyProof.Rows
set_option Elab.async false
namespace Mine
theorem base_plain {o : Expr} {a : Str} {env : Env} (h : baseOk o = true) : attributeBase o a env (eval o env) = eval o env := by
  cases o <;> first | rfl | (exfalso; exact Bool.noConfusion h)
theorem attr_eq {value : Expr} {attr : Str} {pos : Pos} {env : Env} (h : baseOk value = true) : eval (.Attribute value attr pos) env = (do
    let o ← eval value env
    standAt pos.atName
    let r ← holding [o] (getAttr o attr true)
    letTemporaryGo value o r
    pure r) := by
  show (do
    let o ← attributeBase value attr env (eval value env)
    standAt pos.atName
    let r ← holding [o] (getAttr o attr true)
    letTemporaryGo value o r
    pure r) = _
  rw [base_plain h]
theorem oval_eq {α : Type} {x : Option α} {hs : HS} {out : Out α} (e : oval x hs = some out) : ∃ v, x = some v ∧ out = .ok v hs := by
  cases x with
  | none => cases e
  | some v => cases e; exact ⟨v, rfl, rfl⟩
theorem sub_plain {i : Expr} {o v : Value} (h : notSlice i = true) : subscripted i false o v = operate [o, v] (getItem o v) := by
  cases i <;> first | rfl | (exfalso; exact Bool.noConfusion h)
theorem VRs.getLast {ρ : List Addr} : ∀ {xs : List AV} {us : List Value} {v : AV}, VRs ρ xs us → xs.getLast? = some v → ∃ u, us[us.length - 1]? = some u ∧ VR ρ v u
  | [], _, _, .nil, e => by cases e
  | xs, us, v, x, e => by
    rw [List.getLast?_eq_getElem?] at e
    obtain ⟨u, a, b⟩ := x.get e
    exact ⟨u, by rw [x.length]; exact a, b⟩
theorem nth_of {xs : List AV} {n : Nat} {v : AV} (e : nth xs n = some v) : xs[n]? = some v ∧ (n : Int) < 2 ^ 63 := by
  unfold nth at e
  cases q : Nat.ble n 1000 with
  | false => rw [q] at e; cases e
  | true => rw [q] at e; exact ⟨e, by have := Nat.le_of_ble_eq_true q; omega⟩
theorem VRs.take {ρ : List Addr} {vs : List AV} {us : List Value} (x : VRs ρ vs us) : ∀ k, VRs ρ (vs.take k) (us.take k) := by
  induction x with
  | nil => intro k; simp; exact .nil
  | cons h _ ih =>
    intro k
    cases k with
    | zero => exact .nil
    | succ k => exact .cons h (ih k)
section
variable {c : FC} {m : Str → Option Value} {loc : Loc} {ρ : List Addr} {hs : HS} {s : Shared} {Ar : Around} {E : Value → Shared → Prop} {own fo : List (Addr × Obj)} {Q : Value → Shared → Prop} {a b v : AV} {ua ub : Value}
theorem sub_sound (O : c.Ok) (D : Dyn c m loc ρ hs s.heap) {value i : Expr} (hi : notSlice i = true) (xa : VR ρ a ua) (xb : VR ρ b ub) (e : subV a b hs.H = some v) (h : ∀ w, VR ρ v w → Q w s) :
    wpAny (model pw c.w) Ar (subscriptTail value i ua ub) Q E s := by
  obtain ⟨own, fo, D⟩ := D
  unfold subV at e
  cases xb with
  | int k t =>
    dsimp only at e
    cases q : lstGet a hs.H with
    | some xs =>
      rw [q] at e
      obtain ⟨l, its, rfl, hv, hl⟩ := D.isList q xa
      cases k with
      | ofNat n =>
        dsimp only at e
        obtain ⟨e, hb⟩ := nth_of e
        obtain ⟨w, e1, e2⟩ := hv.get e
        exact item_litK hl (Int.natCast_nonneg n) hb (by simpa using e1) (h w e2) (sub_plain hi)
      | negSucc n =>
        cases n with
        | succ n => cases e
        | zero =>
          dsimp only at e
          obtain ⟨w, e1, e2⟩ := hv.getLast e
          have hn : its.length - 1 < its.length := (List.getElem?_eq_some_iff.mp e1).1
          refine tail_any hl.typeIs slot_list_getitem.lookup (wpAny_getItem_list_neg hl (by decide) (by simp; omega) (by decide) (x := w) ?_ (h w e2)) (sub_plain hi)
          have : (Int.negSucc 0 + (its.toArray.size : Int)).toNat = its.length - 1 := by simp; omega
          rw [this]
          simpa using e1
    | none =>
      rw [q] at e
      dsimp only at e
      cases q2 : tupGet a hs.H with
      | none => rw [q2] at e; cases e
      | some xs =>
        rw [q2] at e
        obtain ⟨l, its, rfl, hv, hl⟩ := D.isTup O q2 xa
        cases k with
        | negSucc n => cases e
        | ofNat n =>
          dsimp only at e
          obtain ⟨e, hb⟩ := nth_of e
          obtain ⟨w, e1, e2⟩ := hv.get e
          have hn : n < its.length := (List.getElem?_eq_some_iff.mp e1).1
          · refine item_tupleT hl (by have := Int.natCast_nonneg n; show -(2 ^ 63) ≤ (n : Int); omega) hb (j := n) ?_ e1 (h w e2) (sub_plain hi)
            show seqIndex? (n : Int) its.length = some n
            unfold seqIndex?
            simp
            omega
  | _ => cases e
theorem toNat_lit (k : Nat) : ((Int.ofNat k)).toNat = k := rfl
/-- [::-1] -/
theorem rev_sound (D : Dyn c m loc ρ hs s.heap) {value : Expr} {xs : List AV} {out : Out AV} {n : Nat} {p1 p2 p3 : Pos} (xa : VR ρ a ua) (q : lstGet a hs.H = some xs) (hz : small xs = true) (e : newO (.list xs.reverse) hs = some out) (P : Pst c m loc ρ s VR Q E out) :
    wpAny (model pw c.w) Ar (eval (.Slice none none (some (.UnaryOp .USub (.Constant (.int (.ofNat 1)) n p1) p2)) p3) c.env)
      (fun i s₂ => wpAny (model pw c.w) Ar (subscriptTail value (.Slice none none (some (.UnaryOp .USub (.Constant (.int (.ofNat 1)) n p1) p2)) p3) ua i) Q E s₂) E s := by
  obtain ⟨own, fo, D⟩ := D
  obtain ⟨l, its, rfl, hv, hl⟩ := D.isList q xa
  show wpAny _ Ar (do
    let l ← (pure Value.none : Sem Value)
    let u ← holding [l] (pure Value.none)
    let s ← holding [l, u] (eval (.UnaryOp .USub (.Constant (.int (.ofNat 1)) n p1) p2) c.env)
    newFields "slice" [l, u, s]) _ E s
  refine wpAny_bind (wpAny_pure (wpAny_bind (wpAny_holding (wpAny_pure (wpAny_bind (wpAny_holding ?_))))))
  refine UnaryOp_ (wpAny_Constant_int ?_)
  refine neg_int ?_
  refine wpAny_newObj_type ?_ (by show 3 ≤ _; rw [sizeLine_eq]; decide)
  have z : its.length ≤ 500 := by rw [hv.length]; exact small_len hz
  rw [newO_eq e] at P
  refine kba_turn (value' := .Name "x" ⟨0, 0, 0, 0⟩) (fun _ => rfl) ?_
  refine krv_lit (s := { s with toks := _ }) (vk := .int (-1) _) (ops := [.ref l, .ref s.heap.objs.size]) D.F D.N hl (.int _ _) rfl (fun D' h' F N hlt => ?_) rfl (fun _ => rfl) (by rw [sizeLine_eq]; simp; omega)
  exact P.new D (l := [(D', listOf its.toArray.toList.reverse.toArray 0)]) F N (lt_ne hlt) (by simp) (.list (hv.reverse.ext _)) _
/-- [:k] -/
theorem take_sound (D : Dyn c m loc ρ hs s.heap) {value : Expr} {xs : List AV} {out : Out AV} {n k : Nat} {p1 p3 : Pos} (xa : VR ρ a ua) (q : lstGet a hs.H = some xs) (hz : small xs = true) (hk : k ≤ xs.length) (e : newO (.list (xs.take k)) hs = some out) (P : Pst c m loc ρ s VR Q E out) :
    wpAny (model pw c.w) Ar (eval (.Slice none (some (.Constant (.int (.ofNat k)) n p1)) none p3) c.env)
      (fun i s₂ => wpAny (model pw c.w) Ar (subscriptTail value (.Slice none (some (.Constant (.int (.ofNat k)) n p1)) none p3) ua i) Q E s₂) E s := by
  obtain ⟨own, fo, D⟩ := D
  obtain ⟨l, its, rfl, hv, hl⟩ := D.isList q xa
  show wpAny _ Ar (do
    let l ← (pure Value.none : Sem Value)
    let u ← holding [l] (eval (.Constant (.int (.ofNat k)) n p1) c.env)
    let s ← holding [l, u] (pure Value.none)
    newFields "slice" [l, u, s]) _ E s
  refine wpAny_bind (wpAny_pure (wpAny_bind (wpAny_holding ?_)))
  refine wpAny_Constant_int ?_
  refine wpAny_bind (wpAny_holding (wpAny_pure ?_))
  refine wpAny_newObj_type ?_ (by show 3 ≤ _; rw [sizeLine_eq]; decide)
  have z : its.length ≤ 500 := by rw [hv.length]; exact small_len hz
  rw [newO_eq e] at P
  refine kba_turn (value' := .Name "x" ⟨0, 0, 0, 0⟩) (fun _ => rfl) ?_
  refine kmk_slice_lit (s := { s with toks := _ }) (vl := .none) (vu := .int (.ofNat k) _) (zs := its.take k) D.F D.N hl .none (.int _ _) ?_ (fun D' h' F N hlt => ?_) rfl (fun _ => rfl) (by rw [sizeLine_eq]; simp; omega)
  · show (slicePick its.toArray none (some (k : Int)) none).toList = _
    rw [slicePick_upto _ _ (by rw [List.size_toArray, hv.length]; exact hk)]
  · exact P.new D (l := [(D', listOf (its.take k).toArray 0)]) F N (lt_ne hlt) (by simp) (.list (VRs.ext (VRs.take hv k) _)) _
end
end Mine
end
section
open PySem PySem.W PyProof.Rows
set_option Elab.async false
namespace Mine
set_option maxRecDepth 100000
open Builtin
theorem noFill_tuple_mul : fillsNumberSlot (.type "tuple") "mul" = pure false :=
  PySem.fillsNumberSlot_seq (id := "tuple.__mul__") (r := some (.builtin "tuple.__rmul__")) F.slot_tuple_mul.lookup (by decide +kernel) F.slot_tuple_rmul.lookup (by decide +kernel)
theorem repeat_tuple : seqRepeat? (.type "tuple") = pure (some (.builtin "tuple.__mul__")) := by
  unfold seqRepeat?
  rw [PySem.seqSlot_of (T := "tuple") (name := "__mul__") (id := "tuple.__mul__") F.slot_tuple_mul.lookup (by decide +kernel), PySem.seqSlot_of (T := "tuple") (name := "__rmul__") (id := "tuple.__rmul__") F.slot_tuple_rmul.lookup (by decide +kernel)]
  rfl
theorem int_rmul_tuple (a : Int) (t : Tok) (l : Addr) (items : Array Value) (n : Nat) :
    Meets (Builtin.«int.__rmul__» ⟨[.int a t, .ref l], []⟩) (fun _ R s => s.heap.get? l = some { cls := .type "tuple", dict := none, data := .seq items n, slots := #[] } ∧ R (.ok (.ret Value.notImplemented)) s) :=
  .of_wp fun prog w A R s h => by obtain ⟨hp, g, d, tk, os⟩ := s; obtain ⟨hl, h⟩ := h; wp_walk; exact ⟨_, rfl, h⟩
theorem tup_mul0 (u : Tok) (l : Addr) (v : Value) (n : Nat) :
    Meets (Builtin.«tuple.__mul__» ⟨[.ref l, .int 0 u], []⟩) (fun _ R s => s.heap.get? l = some { cls := .type "tuple", dict := none, data := .seq #[v] n, slots := #[] } ∧ R (.ok (.ret (.ref s.heap.objs.size))) { s with heap := s.heap.push { cls := .type "tuple", data := .seq #[] } }) :=
  .of_wp fun prog w A R s h => by obtain ⟨hp, g, d, tk, os⟩ := s; obtain ⟨hl, h⟩ := h; wp_walk; exact ⟨_, rfl, h⟩
theorem tup_mul1 (u : Tok) (l : Addr) (v : Value) (n : Nat) :
    Meets (Builtin.«tuple.__mul__» ⟨[.ref l, .int 1 u], []⟩) (fun _ R s => s.heap.get? l = some { cls := .type "tuple", dict := none, data := .seq #[v] n, slots := #[] } ∧ R (.ok (.ret (.ref l))) s) :=
  .of_wp fun prog w A R s h => by obtain ⟨hp, g, d, tk, os⟩ := s; obtain ⟨hl, h⟩ := h; wp_walk; exact ⟨_, rfl, h⟩
theorem tup_mul2 (u : Tok) (l : Addr) (v : Value) (n : Nat) :
    Meets (Builtin.«tuple.__mul__» ⟨[.ref l, .int 2 u], []⟩) (fun _ R s => s.heap.get? l = some { cls := .type "tuple", dict := none, data := .seq #[v] n, slots := #[] } ∧ R (.ok (.ret (.ref s.heap.objs.size))) { s with heap := s.heap.push { cls := .type "tuple", data := .seq #[v, v] } }) :=
  .of_wp fun prog w A R s h => by obtain ⟨hp, g, d, tk, os⟩ := s; obtain ⟨hl, h⟩ := h; wp_walk; exact ⟨_, rfl, h⟩
section
variable {w : World} {A : Around} {E : Value → Shared → Prop} {s : Shared} {Q : Value → Shared → Prop} {l : Addr} {v : Value} {n : Nat} {u : Tok}
theorem tup_road {x : Int} (hl : s.heap.get? l = some { cls := .type "tuple", dict := none, data := .seq #[v] n, slots := #[] })
    (h : wpAny (model pw w) A (call (.builtin "tuple.__mul__") [.ref l, .int x u]) Q E s) : wpAny (model pw w) A (binaryOp .Mult (.ref l) (.int x u)) Q E s :=
  PySem.wpAny_binaryOp_repeat_ref (T := "tuple") (U := "int") (by decide) ⟨_, hl, rfl⟩ (fun s' => typeIs_int s' x u) noFill_tuple_mul F.fills_int_mul F.slot_int_rmul repeat_tuple F.slot_int_index.lookup
    (call_meets F.slot_int_rmul (typeIs_int s x u) F.entry_int_rmul (F.args_int_rmul_2 _ _) (int_rmul_tuple x u l #[v] n) ⟨hl, rfl, ⟨_, hl, rfl⟩, h⟩)
theorem tup_road0 (hl : s.heap.get? l = some { cls := .type "tuple", dict := none, data := .seq #[v] n, slots := #[] }) (h : Q (.ref s.heap.objs.size) { s with heap := s.heap.push { cls := .type "tuple", data := .seq #[] } }) :
    wpAny (model pw w) A (binaryOp .Mult (.ref l) (.int 0 u)) Q E s := tup_road hl (call_meets F.slot_tuple_mul ⟨_, hl, rfl⟩ F.entry_tuple_mul (F.args_tuple_mul_2 _ _) (tup_mul0 u l v n) ⟨hl, h⟩)
theorem tup_road1 (hl : s.heap.get? l = some { cls := .type "tuple", dict := none, data := .seq #[v] n, slots := #[] }) (h : Q (.ref l) s) :
    wpAny (model pw w) A (binaryOp .Mult (.ref l) (.int 1 u)) Q E s := tup_road hl (call_meets F.slot_tuple_mul ⟨_, hl, rfl⟩ F.entry_tuple_mul (F.args_tuple_mul_2 _ _) (tup_mul1 u l v n) ⟨hl, h⟩)
theorem tup_road2 (hl : s.heap.get? l = some { cls := .type "tuple", dict := none, data := .seq #[v] n, slots := #[] }) (h : Q (.ref s.heap.objs.size) { s with heap := s.heap.push { cls := .type "tuple", data := .seq #[v, v] } }) :
    wpAny (model pw w) A (binaryOp .Mult (.ref l) (.int 2 u)) Q E s := tup_road hl (call_meets F.slot_tuple_mul ⟨_, hl, rfl⟩ F.entry_tuple_mul (F.args_tuple_mul_2 _ _) (tup_mul2 u l v n) ⟨hl, h⟩)
end
end Mine
end
section
open PySem PySem.W PyProof.Rows
set_option Elab.async false
namespace Mine
/-! comparisons, sums, displays -/
section
variable {c : FC} {m : Str → Option Value} {loc : Loc} {ρ : List Addr} {hs : HS} {s : Shared} {Ar : Around} {E : Value → Shared → Prop} {own fo : List (Addr × Obj)} {Q : Value → Shared → Prop} {a b v : AV} {ua ub : Value}
theorem cmp_sound (O : c.Ok) (hu : Ar.units < cLine) (D : Dyn c m loc ρ hs s.heap) {op : CmpOp} {r : Bool} (xa : VR ρ a ua) (xb : VR ρ b ub) (e : cmpV hs.H op a b = some r) (h : ∀ tk, Q (.bool r) { s with toks := tk }) :
    wpAny (model pw c.w) Ar (compareOp op ua ub) Q E s := by
  obtain ⟨own, fo, D⟩ := D
  cases op with
  | Eq => exact eq_sound O D hu xa xb e (h s.toks)
  | NotEq => exact ne_sound D hu xa xb e (h s.toks)
  | Lt =>
    unfold cmpV at e
    cases xa <;> first | cases e | (cases xb <;> first | (cases e; exact lt_int (h s.toks)) | cases e)
  | Gt =>
    unfold cmpV at e
    cases xa <;> first | cases e | (cases xb <;> first | (cases e; exact gt_int (h s.toks)) | cases e)
  | Is =>
    unfold cmpV at e
    cases xb <;> first | cases e | skip
    obtain ⟨p1, p2⟩ := isNone_plain xa e
    exact wpAny_is_plain p1 (by rw [p2]; exact h s.toks)
  | IsNot =>
    unfold cmpV at e
    cases xb <;> first | cases e | skip
    dsimp only at e
    cases q : isNone a with
    | none => rw [q] at e; cases e
    | some r' =>
      rw [q] at e; cases e
      obtain ⟨p1, p2⟩ := isNone_plain xa q
      exact wpAny_isNot_plain p1 (by rw [p2]; exact h s.toks)
  | In => exact in_sound O D xa xb e h
  | _ => cases e
theorem ble_le {a b : Nat} (h : Nat.ble a b = true) : a ≤ b := Nat.le_of_ble_eq_true h
theorem bin_sound (O : c.Ok) (D : Dyn c m loc ρ hs s.heap) {op : Operator} {out : Out AV} (xa : VR ρ a ua) (xb : VR ρ b ub) (e : binV op a b hs = some out) (P : Pst c m loc ρ s VR Q E out) :
    wpAny (model pw c.w) Ar (binaryOp op ua ub) Q E s := by
  unfold binV at e
  split at e
  · cases xa; cases xb
    rename_i x y t u
    cases q : Nat.ble (x.length + y.length) 1000 with
    | false => rw [q] at e; cases e
    | true =>
      rw [q] at e; cases e
      exact add_str (fun t' tk => P.ok D (.str _ _) tk) (by rw [sizeLine_eq]; exact Nat.le_trans (ble_le q) (by decide))
  · cases xa; cases xb; cases e
    exact add_int (P.ok D (.int _ _) _)
  · cases xa; cases xb; cases e
    exact sub_int (P.ok D (.int _ _) _)
  · split at e
    · rename_i xs ys q1 q2
      cases q : small (xs ++ ys) with
      | false => rw [q] at e; cases e
      | true =>
        rw [q] at e
        obtain ⟨own, fo, D⟩ := D
        obtain ⟨l, its, rfl, hv, hl⟩ := D.isList q1 xa
        obtain ⟨l', its', rfl, hv', hl'⟩ := D.isList q2 xb
        have z := small_len q
        rw [List.length_append] at z
        rw [newO_eq e] at P
        refine add_arrays D.F D.N hl hl' (fun h' F N => ?_) (by rw [sizeLine_eq, List.size_toArray, List.size_toArray, hv.length, hv'.length]; omega)
        exact P.new D (l := [(s.heap.objs.size, listOf (its ++ its').toArray 0)]) F N (lt_ne fun p hp => Heap.lt_size (D.N p hp).1) (by simp) (.list ((hv.append hv').ext _)) s.toks
    · cases e
  · cases xb
    rename_i k t
    split at e
    · rename_i v q
      obtain ⟨own, fo, D⟩ := D
      unfold tupGet at q
      cases xa with
      | ref hi =>
        rename_i i p
        dsimp only at q
        cases q1 : hget i hs.H with
        | none => rw [q1] at q; cases q
        | some ob =>
          rw [q1] at q
          cases ob with
          | tup ys =>
            cases q
            obtain ⟨a', l, pre, post, h1, o, he, hr⟩ := D.led.get q1
            rw [hi] at h1; cases h1
            cases o with
            | tup hv =>
              rename_i its n
              cases hv with
              | cons hv hnil =>
                cases hnil
                rename_i w
                have hm := (D.N (p, tupOf [w] n) (D.mem (by rw [he]; simp))).1
                split at e
                · rw [newO_eq e] at P
                  exact tup_road0 hm (P.new D (l := [(s.heap.objs.size, tupOf [] 0)]) (D.F.push _) (D.N.push D.F _) (lt_ne fun p hp => Heap.lt_size (D.N p hp).1) (by simp) (.tup .nil) s.toks)
                · cases e
                  exact tup_road1 hm (P.ok D.toks (.ref hi) s.toks)
                · rw [newO_eq e] at P
                  exact tup_road2 hm (P.new D (l := [(s.heap.objs.size, tupOf [w, w] 0)]) (D.F.push _) (D.N.push D.F _) (lt_ne fun p hp => Heap.lt_size (D.N p hp).1) (by simp) (.tup (.cons (hv.ext _) (.cons (hv.ext _) .nil))) s.toks)
                · cases e
          | _ => cases q
      | glob a =>
        dsimp only at q
        obtain ⟨q, _⟩ := gtup_of (w := c.w) q
        cases q
      | _ => cases q
    · cases e
  · cases e
end
/-- dicts: what the model's display lays is a dict with written keys -/
inductive KV (ρ : List Addr) : List (Str × AV) → List (Str × Value) → Prop
  | nil : KV ρ [] []
  | cons {x v u ps kvs} : VR ρ v u → KV ρ ps kvs → KV ρ ((x, v) :: ps) ((x, u) :: kvs)
theorem fr_of_pairs {w : World} {ρ : List Addr} {kvs : List (Str × Value)} {es : List DictEntry} {ps : List (Str × AV)} (hk : ∀ e ∈ es, ∃ k, (PySem.strKind pw w).is k e.key = true ∧ e.hash = (PySem.strKind pw w).hash k) (hp : Pairs (PySem.strKind pw w) es kvs) (k : KV ρ ps kvs) : FR w.params ρ ps es := by
  induction hp generalizing ps with
  | nil => cases k; exact .nil
  | @cons e kv es kvs h1 h2 hr ih =>
    cases k with
    | cons hv hps =>
    rename_i x v u ps
    obtain ⟨hsh, key, val⟩ := e
    obtain ⟨t, e1⟩ := Value.isStrOf_shape h1
    have e1 : key = .str x t := e1
    subst e1
    obtain ⟨k', h3, h4⟩ := hk _ (.head _)
    have h3 : Value.isStrOf k' (.str x t) = true := h3
    have : k' = x := by
      obtain ⟨t', e⟩ := Value.isStrOf_shape h3
      injection e with e
      exact e.symm
    subst this
    have h2 : val = u := h2
    have h4 : hsh = PyData.keyHash w.params k' := h4
    subst h2 h4
    exact .cons hv (ih (fun e he => hk e (.tail _ he)) hps)
theorem dict_of {w : World} {ρ : List Addr} {o : Obj} {ps : List (Str × AV)} {kvs : List (Str × Value)} (h : o.IsDictOf (PySem.strKind pw w) kvs) (k : KV ρ ps kvs) : ∃ es n, o = dictOf es n ∧ FR w.params ρ ps es := by
  obtain ⟨es, ep, ⟨h1, h2, h3⟩, h4, h5, h6, _⟩ := h
  obtain ⟨cl, dd, dt, sl⟩ := o
  dsimp only at h1 h2 h3 h4
  subst h1 h2 h3 h4
  refine ⟨es.toList, ep, rfl, fr_of_pairs (fun e he => h5 e (Array.mem_toList_iff.mp he)) h6 k⟩
section
variable {c : FC} {m : Str → Option Value} {loc : Loc} {ρ : List Addr} {hs : HS} {s : Shared} {Ar : Around} {E : Value → Shared → Prop} {own fo : List (Addr × Obj)} {Q : Value → Shared → Prop} {a b v : AV} {ua ub : Value}
theorem dict0_sound (O : c.Ok) (D : Dyn c m loc ρ hs s.heap) {pos : Pos} {out : Out AV} (e : newO (.dict []) hs = some out) (P : Pst c m loc ρ s VR Q E out) : wpAny (model pw c.w) Ar (eval (.Dict [] [] pos) c.env) Q E s := by
  obtain ⟨own, fo, D⟩ := D
  rw [newO_eq e] at P
  refine newDict_K D.F D.N O.top.nl fun d h' o F N hlt _ hd _ _ _ => ?_
  obtain ⟨es, n, rfl, hf⟩ := dict_of (ρ := ρ ++ [d]) hd .nil
  exact P.new D (l := [(d, dictOf es n)]) F N (lt_ne hlt) (by simp) (.dict hf) s.toks
theorem dict2_sound (O : c.Ok) (D : Dyn c m loc ρ hs s.heap) {pos p1 p2 p3 p4 : Pos} {n1 n2 : Nat} {x y v w : Str} {out : Out AV} (q1 : evName c.cc loc v ((hs.n, .dict []) :: hs.H) = some a) (q2 : evName c.cc loc w ((hs.n, .dict []) :: hs.H) = some b) (q3 : sq x y = false)
    (e : newO (.dict [(x, a), (y, b)]) hs = some out) (P : Pst c m loc ρ s VR Q E out) :
    wpAny (model pw c.w) Ar (eval (.Dict [some (.Constant (.str x) n1 p1), some (.Constant (.str y) n2 p2)] [.Name v p3, .Name w p4] pos) c.env) Q E s := by
  obtain ⟨own, fo, D⟩ := D
  rw [newO_eq e] at P
  refine kdn_eval (knd := PySem.strKind pw c.w) D.F D.N O.top.nl rfl rfl (by simp) (by simp) fun d h' o F N hlt _ hd => ?_
  obtain ⟨es0, n0, rfl, hf0⟩ := dict_of (ρ := ρ ++ [d]) hd .nil
  have D' : Dyn c m loc (ρ ++ [d]) ⟨(hs.n, .dict []) :: hs.H, hs.n + 1⟩ h' := D.add (l := [(d, dictOf es0 n0)]) F N (lt_ne hlt) (by simp) (.dict hf0)
  show wpAny _ Ar (do
    let kv ← eval (.Constant (.str x) n1 p1) c.env
    let vv ← holding [kv] (do let x ← eval (.Name v p3) c.env; standAt pos; pure x)
    return (kv, vv) :: (← holding [kv, vv] (do
      let kv ← eval (.Constant (.str y) n2 p2) c.env
      let vv ← holding [kv] (do let x ← eval (.Name w p4) c.env; standAt pos; pure x)
      return (kv, vv) :: (← holding [kv, vv] (pure []))))) _ E _
  refine wpAny_bind (Calls.Constant_str ?_)
  refine wpAny_bind (wpAny_holding (wpAny_bind (name_sound (s := { s with heap := h', toks := _ }) O D' q1 fun u1 x1 => ?_)))
  refine wpAny_bind (wpAny_standAt (wpAny_pure ?_))
  refine wpAny_bind (wpAny_holding (wpAny_bind (Calls.Constant_str ?_)))
  refine wpAny_bind (wpAny_holding (wpAny_bind (name_sound (s := { s with heap := h', toks := _ }) O D' q2 fun u2 x2 => ?_)))
  refine wpAny_bind (wpAny_standAt (wpAny_pure ?_))
  refine wpAny_bind (wpAny_holding (wpAny_pure (wpAny_pure (wpAny_pure ?_))))
  refine ⟨[(x, u1), (y, u2)], ⟨strKind_is pw c.w x _, rfl, strKind_is pw c.w y _, rfl, trivial⟩, Heap.dictOf_iff.mpr ⟨_, (N (d, dictOf es0 n0) (.head _)).1, hd⟩, fun h'' hd' hs' => ?_⟩
  have hm : merged [] [(x, u1), (y, u2)] = [(x, u1), (y, u2)] := by
    have := sq_no q3
    simp [merged, stored, this]
  rw [hm] at hd'
  obtain ⟨o'', ho'', hd''⟩ := Heap.dictOf_iff.mp hd'
  obtain ⟨es, n, rfl, hf⟩ := dict_of (ρ := ρ ++ [d]) hd'' (.cons x1 (.cons x2 .nil))
  have nd := N (d, dictOf es0 n0) (.head _)
  exact P.new D (l := [(d, dictOf es n)]) (F.change hs' nd.2.1 nd.2.2) (fun p hp => by
    rcases List.mem_cons.mp hp with rfl | hp
    · exact ⟨ho'', nd.2.1, nd.2.2⟩
    · exact ⟨(hs'.2 _ (Nat.ne_of_lt (hlt p hp))).trans (N p (.tail _ hp)).1, (N p (.tail _ hp)).2⟩) (lt_ne hlt) (by simp) (.dict hf) _
end
end Mine
end
section
open PySem PySem.W PyProof.Rows
set_option Elab.async false
namespace Mine
/-! calls -/
theorem plain_all (pos : Pos) (env : Env) : ∀ {args : List Expr}, plainAll args = true → ((backTo pos (starEach args env)).any (·.1)) = false ∧ ((backTo pos (starEach args env)).all (fun x => !x.1)) = true
  | [], _ => ⟨rfl, rfl⟩
  | e :: r, h => by
    obtain ⟨h1, h2⟩ := Bool.and_eq_true_iff.mp h
    obtain ⟨a, b⟩ := plain_all pos env h2
    rw [star_plain h1]
    exact ⟨by show (false || (backTo pos (starEach r env)).any (·.1)) = false; rw [a]; rfl, by show (true && (backTo pos (starEach r env)).all (fun x => !x.1)) = true; rw [b]; rfl⟩
theorem method_road {M : Model} {A : Around} {E : Value → Shared → Prop} {s : Shared} {o : Expr} {args : List Expr} {name : Str} {apos pos : Pos} {env : Env} {Q : Value → Shared → Prop} (hb : baseOk o = true) (hl : Nat.beq apos.endLine pos.line = true) (hn : args.length ≤ 20) (hp : plainAll args = true)
    (h : wpAny M A (eval o env) (fun ov s₁ => ∀ pl, wpAny M A (getMethod ov name pl) (fun fx s₂ => wpAny M A (callWith pos fx.1 fx.2 (backTo pos (starEach args env)) []) Q E s₂) E s₁) E s) :
    wpAny M A (eval (.Call (.Attribute o name apos) args [] pos) env) Q E s := by
  rw [arm_eval_Call, base_plain hb]
  refine wpAny_bind (wpAny_mono h (fun ov s₁ h₁ => ?_) fun _ _ e => e)
  refine wpAny_bind (wpAny_standAt ?_)
  have hline : (apos.endLine == pos.line) = true := by rw [Nat.eq_of_beq_eq_true hl]; simp
  have hfew : ((backTo pos (starEach args env)).all (fun x => !x.1) && (backToKw pos (keywordEach [] env)).all (fun x => x.1.isSome)
      && decide (args.length + ([] : List Keyword).length + (if (backToKw pos (keywordEach [] env)).isEmpty then 0 else 1) < 30)) = true := by
    rw [(plain_all pos env hp).2]
    show (true && true && decide (args.length + 0 + 0 < 30)) = true
    simp
    omega
  have hform : methodCallForm (args.length + ([] : List Keyword).length) (backTo pos (starEach args env)) (backToKw pos (keywordEach [] env)) = true := hfew
  have hpos : methodCallPos true o env apos pos = pure pos := by unfold methodCallPos; simp [hline]
  unfold methodCall
  rw [hform]
  refine wpAny_bind (wpAny_holding (wpAny_mono (h₁ _) (fun fx s₂ h₂ => ?_) fun _ _ e => e))
  obtain ⟨f, first⟩ := fx
  exact wpAny_bind (wpAny_of_eq hpos h₂)
/-- what a callable value is kept by -/
noncomputable def Keepable (w : World) (u : Value) : Prop := ∀ (M : Model) (h : Heap), (KF w.params).In h → ∃ k, (k = Keeper.frame ∨ k = Keeper.machine ∨ k = Keeper.boundFrame) ∧ Looks M h (keeperOf u) k
theorem keep_bi (w : World) (s : String) : Keepable w (.builtin s) := fun _ _ _ => ⟨.machine, .inr (.inl rfl), .now⟩
theorem keep_ty (w : World) (s : String) : Keepable w (.type s) := fun _ _ _ => ⟨.machine, .inr (.inl rfl), .now⟩
theorem fn_mem {a : Addr} {f : FnI} : ∀ {l : List FnI}, fnAt a l = some f → f ∈ l ∧ f.at_ = a
  | g :: r, e => by
    have e' : (match Nat.beq g.at_ a with | true => some g | false => fnAt a r) = some f := e
    cases q : Nat.beq g.at_ a with
    | true => rw [q] at e'; cases e'; exact ⟨.head _, Nat.eq_of_beq_eq_true q⟩
    | false => rw [q] at e'; obtain ⟨x, y⟩ := fn_mem e'; exact ⟨.tail _ x, y⟩
theorem look_append_skip {a : Addr} {l r : Frag} (h : l.lookup a = none) : (l ++ r).lookup a = r.lookup a := by
  rw [List.lookup_append, h]; rfl
theorem cls_skip (P : Params) : (fnL.all fun f => ((clsK P).lookup f.at_).isNone) = true := by kernel_rfl
theorem fn_nodup : (fnL.map (·.at_)).Nodup := by decide +kernel
theorem look_fns {f : FnI} : ∀ {l : List FnI}, f ∈ l → (l.map (·.at_)).Nodup → (l.map fun f => (f.at_, f.obj)).lookup f.at_ = some f.obj
  | g :: r, hm, nd => by
    rw [List.map_cons, List.lookup_cons]
    rcases List.mem_cons.mp hm with rfl | hm
    · simp
    · rw [List.map_cons, List.nodup_cons] at nd
      have : f.at_ ≠ g.at_ := fun e => nd.1 (e ▸ List.mem_map.mpr ⟨f, hm, rfl⟩)
      have hb : (f.at_ == g.at_) = false := by simpa using this
      rw [hb]
      exact look_fns hm nd.2
theorem look_fn (P : Params) {f : FnI} (h : f ∈ fnL) : (KF P).lookup f.at_ = some f.obj := by
  unfold KF
  have := List.all_eq_true.mp (cls_skip P) f h
  rw [look_append_skip (Option.isNone_iff_eq_none.mp this)]
  exact look_fns h fn_nodup
theorem cls_keep (P : Params) : (clsN.all fun C => keepIn (KF P) (.ref C)) = true := by kernel_rfl
theorem callable_keep {w : World} {ρ : List Addr} {v : AV} {u : Value} (h : callable v = true) (x : VR ρ v u) : Keepable w u := by
  cases x with
  | bi s => exact keep_bi w s
  | ty s => exact keep_ty w s
  | glob a =>
    have hk : keepIn (KF w.params) (.ref a) = true := by
      unfold callable at h
      dsimp only at h
      cases q : fnAt a fnL with
      | some f =>
        obtain ⟨hm, rfl⟩ := fn_mem q
        unfold keepIn
        dsimp only
        rw [look_fn w.params hm]
        rfl
      | none =>
        rw [q] at h
        cases q2 : clsAt a with
        | none => rw [q2] at h; cases h
        | some i =>
          have hc : a ∈ clsN := by
            unfold clsAt at q2
            split at q2 <;> first | (simp [clsN]; done) | cases q2
          exact List.all_eq_true.mp (cls_keep w.params) a hc
    exact fun M h X => keeps_K hk h X
  | _ => cases h
section
variable {r : Ev} {k : Nat} {c : FC} {m : Str → Option Value} {loc : Loc} {Ar : Around} {ρ : List Addr} {s : Shared} {E : Value → Shared → Prop} {Q : Value → Shared → Prop}
/-- a call, its arguments read from the left -/
theorem callWith_road (S : Snd r k) (O : c.Ok) (A : ArOk c ρ Ar k) {pos : Pos} {args : List Expr} {hs : HS} {out : Out AV} {kk : List AV → HS → Option (Out AV)} {u : Value} {first : List Value} (hp : plainAll args = true) (hk : Keepable c.w u)
    (e : obind (evs r c.cc loc args hs) kk = some out) (D : Dyn c m loc ρ hs s.heap) (P : Pst c m loc ρ s VR Q E out)
    (K : ∀ vs hs₁, kk vs hs₁ = some out → ∀ l h₁ tk us, Dyn c m loc (ρ ++ l) hs₁ h₁ → VRs (ρ ++ l) vs us → Pst c m loc (ρ ++ l) { s with heap := h₁, toks := tk } VR Q E out → wpAny (model pw c.w) Ar (call u (first ++ us)) Q E { s with heap := h₁, toks := tk }) :
    wpAny (model pw c.w) Ar (callWith pos u first (backTo pos (starEach args c.env)) []) Q E s := by
  refine callWith_of (P := (KF c.w.params).In) (by rw [(plain_all pos c.env hp).1]; rfl) (hk _) ?_
  cases args with
  | nil =>
    have e : kk [] hs = some out := e
    refine evalArgs_nil3 ⟨?_, ?_⟩
    · obtain ⟨_, _, D⟩ := D; exact O.top.X.keeps D.F.keep
    · exact K [] hs e [] s.heap s.toks [] D.here .nil (P.later [] s.heap s.toks)
  | cons x rest =>
    obtain ⟨h1, h2⟩ := Bool.and_eq_true_iff.mp hp
    rw [star_plain h1]
    refine Calls.evalArgs_plain ?_
    have T := fun r₁ (h₁ : evs r c.cc loc (x :: rest) hs = some r₁) => evs_sound (m := m) S O pos A h₁ D
    rw [star_plain h1] at T
    refine Tr.seq e T P fun vs hs₁ e l h₁ tk us D₁ x₁ P => ?_
    refine ⟨?_, K vs hs₁ e l h₁ tk us D₁ x₁ P⟩
    obtain ⟨_, _, D⟩ := D₁; exact O.top.X.keeps D.F.keep
end
end Mine
end
section
open PySem PySem.W PyProof.Rows
set_option Elab.async false
namespace Mine
/-! methods -/
theorem avLast_of {ρ : List Addr} {xs : List AV} : ∀ {ys : List AV} {y : AV} {us : List Value}, avLast xs = some (ys, y) → VRs ρ xs us → ∃ p u, kl_last us = some (p, u) ∧ VRs ρ ys p ∧ VR ρ y u := by
  induction xs with
  | nil => intro ys y us e _; cases e
  | cons x r ih =>
    intro ys y us e hv
    cases hv with
    | cons h hr =>
      rename_i u us
      cases r with
      | nil => cases hr; cases e; exact ⟨[], _, rfl, .nil, h⟩
      | cons x' r =>
        have e' : (match avLast (x' :: r) with | some (ys, y) => some (x :: ys, y) | none => none) = some (ys, y) := e
        cases q : avLast (x' :: r) with
        | none => rw [q] at e'; cases e'
        | some z =>
          obtain ⟨zs, z⟩ := z
          rw [q] at e'; cases e'
          obtain ⟨p, w, h1, h2, h3⟩ := ih q hr
          refine ⟨u :: p, w, ?_, .cons h h2, h3⟩
          show (match kl_last us with | some (p, y) => some (u :: p, y) | none => some ([], u)) = _
          rw [h1]
section
variable {c : FC} {m : Str → Option Value} {loc : Loc} {ρ : List Addr} {hs : HS} {h : Heap} {own fo pre post : List (Addr × Obj)} {a : Addr} {o o' : Obj}
theorem DynI.updU (D : DynI c m loc ρ hs h own fo) (he : own = pre ++ (a, o) :: post) : Upd a o o' (own ++ (c.other ++ fo)) ((pre ++ (a, o') :: post) ++ (c.other ++ fo)) := by
  have nd := D.nd
  subst he
  rw [List.append_assoc, List.cons_append] at nd ⊢
  rw [List.append_assoc, List.cons_append]
  exact upd_split nd
theorem DynI.updD (D : DynI c m loc ρ hs h own fo) (he : own = pre ++ (a, o) :: post) {h' : Heap} {H' : AHeap} (F : Fr c.G c.L h' m) (N : News c.G c.L h' ((pre ++ (a, o') :: post) ++ (c.other ++ fo)))
    (led : Led c.w.params ρ H' (pre ++ (a, o') :: post)) : Dyn c m loc ρ ⟨H', hs.n⟩ h' := by
  have nd := D.nd
  subst he
  refine ⟨_, fo, F, N, ?_, led, D.fo, D.n, D.loc, D.cells⟩
  simpa using nd
end
section
variable {c : FC} {m : Str → Option Value} {loc : Loc} {ρ : List Addr} {hs : HS} {s : Shared} {Ar : Around} {E : Value → Shared → Prop} {own fo : List (Addr × Obj)} {Q : Value → Shared → Prop} {a b v : AV} {ua ub : Value} {xs : List AV} {i : Nat} {D : Addr}
theorem line_ok {n : Nat} (h : n ≤ 5000) : n ≤ sizeLine := by rw [sizeLine_eq]; omega
theorem short_ok {n : Nat} (h : n ≤ 5000) : Builtin.List.listTooLong n = false := by
  unfold Builtin.List.listTooLong
  rw [sizeLine_eq]
  simp
  omega
theorem hget_list {H : AHeap} (q : hget i H = some (.list xs)) : lstGet (.ref i) H = some xs := by unfold lstGet; dsimp only; rw [q]
theorem append_sound (Dy : Dyn c m loc ρ hs s.heap) (q : hget i hs.H = some (.list xs)) (hz : small xs = true) (hi : ρ[i]? = some D) (xb : VR ρ b ub) (P : Pst c m loc ρ s VR Q E (.ok .none (setO i (.list (xs ++ [b])) hs))) :
    wpAny (model pw c.w) Ar (call (.builtin "list.append") [.ref D, ub]) Q E s := by
  obtain ⟨own, fo, Dy⟩ := Dy
  obtain ⟨i', a', its, n, pre, post, e1, e2, h1, hv, he, hr⟩ := Dy.list (hget_list q) (.ref hi)
  cases e1; cases e2
  have z := small_len hz
  refine append_K Dy.F Dy.N (Dy.updU he) (fun h' F N => ?_) (by rw [List.size_toArray, hv.length]; exact line_ok (by omega))
  refine P [] h' s.toks _ ?_ .none
  have e : listOf (its.toArray.push ub) (n + 1) = listOf (its ++ [ub]).toArray (n + 1) := by rw [List.push_toArray]
  rw [e] at N
  have := Dy.updD he F N (hr (xs ++ [b]) (its ++ [ub]) (n + 1) (hv.append (.cons xb .nil)))
  exact this.here
theorem pop_sound (Dy : Dyn c m loc ρ hs s.heap) (q : hget i hs.H = some (.list xs)) (hz : small xs = true) (hi : ρ[i]? = some D) {ys : List AV} {y : AV} (hl : avLast xs = some (ys, y)) (P : Pst c m loc ρ s VR Q E (.ok y (setO i (.list ys) hs))) :
    wpAny (model pw c.w) Ar (call (.builtin "list.pop") [.ref D]) Q E s := by
  obtain ⟨own, fo, Dy⟩ := Dy
  obtain ⟨i', a', its, n, pre, post, e1, e2, h1, hv, he, hr⟩ := Dy.list (hget_list q) (.ref hi)
  cases e1; cases e2
  have z := small_len hz
  obtain ⟨p, u, k1, k2, k3⟩ := avLast_of hl hv
  refine kl_pop Dy.F Dy.N (p := p) (y := u) k1 (Dy.updU he) (by show its.length ≤ _; rw [hv.length]; exact line_ok (by omega)) (fun h' F N => ?_)
  refine P [] h' s.toks _ (Dyn.here ?_) k3.here
  exact Dy.updD he F N (hr ys p (n + 1) k2)
theorem extend_sound (Dy : Dyn c m loc ρ hs s.heap) (q : hget i hs.H = some (.list xs)) (hz : small xs = true) (hi : ρ[i]? = some D) (xb : VR ρ b ub) {ys : List AV} (hl : lstGet b hs.H = some ys) (hz' : small ys = true)
    (P : Pst c m loc ρ s VR Q E (.ok .none (setO i (.list (xs ++ ys)) hs))) :
    wpAny (model pw c.w) Ar (call (.builtin "list.extend") [.ref D, ub]) Q E s := by
  obtain ⟨own, fo, Dy⟩ := Dy
  obtain ⟨i', a', its, n, pre, post, e1, e2, h1, hv, he, hr⟩ := Dy.list (hget_list q) (.ref hi)
  cases e1; cases e2
  obtain ⟨i2, a2, its2, n2, pre2, post2, rfl, rfl, h2, hv2, he2, _⟩ := Dy.list hl xb
  have z := small_len hz
  have z' := small_len hz'
  have hm : (a2, listOf its2.toArray n2) ∈ own ++ (c.other ++ fo) := by
    have : (a2, listOf its2.toArray n2) ∈ own := by rw [he2]; simp
    exact List.mem_append_left _ this
  have t1 : ¬(!its.toArray.isEmpty && Builtin.List.listTooLong (its.toArray.size + its2.toArray.size)) = true := by
    rw [List.size_toArray, List.size_toArray, hv.length, hv2.length, short_ok (by omega)]
    simp
  have t2 : its.toArray.toList.length ≤ sizeLine := by show its.length ≤ _; rw [hv.length]; exact line_ok (by omega)
  have t3 : its.toArray.size + its2.toArray.size ≤ sizeLine + 1 := by rw [List.size_toArray, List.size_toArray, hv.length, hv2.length]; exact Nat.le_succ_of_le (line_ok (by omega))
  cases its2 with
  | nil =>
    cases hv2
    refine kxn_extend Dy.F Dy.N hm rfl (Dy.updU he) t1 t2 t3 (fun h' F N => ?_)
    refine P [] h' s.toks _ (Dyn.here ?_) .none
    rw [List.append_nil]
    exact Dy.updD he F N (hr xs its n hv)
  | cons u us =>
    refine kl_extend Dy.F Dy.N hm (l := its ++ (u :: us)) rfl (by simp) (Dy.updU he) t1 t2 t3 (fun h' F N => ?_)
    refine P [] h' s.toks _ (Dyn.here ?_) .none
    exact Dy.updD he F N (hr (xs ++ ys) (its ++ (u :: us)) (n + 1) (hv.append hv2))
theorem strs_vrs {ρ : List Addr} : ∀ {l : List (Str × Tok)}, VRs ρ ((l.map (·.1)).map AV.str) (strValues l)
  | [] => .nil
  | (x, t) :: r => .cons (.str x t) (strs_vrs (l := r))
theorem ari_split : Txt.split ariS " " = ariL := by kernel_rfl
theorem split_sound (Dy : Dyn c m loc ρ hs s.heap) {t u : Tok} {out : Out AV} (e : newO (.list (ariL.map .str)) hs = some out) (P : Pst c m loc ρ s VR Q E out) :
    wpAny (model pw c.w) Ar (call (.builtin "str.split") [.str ariS t, .str " " u]) Q E s := by
  obtain ⟨own, fo, Dy⟩ := Dy
  rw [newO_eq e] at P
  refine KSpl.split1 Dy.F Dy.N (by kernel_rfl) (fun D l h' k e1 _ F N hlt => ?_) (by rw [sizeLine_eq]; have : ariS.length = 10 := by kernel_rfl
                                                                                     omega)
  rw [ari_split] at e1
  refine P.new Dy (l := [(D, listOf (strValues l).toArray 0)]) F N (lt_ne hlt) (by simp) (.list ?_) k
  rw [← e1]
  exact strs_vrs
end
end Mine
end
section
open PySem PySem.W PyProof.Rows
set_option Elab.async false
namespace Mine
set_option maxRecDepth 100000
/-! one step of an expression -/
theorem add_facts (P : Params) : (plainGet (KF P) 164 "add" && (isFn (KF P) (.ref 142) && (findIn (KF P) (.ref 164) "add" == some (some (.ref 142))))) = true := by kernel_rfl
theorem sq_self (x : Str) : sq x x = true := sq_iff.mpr rfl
theorem n1 : sq ("append" : Str) "add" = false := by kernel_rfl
theorem n2 : sq ("pop" : Str) "add" = false := by kernel_rfl
theorem n3 : sq ("extend" : Str) "add" = false := by kernel_rfl
theorem n4 : sq ("pop" : Str) "append" = false := by kernel_rfl
theorem n5 : sq ("extend" : Str) "append" = false := by kernel_rfl
theorem n6 : sq ("extend" : Str) "pop" = false := by kernel_rfl
theorem n7 : sq ("add" : Str) "append" = false := by kernel_rfl
theorem n8 : sq ("add" : Str) "pop" = false := by kernel_rfl
theorem n9 : sq ("add" : Str) "extend" = false := by kernel_rfl
section
variable {r : Ev} {k : Nat} {c : FC} {m : Str → Option Value} {loc : Loc} {Ar : Around} {ρ : List Addr} {s : Shared} {hs : HS} {E : Value → Shared → Prop} {Q : Value → Shared → Prop}
theorem meth_sound (S : Snd r k) (O : c.Ok) (A : ArOk c ρ Ar k) {pos : Pos} {args : List Expr} {name : Str} {out : Out AV} {v : AV} {u : Value} {pl : Sem Bool} (hp : plainAll args = true) (q : methOk v name hs.H = true) (x : VR ρ v u)
    (e : obind (evs r c.cc loc args hs) (fun vs hs => methV r c.cc.hand v name vs hs) = some out) (D : Dyn c m loc ρ hs s.heap) (P : Pst c m loc ρ s VR Q E out) :
    wpAny (model pw c.w) Ar (getMethod u name pl) (fun fx s₂ => wpAny (model pw c.w) Ar (callWith pos fx.1 fx.2 (backTo pos (starEach args c.env)) []) Q E s₂) E s := by
  unfold methOk at q
  cases x with
  | str y t =>
    have q := sq_iff.mp q
    subst q
    refine getMethod_builtin (typeIs_str s y t) PySem.F.plainAttrs_str PySem.F.slot_str_split PySem.F.type_str_split (fun a e => by cases e) ?_
    refine callWith_road S O A hp (keep_bi _ _) e D P fun vs hs₁ e2 l h₁ tk us D₁ x₁ P => ?_
    unfold methV at e2
    dsimp only at e2
    split at e2
    · rename_i sep _
      cases q2 : (sq sep " " && sq y ariS) with
      | false => rw [q2] at e2; cases e2
      | true =>
        rw [q2] at e2
        obtain ⟨z1, z2⟩ := Bool.and_eq_true_iff.mp q2
        have z1 := sq_iff.mp z1
        have z2 := sq_iff.mp z2
        subst z1 z2
        cases x₁ with
        | cons h1 h2 =>
          cases h1; cases h2
          exact split_sound D₁ e2 P
    · cases e2
  | ref hi =>
    rename_i i p
    dsimp only at q
    cases q1 : hget i hs.H with
    | none => rw [q1] at q; cases q
    | some ob =>
      rw [q1] at q
      cases ob with
      | list xs =>
        dsimp only at q
        obtain ⟨own, fo, Dy⟩ := id D
        obtain ⟨i', a', its, n, pre, post, e1, e2, _, hv, he, _⟩ := Dy.list (hget_list q1) (.ref hi)
        cases e1; cases e2
        have hm : (p, listOf its.toArray n) ∈ own ++ (c.other ++ fo) := by
          have : (p, listOf its.toArray n) ∈ own := by rw [he]; simp
          exact List.mem_append_left _ this
        rcases Bool.or_eq_true_iff.mp q with q | q
        · rcases Bool.or_eq_true_iff.mp q with q | q
          · have q := sq_iff.mp q
            subst q
            refine kl_method Dy.N hm PySem.F.slot_list_append PySem.F.type_list_append ?_
            refine callWith_road S O A hp (keep_bi _ _) e D P fun vs hs₁ e l h₁ tk us D₁ x₁ P => ?_
            unfold methV at e
            dsimp only at e
            rw [sq_self, n1] at e
            split at e
            · rename_i zs q2
              cases q3 : small zs with
              | false => rw [q3] at e; cases e
              | true =>
                rw [q3] at e
                cases x₁ with
                | nil => simp only [show sq ("append" : Str) "pop" = false from by kernel_rfl, show sq ("append" : Str) "extend" = false from by kernel_rfl] at e; cases e
                | cons h1 h2 =>
                  cases h2 with
                  | nil => cases e; exact append_sound D₁ q2 q3 (getx hi) h1 P
                  | cons => simp only [show sq ("append" : Str) "pop" = false from by kernel_rfl, show sq ("append" : Str) "extend" = false from by kernel_rfl] at e; cases e
            · split at e <;> first | cases e | (rename_i z; cases z)
            · cases e
          · have q := sq_iff.mp q
            subst q
            refine kl_method Dy.N hm PySem.F.slot_list_pop PySem.F.type_list_pop ?_
            refine callWith_road S O A hp (keep_bi _ _) e D P fun vs hs₁ e l h₁ tk us D₁ x₁ P => ?_
            unfold methV at e
            dsimp only at e
            rw [sq_self, n2, n4] at e
            split at e
            · rename_i zs q2
              cases q3 : small zs with
              | false => rw [q3] at e; cases e
              | true =>
                rw [q3] at e
                cases x₁ with
                | nil =>
                  dsimp only at e
                  cases q4 : avLast zs with
                  | none => rw [q4] at e; cases e
                  | some z =>
                    obtain ⟨ys, y⟩ := z
                    rw [q4] at e
                    cases e
                    exact pop_sound D₁ q2 q3 (getx hi) q4 P
                | cons h1 h2 => simp only [show sq ("pop" : Str) "extend" = false from by kernel_rfl] at e; cases e
            · split at e <;> first | cases e | (rename_i z; cases z)
            · cases e
        · have q := sq_iff.mp q
          subst q
          refine kl_method Dy.N hm PySem.F.slot_list_extend PySem.F.type_list_extend ?_
          refine callWith_road S O A hp (keep_bi _ _) e D P fun vs hs₁ e l h₁ tk us D₁ x₁ P => ?_
          unfold methV at e
          dsimp only at e
          rw [sq_self, n3, n5, n6] at e
          split at e
          · rename_i zs q2
            cases q3 : small zs with
            | false => rw [q3] at e; cases e
            | true =>
              rw [q3] at e
              cases x₁ with
              | nil => cases e
              | cons h1 h2 =>
                cases h2 with
                | cons => cases e
                | nil =>
                  rename_i b ub
                  dsimp only at e
                  cases q4 : lstGet b hs₁.H with
                  | none => rw [q4] at e; cases e
                  | some ys =>
                    rw [q4] at e
                    dsimp only at e
                    cases q5 : small ys with
                    | false => rw [q5] at e; cases e
                    | true =>
                      rw [q5] at e
                      cases e
                      exact extend_sound D₁ q2 q3 (getx hi) h1 q4 q5 P
          · split at e <;> first | cases e | (rename_i z; cases z)
          · cases e
      | inst C fs =>
        dsimp only at q
        obtain ⟨qa, qb⟩ := Bool.and_eq_true_iff.mp q
        obtain ⟨qa, qc⟩ := Bool.and_eq_true_iff.mp qa
        have hC := Nat.eq_of_beq_eq_true qa
        subst hC
        have qc := sq_iff.mp qc
        subst qc
        have qn : fget "add" fs = none := by
          cases z : fget "add" fs with
          | none => rfl
          | some v => rw [z] at qb; cases qb
        obtain ⟨own, fo, Dy⟩ := id D
        obtain ⟨d, es, n, pre, post, hv, he, _⟩ := Dy.inst q1 hi
        have m1 : (p, instObj 164 d) ∈ own ++ (c.other ++ fo) := by rw [he]; simp
        have m2 : (d, dictOf es n) ∈ own ++ (c.other ++ fo) := by rw [he]; simp
        have f := add_facts c.w.params
        obtain ⟨f1, f⟩ := Bool.and_eq_true_iff.mp f
        obtain ⟨f2, f3⟩ := Bool.and_eq_true_iff.mp f
        refine method_inst Dy.F O.top.X (InstAt.of_news Dy.N m1 m2) f1 (beq_iff_eq.mp f3) f2 (hv.miss qn) ?_
        refine callWith_road S O A hp (callable_keep (ρ := ρ) (v := .glob 142) (by kernel_rfl) (.glob 142)) e D P fun vs hs₁ e l h₁ tk us D₁ x₁ P => ?_
        unfold methV at e
        dsimp only at e
        rw [sq_self, n7, n8, n9] at e
        split at e
        · split at e <;> cases e
        · split at e
          · exact S.call O (A.ext l) e D₁ (.glob 142) (.cons (.ref (getx hi)) x₁) _ _ P
          · cases e
        · cases e
      | _ => cases q
  | _ => cases q
end
end Mine
end
section
open PySem PySem.W PyProof.Rows
set_option Elab.async false
namespace Mine
set_option maxRecDepth 100000
/-! one step of an expression -/
/-- what is asked of a comprehension -/
noncomputable def SndLc (r : Ev) (k : Nat) : Prop := ∀ {c : FC} {m loc ρ hs s Ar elt x px iter ifs scope pos out}, c.Ok → ArOk c ρ Ar (k + 1) → compV r c.cc loc elt x iter ifs scope hs = some out → Dyn c m loc ρ hs s.heap →
  Tr c m loc Ar (eval (.ListComp elt [⟨.Name x px, iter, ifs, 0⟩] scope pos) c.env) VR ρ s out
section
variable {r : Ev} {k : Nat} {c : FC} {m : Str → Option Value} {loc : Loc} {Ar : Around} {ρ : List Addr} {s : Shared} {hs : HS} {E : Value → Shared → Prop} {Q : Value → Shared → Prop}
theorem ArOk.cl {n : Nat} (A : ArOk c ρ Ar n) : Ar.units < cLine := by
  have := A.un
  have e : cLine = 9900 := by decide
  rw [e]
  omega
theorem not_marked {op : CmpOp} {e : Expr} (h : notSet e = true) : behindInMarks op e = false := by
  cases e <;> first | rfl | (exfalso; exact Bool.noConfusion h)
theorem stepE_sound (XA : ∀ w, ExcAt w) (SL : SndLc r k) (S : Snd r k) {e : Expr} {out : Out AV} (O : c.Ok) (A : ArOk c ρ Ar (k + 1)) (h : stepE r c.cc loc e hs = some out) (D : Dyn c m loc ρ hs s.heap) :
    Tr c m loc Ar (eval e c.env) VR ρ s out := by
  have A' : ArOk c ρ Ar k := A.le (Nat.le_succ k)
  intro Q E P
  revert h
  unfold stepE
  generalize EV.of e = v
  cases v <;> intro h <;> try dsimp only at h
  · -- Constant
    obtain ⟨v, h1, rfl⟩ := oval_eq h
    exact const_sound h1 fun u tk x => P.ok D x tk
  · -- Name
    obtain ⟨v, h1, rfl⟩ := oval_eq h
    exact name_sound O D h1 fun u x => P.ok D x s.toks
  · -- Attribute
    rename_i o a pos
    cases q : baseOk o with
    | false => rw [q] at h; cases h
    | true =>
      rw [q] at h
      refine Attribute_any_ ?_ (attr_eq q)
      refine Tr.seq h (fun r₁ h₁ => S.e O A' h₁ D) P fun v hs₁ h l h₁ tk u D₁ x₁ P => ?_
      obtain ⟨w, h2, rfl⟩ := oval_eq h
      exact attr_sound (XA _) O D₁ h2 x₁ fun z tk x => P.ok D₁ x tk
  · -- [::-1]
    refine Subscript_ ?_
    refine Tr.seq h (fun r₁ h₁ => S.e O A' h₁ D) P fun v hs₁ h l h₁ tk u D₁ x₁ P => ?_
    split at h
    · rename_i xs q1
      cases q2 : small xs with
      | false => rw [q2] at h; cases h
      | true => rw [q2] at h; exact rev_sound D₁ x₁ q1 q2 h P
    · cases h
  · -- [:k]
    refine Subscript_ ?_
    refine Tr.seq h (fun r₁ h₁ => S.e O A' h₁ D) P fun v hs₁ h l h₁ tk u D₁ x₁ P => ?_
    split at h
    · rename_i kk _ _ _ _ xs q1
      split at h
      · rename_i q2
        obtain ⟨q3, q4⟩ := Bool.and_eq_true_iff.mp q2
        exact take_sound D₁ x₁ q1 q3 (ble_le q4) h P
      · cases h
    · cases h
  · -- [i]
    rename_i o i pos
    cases q : notSlice i with
    | false => rw [q] at h; cases h
    | true =>
      rw [q] at h
      refine Subscript_ ?_
      refine Tr.seq h (fun r₁ h₁ => S.e O A' h₁ D) P fun v hs₁ h l h₁ tk u D₁ x₁ P => ?_
      refine Tr.seq h (fun r₁ h₁ => S.e O (A'.ext l) h₁ D₁) P fun w hs₂ h l₂ h₂ tk₂ u₂ D₂ x₂ P => ?_
      obtain ⟨z, h2, rfl⟩ := oval_eq h
      exact sub_sound O D₂ q (x₁.ext _) x₂ h2 fun z x => P.ok D₂ x tk₂
  · -- a method
    rename_i o a ap args p
    split at h
    · rename_i q
      obtain ⟨q1, q⟩ := Bool.and_eq_true_iff.mp q
      obtain ⟨q2, q⟩ := Bool.and_eq_true_iff.mp q
      obtain ⟨q3, q4⟩ := Bool.and_eq_true_iff.mp q
      refine method_road q1 q2 (ble_le q3) q4 ?_
      refine Tr.seq h (fun r₁ h₁ => S.e O A' h₁ D) P fun v hs₁ h l h₁ tk u D₁ x₁ P pl => ?_
      split at h
      · rename_i q5
        exact meth_sound S O (A'.ext l) q4 q5 x₁ h D₁ P
      · cases h
    · cases h
  · -- a call
    refine Call_ ?_
    refine Tr.seq h (fun r₁ h₁ => S.e O A' h₁ D) P fun v hs₁ h l h₁ tk u D₁ x₁ P => ?_
    split at h
    · rename_i q
      obtain ⟨q1, q2⟩ := Bool.and_eq_true_iff.mp q
      refine callWith_road S O (A'.ext l) q2 (callable_keep q1 x₁) h D₁ P fun vs hs₂ h l₂ h₂ tk₂ us D₂ x₂ P => ?_
      exact S.call O ((A'.ext l).ext l₂) h D₂ (x₁.ext _) x₂ _ _ P
    · cases h
  · -- a list
    refine List_ ?_
    refine Tr.seq h (fun r₁ h₁ => evs_sound S O _ A' h₁ D) P fun v hs₁ h l h₁ tk u D₁ x₁ P => ?_
    split at h
    · rename_i q; exact newList_sound D₁ x₁ q h P
    · cases h
  · -- a tuple
    refine Tuple_ ?_
    refine Tr.seq h (fun r₁ h₁ => evs_sound S O _ A' h₁ D) P fun v hs₁ h l h₁ tk u D₁ x₁ P => ?_
    split at h
    · rename_i q; exact newTuple_sound D₁ x₁ q h P
    · cases h
  · exact dict0_sound O D h P
  · split at h
    · rename_i q1 q2 q3
      exact dict2_sound O D q1 q2 q3 h P
    · cases h
  · -- Compare
    split at h
    · rename_i q
      refine wpAny_Compare1 ?_ (not_marked q)
      refine Tr.seq h (fun r₁ h₁ => S.e O A' h₁ D) P fun v hs₁ h l h₁ tk u D₁ x₁ P => ?_
      refine Tr.seq h (fun r₁ h₁ => S.e O (A'.ext l) h₁ D₁) P fun w hs₂ h l₂ h₂ tk₂ u₂ D₂ x₂ P => ?_
      split at h
      · rename_i b q2
        cases h
        exact cmp_sound O A.cl D₂ (x₁.ext _) x₂ q2 fun tk => P.ok D₂ (.bool _) tk
      · cases h
    · cases h
  · exact BoolOp_one (S.e O A' h D _ _ P)
  · -- and
    refine BoolOp_and ?_
    refine Tr.seq h (fun r₁ h₁ => S.e O A' h₁ D) P fun v hs₁ h l h₁ tk u D₁ x₁ P => ?_
    split at h
    · cases x₁; exact wpAny_truthy_bool (S.e O (A'.ext l) h D₁ _ _ P)
    · cases x₁; cases h; exact wpAny_truthy_bool (P.ok D₁ (.bool _) tk)
    · cases h
  · -- or
    refine BoolOp_or ?_
    refine Tr.seq h (fun r₁ h₁ => S.e O A' h₁ D) P fun v hs₁ h l h₁ tk u D₁ x₁ P => ?_
    split at h
    · cases x₁; exact wpAny_truthy_bool (S.e O (A'.ext l) h D₁ _ _ P)
    · cases x₁; cases h; exact wpAny_truthy_bool (P.ok D₁ (.bool _) tk)
    · cases h
  · -- not
    refine UnaryOp_ ?_
    refine Tr.seq h (fun r₁ h₁ => S.e O A' h₁ D) P fun v hs₁ h l h₁ tk u D₁ x₁ P => ?_
    split at h
    · cases x₁; cases h; exact not_of (wpAny_truthy_bool (P.ok D₁ (.bool _) tk))
    · cases h
  · -- minus
    refine UnaryOp_ ?_
    refine Tr.seq h (fun r₁ h₁ => S.e O A' h₁ D) P fun v hs₁ h l h₁ tk u D₁ x₁ P => ?_
    split at h
    · cases x₁; cases h; exact neg_int (P.ok D₁ (.int _ _) _)
    · cases h
  · -- BinOp
    refine wpAny_BinOp ?_
    refine Tr.seq h (fun r₁ h₁ => S.e O A' h₁ D) P fun v hs₁ h l h₁ tk u D₁ x₁ P => ?_
    refine Tr.seq h (fun r₁ h₁ => S.e O (A'.ext l) h₁ D₁) P fun w hs₂ h l₂ h₂ tk₂ u₂ D₂ x₂ P => ?_
    exact bin_sound O D₂ (x₁.ext _) x₂ h P
  · -- IfExp
    refine IfExp_ ?_
    refine Tr.seq h (fun r₁ h₁ => S.t O A' h₁ D) P fun v hs₁ h l h₁ tk u D₁ x₁ P => ?_
    cases x₁
    cases v with
    | true => exact S.e O (A'.ext l) h D₁ _ _ P
    | false => exact S.e O (A'.ext l) h D₁ _ _ P
  · exact SL O A h D _ _ P
  · cases h
theorem stepT_sound (S : Snd r k) {e : Expr} {out : Out Bool} (O : c.Ok) (A : ArOk c ρ Ar (k + 1)) (h : stepT r c.cc loc e hs = some out) (D : Dyn c m loc ρ hs s.heap) :
    Tr c m loc Ar (isTrue e c.env (eval e c.env)) BR ρ s out := by
  have A' : ArOk c ρ Ar k := A.le (Nat.le_succ k)
  intro Q E P
  revert h
  unfold stepT
  generalize TV.of e = v
  cases v <;> intro h <;> try dsimp only at h
  · refine isTrue_not ?_
    refine Tr.seq h (fun r₁ h₁ => S.t O A' h₁ D) P fun v hs₁ h l h₁ tk u D₁ x₁ P => ?_
    cases x₁; cases h
    exact P.ok D₁ rfl tk
  · cases h; exact isTrue_and_nil (P.ok D rfl s.toks)
  · refine isTrue_and ?_
    refine Tr.seq h (fun r₁ h₁ => S.t O A' h₁ D) P fun v hs₁ h l h₁ tk u D₁ x₁ P => ?_
    cases x₁
    cases v with
    | true => exact S.t O (A'.ext l) h D₁ _ _ P
    | false => cases h; exact P.ok D₁ rfl tk
  · cases h; exact isTrue_or_nil (P.ok D rfl s.toks)
  · refine isTrue_or ?_
    refine Tr.seq h (fun r₁ h₁ => S.t O A' h₁ D) P fun v hs₁ h l h₁ tk u D₁ x₁ P => ?_
    cases x₁
    cases v with
    | false => exact S.t O (A'.ext l) h D₁ _ _ P
    | true => cases h; exact P.ok D₁ rfl tk
  · split at h
    · rename_i q
      refine wpAny_isTrue_Compare1 ?_ (not_marked q)
      refine Tr.seq h (fun r₁ h₁ => S.e O A' h₁ D) P fun v hs₁ h l h₁ tk u D₁ x₁ P => ?_
      refine Tr.seq h (fun r₁ h₁ => S.e O (A'.ext l) h₁ D₁) P fun w hs₂ h l₂ h₂ tk₂ u₂ D₂ x₂ P => ?_
      obtain ⟨b, q2, rfl⟩ := oval_eq h
      exact cmp_sound O A.cl D₂ (x₁.ext _) x₂ q2 fun tk => wpAny_truthy_bool (P.ok D₂ rfl tk)
    · cases h
  · refine isTrue_plain ?_
    refine Tr.seq h (fun r₁ h₁ => S.e O A' h₁ D) P fun v hs₁ h l h₁ tk u D₁ x₁ P => ?_
    split at h
    · cases x₁; cases h; exact wpAny_truthy_bool (P.ok D₁ rfl tk)
    · cases h
  · refine isTrue_plain ?_
    refine Tr.seq h (fun r₁ h₁ => S.e O A' h₁ D) P fun v hs₁ h l h₁ tk u D₁ x₁ P => ?_
    split at h
    · cases x₁; cases h; exact wpAny_truthy_bool (P.ok D₁ rfl tk)
    · cases h
  · cases h
end
end Mine
end
section
open PySem PySem.W PyProof.Rows
set_option Elab.async false
namespace Mine
set_option maxRecDepth 100000
/-! statements: what is asked of them; what a name takes -/
inductive FlR (ρ : List Addr) : Fl → Flow → Prop
  | next : FlR ρ .next .next
  | ret {v u} : VR ρ v u → FlR ρ (.ret v) (.ret u)
noncomputable def PstS (c : FC) (ρ : List Addr) (s : Shared) (Q : Flow → Shared → Prop) (E : Value → Shared → Prop) : Out (Fl × Loc) → Prop
  | .ok p hs' => ∀ m' l h' tk f, Dyn c m' p.2 (ρ ++ l) hs' h' → FlR (ρ ++ l) p.1 f → Q f { s with heap := h', toks := tk }
  | .exc msg hs' => ∀ m' l e h' tk, Fly c m' (ρ ++ l) hs' msg e h' → E (.ref e) { s with heap := h', toks := tk }
theorem PstS.later {c : FC} {ρ : List Addr} {s : Shared} {Q : Flow → Shared → Prop} {E : Value → Shared → Prop} {r : Out (Fl × Loc)} (P : PstS c ρ s Q E r) (l : List Addr) (h : Heap) (t : Nat) : PstS c (ρ ++ l) { s with heap := h, toks := t } Q E r := by
  cases r with
  | ok v hs' => intro m' l' h' tk b D R; rw [List.append_assoc] at D R; exact P m' (l ++ l') h' tk b D R
  | exc msg hs' => intro m' l' e h' tk D; rw [List.append_assoc] at D; exact P m' (l ++ l') e h' tk D
noncomputable def TrS (c : FC) (Ar : Around) (t : Sem Flow) (ρ : List Addr) (s : Shared) (r : Out (Fl × Loc)) : Prop := ∀ Q E, PstS c ρ s Q E r → wpAny (model pw c.w) Ar t Q E s
structure FM (c : FC) : Prop where
  env : c.env = c.fenv
  loc : c.env.locals = c.L
noncomputable def SndSs (r : Ev) (k : Nat) : Prop := ∀ {c : FC} {m loc ρ hs s Ar sts out}, c.Ok → FM c → ArOk c ρ Ar k → r.ss c.cc loc sts hs = some out → Dyn c m loc ρ hs s.heap → TrS c Ar (execs sts c.env) ρ s out
theorem fput_get {x y : Str} {v : AV} : ∀ {l : Loc}, fget y (fput x v l) = match sq x y with | true => some v | false => fget y l
  | [] => rfl
  | (z, u) :: r => by
    rw [fput_cons]
    cases q : sq z x with
    | true =>
      have := sq_iff.mp q
      subst this
      dsimp only
      rw [fget_cons]
      cases q2 : sq z y with
      | true => rfl
      | false => rw [fget_cons, q2]
    | false =>
      dsimp only
      rw [fget_cons]
      cases q2 : sq z y with
      | true =>
        have := sq_iff.mp q2
        subst this
        cases q3 : sq x z with
        | true => rw [sq_iff.mp q3, sq_self] at q; cases q
        | false => rw [fget_cons, sq_self]
      | false =>
        dsimp only
        rw [fput_get (l := r)]
        cases q3 : sq x y with
        | true => rfl
        | false => rw [fget_cons, q2]
theorem LR.put {ρ : List Addr} {loc : Loc} {m : Str → Option Value} {x : Str} {v : AV} {u : Value} (h : LR ρ loc m) (hv : VR ρ v u) : LR ρ (fput x v loc) (fun y => if y = x then some u else m y) := by
  intro y w e
  rw [fput_get] at e
  cases q : sq x y with
  | true =>
    rw [q] at e; cases e
    exact ⟨u, if_pos (sq_iff.mp q).symm, hv⟩
  | false =>
    rw [q] at e
    obtain ⟨z, a, b⟩ := h y w e
    exact ⟨z, (if_neg (fun e => sq_no q e.symm)).trans a, b⟩
section
variable {c : FC} {m : Str → Option Value} {loc : Loc} {ρ : List Addr} {hs : HS} {s : Shared} {Ar : Around} {E : Value → Shared → Prop} {own fo : List (Addr × Obj)} {v : AV} {u : Value}
theorem LR_of (M : FM c) {h : Heap} (D : DynI c m loc ρ hs h own fo) : LR ρ loc m := by
  rcases D.loc with ⟨_, b⟩ | ⟨o, mC, a, _, _⟩
  · exact b
  · have := (D.N (c.env.locals, o) (by simp [a])).2.1
    exact absurd M.loc this
theorem isLoc_kind (O : c.Ok) {x : Str} (h : isLoc c.cc x = true) : c.env.kindOf x = some .local := by
  rw [O.kind]
  unfold isLoc at h
  split at h
  · assumption
  · cases h
theorem store_sound (O : c.Ok) (M : FM c) (D : Dyn c m loc ρ hs s.heap) {x : Str} (hx : isLoc c.cc x = true) (xv : VR ρ v u) {Q : Unit → Shared → Prop} (h : ∀ m' h' tk, Dyn c m' (fput x v loc) ρ hs h' → Q () { s with heap := h', toks := tk }) :
    wpAny (model pw c.w) Ar (storeName c.env x u) Q E s := by
  obtain ⟨own, fo, D⟩ := D
  have hn : s.heap.Ns c.env.locals m := by rw [M.loc]; exact D.F.ns
  refine wpAny_storeName_local (isLoc_kind O hx) hn (fun h' hn' hs' => ?_) (by show (c.env.scope.kind == .class || (c.env.scope.kind == .module && c.env.locals != c.env.globals)) = false; rw [O.eK]; rfl)
  rw [M.loc] at hn' hs'
  exact h _ h' _ ⟨own, fo, D.F.set hn' hs', D.N.set hs', D.nd, D.led, D.fo, D.n, .inl ⟨M.loc, (LR_of M D).put xv⟩, D.cells⟩
theorem storeCell_sound (O : c.Ok) (D : Dyn c m loc ρ hs s.heap) {x : Str} {i : Nat} {v₀ : Option AV} (hx : c.cc.kind x = some .cell) (hc : cget x c.cc.cells = some i) (hg : hget i hs.H = some (.cell v₀)) (xv : VR ρ v u) {Q : Unit → Shared → Prop}
    (h : ∀ h' tk, Dyn c m loc ρ (setO i (.cell (some v)) hs) h' → Q () { s with heap := h', toks := tk }) :
    wpAny (model pw c.w) Ar (storeName c.env x u) Q E s := by
  obtain ⟨own, fo, D⟩ := D
  obtain ⟨a, h1, h2⟩ := D.cells x i hc
  obtain ⟨a', l, pre, post, h3, o, he, hr⟩ := D.led.get hg
  rw [h2] at h3; cases h3
  have one : ∃ o w, l = [(a, o)] ∧ o.data = .cell w := by
    cases o with
    | cellN h => exact ⟨_, _, rfl, h⟩
    | cellS _ h => exact ⟨_, _, rfl, h⟩
  obtain ⟨oc, w, rfl, hd⟩ := one
  have he' : own = pre ++ (a, oc) :: post := by rw [he]; simp
  have hm := D.N (a, oc) (D.mem (by rw [he']; simp))
  refine wpAny_storeName_cell O.eK ((O.kind x).trans hx) h1 ⟨_, hm.1, hd⟩ fun h' hv hs' => ?_
  obtain ⟨oc', e', hd'⟩ := hv
  obtain ⟨p1, p2, q1, q2, q3, q4⟩ := (D.updU (o' := oc') he').split
  have N' : News c.G c.L h' ((pre ++ (a, oc') :: post) ++ (c.other ++ fo)) := by
    rw [q2]
    exact news_set (by rw [← q1]; exact D.N) q3 q4 hs' e'
  have led : Led c.w.params ρ (hset i (.cell (some v)) hs.H) (pre ++ (a, oc') :: post) := by simpa using hr _ _ (.cellS xv hd')
  exact h h' s.toks (D.updD he' (D.F.change hs' hm.2.1 hm.2.2) N' led)
end
end Mine
end
section
open PySem PySem.W PyProof.Rows
set_option Elab.async false
namespace Mine
set_option maxRecDepth 100000
/-! a new exception made while another is handled -/
theorem entry_unchain : entryFor table "proto.unchain" = some Builtin.«proto.unchain» := PySem.entryFor_of_tree (by kernel_rfl)
section
variable {w : World} {A : Around} {E : Value → Shared → Prop} {s : Shared}
theorem raise_held {α : Type} {e hx : Addr} {oh oe : Obj} {vs ws : Array Value} {Q : α → Shared → Prop} (hA : A.handled = some (.ref hx)) (hne : hx ≠ e) (ho : s.heap.get? hx = some oh) (hd : oh.data = .fields vs) (h2 : vs[2]? = some .none)
    (he : s.heap.get? e = some oe) (hde : oe.data = .fields ws) (hw : 2 < ws.size) (hE : E (.ref e) { s with heap := s.heap.update e (Obj.mapFields (·.setIfInBounds 2 (.ref hx))) }) :
    wpAny (model pw w) A (raiseNew (.ref e) : Sem α) Q E s := by
  unfold raiseNew
  refine wpAny_bind (wpAny_handled ?_)
  rw [hA]
  have hb : (Value.ref hx != Value.ref e) = true := by simp [hne]
  show wpAny _ _ (if (Value.ref hx != Value.ref e) = true then _ else _) _ _ _
  rw [if_pos hb]
  refine wpAny_bind (wpAny_holding (wpAny_runValue (codeAny_builtin entry_unchain ?_)))
  unfold Builtin.«proto.unchain»
  refine wpAny_bind (wpAny_field ho hd h2 ?_)
  rw [if_pos (by rfl)]
  refine wpAny_bind (wpAny_pure ?_)
  refine wpAny_pure ?_
  refine wpAny_bind ?_
  unfold updateField
  refine wpAny_bind (wpAny_load he ?_)
  rw [hde]
  show wpAny _ _ (if 2 < ws.size then _ else _) _ _ _
  rw [if_pos hw]
  exact wpAny_update he (wpAny_throw hE)
theorem next_tuple_held {it t hx : Addr} {i : Nat} {items} {oh : Obj} {vs : Array Value} {Q : Option Value → Shared → Prop} (hA : A.handled = some (.ref hx)) (hho : s.heap.get? hx = some oh) (hhd : oh.data = .fields vs) (hh2 : vs[2]? = some .none) (hni : hx ≠ it)
    (hit : IsTupIter s.heap it t i) (ht : IsTup s.heap t items) (hx' : items[i]? = none)
    (hQ : ∀ h', Heap.ExtBut it s.heap h' → Q none { s with heap := h' }) : wpAny (model pw w) A (pyNext (.ref it)) Q E s := by
  obtain ⟨o, ho, hc, hd⟩ := id hit
  obtain ⟨ol, hol, _, nl, hdl⟩ := ht
  unfold pyNext
  refine wpAny_bind (wpAny_attempt (wpAny_callSpecial?_slot (name := Str.ofString "__next__") hit.typeIs slot_tupleiter_next
    (wpAny_call_entry slot_tupleiter_next hit.typeIs entry_tupleiter_next ?_ (args_tupleiter_next _))))
  show wpAny _ _ (field (.ref it) 0 >>= _) _ _ s
  refine wpAny_bind (wpAny_field ho hd (x := .ref t) rfl ?_)
  show wpAny _ _ (if (Value.ref t == Value.none) = true then _ else _) _ _ s
  rw [if_neg (show ¬ ((Value.ref t == Value.none) = true) from Bool.false_ne_true)]
  show wpAny _ _ (field (.ref it) 1 >>= _) _ _ s
  refine wpAny_bind (wpAny_field ho hd (x := .int i 0) rfl ?_)
  show wpAny _ _ (seqItems? (.ref t) >>= _) _ _ s
  refine wpAny_bind (wpAny_seqItems hol hdl ?_)
  simp only [Int.toNat_natCast, hx']
  refine wpAny_bind (wpAny_rule (wpAny_bind (wpAny_setField ho hd (by simp) ?_)))
  show wpAny _ _ (newExc (.type "StopIteration") [] >>= _) _ _ _
  refine wpAny_bind ?_
  simp only [newExc, newTuple]
  refine wpAny_bind (wpAny_newObj_type ?_ (by size_fits))
  refine wpAny_bind (m := firstArgMember _ _) (wpAny_of_eq (a := Value.none) (by first | rfl | (simp only [firstArgMember]; rfl)) ?_)
  refine wpAny_newObj_type ?_ (by size_fits)
  have lt1 : hx < s.heap.objs.size := Heap.lt_size hho
  refine raise_held (oh := oh) (vs := vs) (show A.in1.handled = _ from hA) ?_ ?_ hhd hh2 (Heap.get?_push_size _ rfl) rfl ?_ ?_
  · refine Nat.ne_of_lt ?_
    rw [Heap.size_push, Heap.size_after_update]
    exact Nat.lt_succ_of_lt lt1
  · exact Heap.get?_push_of_some _ (Heap.get?_push_of_some _ ((Heap.get?_update_other _ _ (Ne.symm hni)).trans hho))
  · rw [Array.size_append]; exact Nat.lt_of_lt_of_le (show 2 < 6 by decide) (Nat.le_add_right _ _)
  · refine wpAny_bind (wpAny_isInstance (T := "StopIteration") (b := true) ⟨_, Heap.get?_update_self _ (Heap.get?_push_size _ rfl) rfl, rfl⟩ isSubtype_stop ?_)
    refine wpAny_pure (hQ _ fun b ob hb e => ?_)
    have lt2 : b < s.heap.objs.size := Heap.lt_size e
    refine (Heap.get?_update_other _ _ (Nat.ne_of_gt ?_)).trans (Heap.get?_push_of_some _ (Heap.get?_push_of_some _ ((Heap.get?_update_other _ _ (Ne.symm hb)).trans e)))
    rw [Heap.size_push, Heap.size_after_update]
    exact Nat.lt_succ_of_lt lt2
end
end Mine
end
section
open PySem PySem.W PyProof.Rows
set_option Elab.async false
namespace Mine
set_option maxRecDepth 100000
/-! iterators, loops -/
noncomputable abbrev FC.wo (c : FC) (p : Addr × Obj) : FC := { c with other := p :: c.other }
theorem FC.Ok.wo {c : FC} (O : c.Ok) (p : Addr × Obj) : (c.wo p).Ok := ⟨O.top, O.fL, O.fK, O.out, O.eK, O.eG, O.eB, O.kind⟩
theorem FM.wo {c : FC} (M : FM c) (p : Addr × Obj) : FM (c.wo p) := ⟨M.env, M.loc⟩
theorem ArOk.wo {c : FC} {ρ : List Addr} {Ar : Around} {k : Nat} (A : ArOk c ρ Ar k) (p : Addr × Obj) : ArOk (c.wo p) ρ Ar k := ⟨A.fr, A.dp, A.un, A.hd⟩
inductive ItO (ρ : List Addr) : Src → Nat → Obj → Prop
  | lst {v l i o} : VR ρ v (.ref l) → o.cls = .type "list_iterator" → o.data = .fields #[.ref l, .int (i : Nat) 0] → ItO ρ (.lst v) i o
  | tup {v l i o} : VR ρ v (.ref l) → o.cls = .type "tuple_iterator" → o.data = .fields #[.ref l, .int (i : Nat) 0] → ItO ρ (.tup v) i o
  | rng {n i : Nat} : ItO ρ (.rng n) i { cls := .type "range_iterator", dict := none, data := .fields #[rawInt (i : Int), rawInt ((n : Int) - (i : Int)), rawInt 1], slots := #[] }
theorem ItO.ext {ρ : List Addr} {s : Src} {i : Nat} {o : Obj} (x : ItO ρ s i o) (l : List Addr) : ItO (ρ ++ l) s i o := by
  cases x with
  | lst a b d => exact .lst (a.ext l) b d
  | tup a b d => exact .tup (a.ext l) b d
  | rng => exact .rng
theorem nodup_mid {a : Addr} {xs ys : List Addr} (h1 : (xs ++ ys).Nodup) (h2 : a ∉ xs ++ ys) : (xs ++ (a :: ys)).Nodup := by
  rw [List.nodup_append] at h1 ⊢
  rw [List.mem_append, not_or] at h2
  refine ⟨h1.1, List.nodup_cons.mpr ⟨h2.2, h1.2.1⟩, fun x hx y hy => ?_⟩
  rcases List.mem_cons.mp hy with rfl | hy
  · exact fun e => h2.1 (e ▸ hx)
  · exact h1.2.2 x hx y hy
section
variable {c : FC} {m : Str → Option Value} {loc : Loc} {ρ : List Addr} {hs : HS} {h h' : Heap} {own fo : List (Addr × Obj)} {it : Addr} {o o' : Obj}
theorem LocOk.wo (x : LocOk c m loc ρ) (p : Addr × Obj) : LocOk (c.wo p) m loc ρ := by
  rcases x with ⟨a, b⟩ | ⟨o, mC, a, b, d⟩
  · exact .inl ⟨a, b⟩
  · exact .inr ⟨o, mC, List.mem_cons_of_mem _ a, b, d⟩
theorem LocOk.unwo {p : Addr × Obj} (x : LocOk (c.wo p) m loc ρ) (hne : c.env.locals ≠ p.1) : LocOk c m loc ρ := by
  rcases x with ⟨a, b⟩ | ⟨o, mC, a, b, d⟩
  · exact .inl ⟨a, b⟩
  · rcases List.mem_cons.mp a with e | a
    · exact absurd (congrArg Prod.fst e) hne
    · exact .inr ⟨o, mC, a, b, d⟩
/-- a made object set beside -/
theorem DynI.beside (D : DynI c m loc ρ hs h own fo) (F : Fr c.G c.L h' m) (N : News c.G c.L h' ((it, o) :: (own ++ (c.other ++ fo)))) (hlt : ∀ p ∈ own ++ (c.other ++ fo), p.1 ≠ it) : DynI (c.wo (it, o)) m loc ρ hs h' own fo := by
  refine ⟨F, fun p hp => ?_, ?_, D.led, D.fo, D.n, D.loc.wo _, D.cells⟩
  · refine N p ?_
    rcases List.mem_append.mp hp with hp | hp
    · exact .tail _ (List.mem_append_left _ hp)
    · rcases List.mem_cons.mp hp with rfl | hp
      · exact .head _
      · exact .tail _ (List.mem_append_right _ hp)
  · show ((own ++ ((it, o) :: (c.other ++ fo))).map (·.1)).Nodup
    have nd := D.nd
    rw [List.map_append] at nd
    rw [List.map_append, List.map_cons]
    refine nodup_mid nd fun hm => ?_
    rw [← List.map_append] at hm
    obtain ⟨p, hp, e⟩ := List.mem_map.mp hm
    exact hlt p hp e
theorem DynI.itMem (D : DynI (c.wo (it, o)) m loc ρ hs h own fo) : h.get? it = some o ∧ it ≠ c.L ∧ c.G.get? it = none := D.N (it, o) (List.mem_append_right _ (.head _))
theorem DynI.itNe (D : DynI (c.wo (it, o)) m loc ρ hs h own fo) : ∀ p ∈ own ++ (c.other ++ fo), p.1 ≠ it := by
  intro p hp e
  have nd : ((own ++ ((it, o) :: (c.other ++ fo))).map (·.1)).Nodup := D.nd
  rw [List.map_append, List.map_cons, List.nodup_append] at nd
  obtain ⟨_, n2, n3⟩ := nd
  rw [List.nodup_cons] at n2
  rcases List.mem_append.mp hp with hp | hp
  · exact n3 p.1 (List.mem_map.mpr ⟨p, hp, rfl⟩) it (.head _) e
  · exact n2.1 (e ▸ List.mem_map.mpr ⟨p, hp, rfl⟩)
theorem DynI.itSet (D : DynI (c.wo (it, o)) m loc ρ hs h own fo) (hs' : Heap.SameBut it h h') (e : h'.get? it = some o') (hne : c.env.locals ≠ it) : DynI (c.wo (it, o')) m loc ρ hs h' own fo := by
  have hm := D.itMem
  have hn := D.itNe
  refine ⟨D.F.change hs' hm.2.1 hm.2.2, fun p hp => ?_, ?_, D.led, D.fo, D.n, (D.loc.unwo hne).wo _, D.cells⟩
  · have hp : p ∈ own ++ ((it, o') :: (c.other ++ fo)) := hp
    by_cases hpi : p = (it, o')
    · subst hpi; exact ⟨e, hm.2⟩
    · have hp' : p ∈ own ++ (c.other ++ fo) := by
        rcases List.mem_append.mp hp with hp | hp
        · exact List.mem_append_left _ hp
        · rcases List.mem_cons.mp hp with rfl | hp
          · exact absurd rfl hpi
          · exact List.mem_append_right _ hp
      have hp2 : p ∈ own ++ ((it, o) :: (c.other ++ fo)) := by
        rcases List.mem_append.mp hp' with hp | hp
        · exact List.mem_append_left _ hp
        · exact List.mem_append_right _ (.tail _ hp)
      have := D.N p hp2
      exact ⟨(hs'.2 _ (hn p hp')).trans this.1, this.2⟩
  · have nd : ((own ++ ((it, o) :: (c.other ++ fo))).map (·.1)).Nodup := D.nd
    show ((own ++ ((it, o') :: (c.other ++ fo))).map (·.1)).Nodup
    simpa using nd
theorem DynI.itGo (D : DynI (c.wo (it, o)) m loc ρ hs h own fo) (hk : Heap.ExtBut it h h') (hne : c.env.locals ≠ it) : DynI c m loc ρ hs h' own fo := by
  have hm := D.itMem
  have hn := D.itNe
  refine ⟨?_, fun p hp => ?_, ?_, D.led, D.fo, D.n, D.loc.unwo hne, D.cells⟩
  · obtain ⟨oL, a1, a2, hoL, a3⟩ := D.F.ns
    refine ⟨⟨oL, a1, a2, hk _ _ (Ne.symm hm.2.1) hoL, a3⟩, fun b x e => hk _ _ (fun q => ?_) (D.F.keep b x e), D.F.above⟩
    rw [q, hm.2.2] at e; cases e
  · have hp2 : p ∈ own ++ ((it, o) :: (c.other ++ fo)) := by
      rcases List.mem_append.mp hp with hp | hp
      · exact List.mem_append_left _ hp
      · exact List.mem_append_right _ (.tail _ hp)
    have := D.N p hp2
    exact ⟨hk _ _ (hn p hp) this.1, this.2⟩
  · have nd : ((own ++ ((it, o) :: (c.other ++ fo))).map (·.1)).Nodup := D.nd
    refine List.Nodup.sublist (List.Sublist.map _ (List.Sublist.append_left (List.sublist_cons_self _ _) _)) nd
end
section
variable {c : FC} {m : Str → Option Value} {loc : Loc} {ρ : List Addr} {hs : HS} {s : Shared} {Ar : Around} {E : Value → Shared → Prop} {own fo : List (Addr × Obj)} {it : Addr} {o : Obj} {src : Src} {i : Nat} {v : AV} {Q : Option Value → Shared → Prop}
theorem next_item (O : c.Ok) (D : DynI (c.wo (it, o)) m loc ρ hs s.heap own fo) (hne : c.env.locals ≠ it) (I : ItO ρ src i o) (e : srcAt src i hs.H = some (some v))
    (h : ∀ u h' o' tk, DynI (c.wo (it, o')) m loc ρ hs h' own fo → ItO ρ src (i + 1) o' → VR ρ v u → Q (some u) { s with heap := h', toks := tk }) : wpAny (model pw c.w) Ar (pyNext (.ref it)) Q E s := by
  have hm := D.itMem
  cases I with
  | lst a b d =>
    rename_i v' l
    unfold srcAt at e
    dsimp only at e
    cases q : lstGet v' hs.H with
    | none => rw [q] at e; cases e
    | some xs =>
      rw [q] at e
      obtain ⟨l', its, e1, hv, hl⟩ := D.isList q a
      cases e1
      obtain ⟨u, e2, e3⟩ := hv.get (Option.some.inj e)
      refine wpAny_pyNext_list_item ⟨o, hm.1, b, d⟩ hl (by simpa using e2) fun h' hit hs' => ?_
      obtain ⟨o', g1, g2, g3⟩ := hit
      exact h u h' o' s.toks (D.itSet hs' g1 hne) (.lst a g2 g3) e3
  | tup a b d =>
    rename_i v' l
    unfold srcAt at e
    dsimp only at e
    cases q : tupGet v' hs.H with
    | none => rw [q] at e; cases e
    | some xs =>
      rw [q] at e
      obtain ⟨l', its, e1, hv, hl⟩ := D.isTup (O.wo _) q a
      cases e1
      obtain ⟨u, e2, e3⟩ := hv.get (Option.some.inj e)
      refine next_tuple_item ⟨o, hm.1, b, d⟩ hl (by simpa using e2) fun h' hit hs' => ?_
      obtain ⟨o', g1, g2, g3⟩ := hit
      exact h u h' o' s.toks (D.itSet hs' g1 hne) (.tup a g2 g3) e3
  | rng =>
    rename_i n
    unfold srcAt at e
    dsimp only at e
    cases q : Nat.blt i n with
    | false => rw [q] at e; cases e
    | true =>
      rw [q] at e; cases e
      have q : i < n := Nat.le_of_ble_eq_true q
      refine wpAny_pyNext_range_item hm.1 (by omega) fun h' hit hs' => ?_
      have e1 : ((i : Int) + 1) = ((i + 1 : Nat) : Int) := by push_cast; rfl
      have e2 : ((n : Int) - (i : Int) - 1) = (n : Int) - ((i + 1 : Nat) : Int) := by push_cast; omega
      rw [e1, e2] at hit
      exact h _ h' _ _ (D.itSet hs' hit hne) .rng (.int _ _)
/-- what is handled, in the heap -/
theorem held_at (D : DynI c m loc ρ hs s.heap own fo) {j : Nat} {e : Addr} {msg : Str} (h1 : ρ[j]? = some e) (q : hget j hs.H = some (.exc msg)) : ∃ oe vs, s.heap.get? e = some oe ∧ oe.data = .fields vs ∧ vs[2]? = some .none := by
  obtain ⟨a', l, pre, post, h3, ob, he, hr⟩ := D.led.get q
  rw [h1] at h3; cases h3
  cases ob with
  | exc b1 b2 b3 b4 b5 =>
    rename_i d oe od vs
    exact ⟨oe, vs, (D.N (e, oe) (D.mem (by rw [he]; simp))).1, b3, b4⟩
theorem next_end (O : c.Ok) (D : DynI (c.wo (it, o)) m loc ρ hs s.heap own fo) (hne : c.env.locals ≠ it) (H : HandOk c ρ Ar) (I : ItO ρ src i o) (e : srcAt src i hs.H = some none) (hf : handFree src c.cc.hand hs.H = true)
    (h : ∀ h', DynI c m loc ρ hs h' own fo → Q none { s with heap := h' }) : wpAny (model pw c.w) Ar (pyNext (.ref it)) Q E s := by
  have hm := D.itMem
  unfold HandOk at H
  cases qh : c.cc.hand with
  | none =>
    rw [qh] at H
    have H : Ar.handled = none := H
    cases I with
    | lst a b d =>
      rename_i v' l
      unfold srcAt at e
      dsimp only at e
      cases q : lstGet v' hs.H with
      | none => rw [q] at e; cases e
      | some xs =>
        rw [q] at e
        obtain ⟨l', its, e1, hv, hl⟩ := D.isList q a
        cases e1
        have e2 : its[i]? = none := by
          have : xs[i]? = none := Option.some.inj e
          rw [List.getElem?_eq_none_iff] at this ⊢
          rw [hv.length]; exact this
        exact wpAny_pyNext_list_end H ⟨o, hm.1, b, d⟩ hl (by simpa using e2) fun h' hk => h h' (D.itGo hk hne)
    | tup a b d =>
      rename_i v' l
      unfold srcAt at e
      dsimp only at e
      cases q : tupGet v' hs.H with
      | none => rw [q] at e; cases e
      | some xs =>
        rw [q] at e
        obtain ⟨l', its, e1, hv, hl⟩ := D.isTup (O.wo _) q a
        cases e1
        have e2 : its[i]? = none := by
          have : xs[i]? = none := Option.some.inj e
          rw [List.getElem?_eq_none_iff] at this ⊢
          rw [hv.length]; exact this
        exact next_tuple_end H ⟨o, hm.1, b, d⟩ hl (by simpa using e2) fun h' hk => h h' (D.itGo hk hne)
    | rng =>
      rename_i n
      unfold srcAt at e
      dsimp only at e
      cases q : Nat.blt i n with
      | true => rw [q] at e; cases e
      | false =>
        have q : ¬ i < n := fun z => by have : Nat.blt i n = true := Nat.ble_eq_true_of_le z; rw [this] at q; cases q
        exact wpAny_pyNext_range_end H hm.1 (by omega) fun h' hk => h h' (D.itGo hk hne)
  | some j =>
    rw [qh] at H hf
    obtain ⟨hx, H1, H2⟩ := H
    unfold handFree at hf
    dsimp only at hf
    cases I with
    | lst a b d => cases hf
    | rng => cases hf
    | tup a b d =>
      rename_i v' l
      dsimp only at hf
      cases q2 : hget j hs.H with
      | none => rw [q2] at hf; cases hf
      | some ob =>
        rw [q2] at hf
        cases ob with
        | exc msg =>
          obtain ⟨oe, vs, g1, g2, g3⟩ := held_at D H2 q2
          unfold srcAt at e
          dsimp only at e
          cases q : tupGet v' hs.H with
          | none => rw [q] at e; cases e
          | some xs =>
            rw [q] at e
            obtain ⟨l', its, e1, hv, hl⟩ := D.isTup (O.wo _) q a
            cases e1
            have e2 : its[i]? = none := by
              have : xs[i]? = none := Option.some.inj e
              rw [List.getElem?_eq_none_iff] at this ⊢
              rw [hv.length]; exact this
            refine next_tuple_held H1 g1 g2 g3 (fun z => ?_) ⟨o, hm.1, b, d⟩ hl (by simpa using e2) fun h' hk => h h' (D.itGo hk hne)
            subst z
            obtain ⟨a', l2, pre, post, h3, ob', he, hr⟩ := D.led.get q2
            rw [H2] at h3; cases h3
            cases ob' with
            | exc b1 b2 b3 b4 b5 =>
              rename_i d' oe' od vs'
              exact D.itNe (hx, oe') (List.mem_append_left _ (by rw [he]; simp)) rfl
        | _ => cases hf
end
end Mine
end
section
open PySem PySem.W PyProof.Rows
set_option Elab.async false
namespace Mine
set_option maxRecDepth 100000
/-! For and While -/
section
variable {c : FC} {m : Str → Option Value} {loc : Loc} {ρ : List Addr} {hs : HS} {s : Shared} {Ar : Around} {E : Value → Shared → Prop}
theorem bind_sound (O : c.Ok) (M : FM c) (H : HandOk c ρ Ar) (D : Dyn c m loc ρ hs s.heap) {tg : Expr} {v : AV} {u : Value} {loc' : Loc} (e : bindT c.cc loc hs.H tg v = some loc') (x : VR ρ v u) {Q : Unit → Shared → Prop}
    (h : ∀ m' h' tk, Dyn c m' loc' ρ hs h' → Q () { s with heap := h', toks := tk }) : wpAny (model pw c.w) Ar (assign tg c.env u) Q E s := by
  revert e
  unfold bindT
  generalize BV.of tg = vw
  cases vw <;> intro e <;> dsimp only at e
  · rename_i y p
    cases q : isLoc c.cc y with
    | false => rw [q] at e; cases e
    | true => rw [q] at e; cases e; exact wpAny_assign_Name (store_sound O M D q x h)
  · rename_i y p z p' k p''
    split at e
    · rename_i a b q1 q2 q3
      cases e
      obtain ⟨q4, q5⟩ := Bool.and_eq_true_iff.mp q1
      obtain ⟨own, fo, D⟩ := D
      obtain ⟨t, its, rfl, hv, hl⟩ := D.isTup O q3 x
      cases hv with
      | cons ha hr =>
        cases hr with
        | cons hb hr =>
          cases hr
          rename_i ua ub
          have Hh : Ar.handled = none := by unfold HandOk at H; rw [q2] at H; exact H
          refine assign_Tuple_tuple Hh hl rfl rfl fun h' hk => ?_
          have D' : Dyn c m loc ρ hs h' := by
            refine ⟨own, fo, ⟨?_, fun p hp => ?_, D.nd, D.led, D.fo, D.n, D.loc, D.cells⟩⟩
            · exact D.F.extBut hk (Nat.le_refl _)
            · have := D.N p hp
              exact ⟨hk _ _ (Nat.ne_of_lt (Heap.lt_size this.1)) this.1, this.2⟩
          refine assignInOrder_cons (wpAny_assign_Name (store_sound (s := { s with heap := h' }) O M D' q4 ha fun m1 h1 tk1 D1 => ?_))
          exact assignInOrder_cons (wpAny_assign_Name (store_sound (s := { s with heap := h1, toks := tk1 }) O M D1 q5 hb fun m2 h2 tk2 D2 => assignInOrder_nil (h m2 h2 tk2 D2)))
    · cases e
  · cases e
theorem goOwned {tg : Expr} {it : Addr} {u : Value} {o : Obj} {src : Src} {i : Nat} {Q : Unit → Shared → Prop} (I : ItO ρ src i o) (ho : s.heap.get? it = some o) (h : Q () s) : wpAny (model pw c.w) Ar (letOwnedTupleGo tg (.ref it) u) Q E s := by
  unfold letOwnedTupleGo
  cases I with
  | lst a b d =>
    cases tg <;> first
    | exact wpAny_pure h
    | (cases u <;> first
        | exact wpAny_pure h
        | (refine wpAny_bind (wpAny_load ho ?_); rw [b, d]; exact wpAny_pure h))
  | tup a b d =>
    cases tg <;> first
    | exact wpAny_pure h
    | (cases u <;> first
        | exact wpAny_pure h
        | (refine wpAny_bind (wpAny_load ho ?_); rw [b, d]; exact wpAny_pure h))
  | rng =>
    cases tg <;> first
    | exact wpAny_pure h
    | (cases u <;> first
        | exact wpAny_pure h
        | (refine wpAny_bind (wpAny_load ho ?_); exact wpAny_pure h))
/-- what a loop's end is asked -/
noncomputable def PstR (c : FC) (ρ : List Addr) (s : Shared) (R : Result → Shared → Prop) : Out (Fl × Loc) → Prop
  | .ok p hs' => ∀ m' l h' tk f, Dyn c m' p.2 (ρ ++ l) hs' h' → FlR (ρ ++ l) p.1 f → R (.ok f) { s with heap := h', toks := tk }
  | .exc _ _ => True
theorem PstR.later {R : Result → Shared → Prop} {r : Out (Fl × Loc)} (P : PstR c ρ s R r) (l : List Addr) (h : Heap) (t : Nat) : PstR c (ρ ++ l) { s with heap := h, toks := t } R r := by
  cases r with
  | ok v hs' => intro m' l' h' tk b D R; rw [List.append_assoc] at D R; exact P m' (l ++ l') h' tk b D R
  | exc msg hs' => trivial
theorem FlR.here {fl : Fl} {f : Flow} (x : FlR ρ fl f) : FlR (ρ ++ []) fl f := by rwa [List.append_nil]
theorem PstR.ok {R : Result → Shared → Prop} {p : Fl × Loc} {hs' : HS} (P : PstR c ρ s R (.ok p hs')) {m' : Str → Option Value} {h' : Heap} {f : Flow} (D : Dyn c m' p.2 ρ hs' h') (x : FlR ρ p.1 f) (tk : Nat) : R (.ok f) { s with heap := h', toks := tk } := P m' [] h' tk f D.here x.here
end
theorem run_succ (n : Nat) : run (n + 1) = stepEv (run n) := rfl
theorem fl_sound {n : Nat} (IH : ∀ j, j ≤ n → SndSs (run j) j) {c : FC} (O : c.Ok) (M : FM c) {tg : Expr} {body : List Stmt} {src : Src} {out : Out (Fl × Loc)} {Ar : Around} {it : Addr} {R : Result → Shared → Prop} {i : Nat} {m : Str → Option Value} {loc : Loc} {ρ : List Addr} {hs : HS} {s : Shared} {o : Obj}
    (A : ArOk c ρ Ar n) (e : (run n).fl c.cc loc tg body src i hs = some out) (D : Dyn (c.wo (it, o)) m loc ρ hs s.heap) (I : ItO ρ src i o) (P : PstR c ρ s R out) :
    codeAny (model pw c.w) Ar (.forLoop tg (.ref it) body [] c.env) R s := by
  refine codeAny_forLoop_any (fun j s' => j ≤ n ∧ ∃ m loc ρ hs i o, (run j).fl c.cc loc tg body src i hs = some out ∧ Dyn (c.wo (it, o)) m loc ρ hs s'.heap ∧ ItO ρ src i o ∧ ArOk c ρ Ar n ∧ PstR c ρ s' R out) ?_ n
    ⟨Nat.le_refl _, m, loc, ρ, hs, i, o, e, D, I, A, P⟩
  clear e D I A P
  rintro j s ⟨hj, m, loc, ρ, hs, i, o, e, ⟨own, fo, D⟩, I, A, P⟩
  cases j with
  | zero => cases e
  | succ j =>
    rw [run_succ] at e
    have e : stepFl (run j) c.cc loc tg body src i hs = some out := e
    have hne : c.env.locals ≠ it := by
      rw [M.loc]; exact Ne.symm D.itMem.2.1
    unfold stepFl at e
    cases q : srcAt src i hs.H with
    | none => rw [q] at e; cases e
    | some w =>
      rw [q] at e
      cases w with
      | none =>
        dsimp only at e
        cases q2 : handFree src c.cc.hand hs.H with
        | false => rw [q2] at e; cases e
        | true =>
          rw [q2] at e; cases e
          exact next_end O D hne A.hd I q q2 fun h' D' => wpAny_execs_nil (P.ok (p := (Fl.next, loc)) D'.toks .next s.toks)
      | some v =>
        dsimp only at e
        cases q2 : bindT c.cc loc hs.H tg v with
        | none => rw [q2] at e; cases e
        | some loc1 =>
          rw [q2] at e
          dsimp only at e
          refine next_item O D hne I q fun u h1 o1 tk1 D1 I1 x1 => ?_
          refine goOwned (s := { s with heap := h1, toks := tk1 }) I1 D1.itMem.1 ?_
          refine bind_sound (c := c.wo (it, o1)) (s := { s with heap := h1, toks := tk1 }) (O.wo _) (M.wo _) A.hd D1.toks q2 x1 fun m2 h2 tk2 D2 => ?_
          cases q3 : (run j).ss c.cc loc1 body hs with
          | none => rw [q3] at e; cases e
          | some r3 =>
            rw [q3] at e
            have hjn : j ≤ n := Nat.le_of_succ_le hj
            have T := IH j hjn (c := c.wo (it, o1)) (s := { s with heap := h2, toks := tk2 }) (O.wo _) (M.wo _) ((A.le hjn).wo _) q3 D2
            cases r3 with
            | exc msg hs3 => cases e
            | ok p hs3 =>
              obtain ⟨fl, loc3⟩ := p
              refine T _ _ fun m3 l3 h3 tk3 f3 D3 x3 => ?_
              cases x3 with
              | next => exact ⟨j, Nat.lt_succ_self j, hjn, m3, loc3, ρ ++ l3, hs3, i + 1, o1, e, D3, I1.ext _, A.ext _, P.later l3 h3 tk3⟩
              | ret xv =>
                cases e
                obtain ⟨own3, fo3, D3⟩ := D3
                have hne3 : c.env.locals ≠ it := hne
                have hk : Heap.ExtBut it h3 h3 := fun b ob _ e => e
                exact P _ l3 h3 tk3 _ ⟨own3, fo3, D3.itGo hk hne3⟩ (.ret xv)
theorem wl_sound {n : Nat} (IH : ∀ j, j ≤ n → SndSs (run j) j) (IT : ∀ j, j ≤ n → Snd (run j) j) {c : FC} (O : c.Ok) (M : FM c) {test : Expr} {body : List Stmt} {out : Out (Fl × Loc)} {Ar : Around} {R : Result → Shared → Prop} {m : Str → Option Value} {loc : Loc} {ρ : List Addr} {hs : HS} {s : Shared}
    (A : ArOk c ρ Ar n) (e : (run n).wl c.cc loc test body hs = some out) (D : Dyn c m loc ρ hs s.heap) (P : PstR c ρ s R out) :
    codeAny (model pw c.w) Ar (.whileLoop test body [] c.env) R s := by
  refine codeAny_whileLoop (fun j s' => j ≤ n ∧ ∃ m loc ρ hs, (run j).wl c.cc loc test body hs = some out ∧ Dyn c m loc ρ hs s'.heap ∧ ArOk c ρ Ar n ∧ PstR c ρ s' R out) ?_ n
    ⟨Nat.le_refl _, m, loc, ρ, hs, e, D, A, P⟩
  clear e D A P
  rintro j s ⟨hj, m, loc, ρ, hs, e, D, A, P⟩
  cases j with
  | zero => cases e
  | succ j =>
    rw [run_succ] at e
    have e : stepWl (run j) c.cc loc test body hs = some out := e
    have hjn : j ≤ n := Nat.le_of_succ_le hj
    unfold stepWl at e
    cases q : (run j).t c.cc loc test hs with
    | none => rw [q] at e; cases e
    | some r1 =>
      rw [q] at e
      cases r1 with
      | exc msg hs1 => cases e
      | ok b hs1 =>
        refine (IT j hjn).t O (A.le hjn) q D _ _ fun l h1 tk1 b1 D1 x1 => ?_
        cases x1
        cases b with
        | false =>
          cases e
          rw [if_neg (by decide)]
          exact wpAny_execs_nil (P _ l h1 tk1 _ D1 .next)
        | true =>
          rw [if_pos rfl]
          dsimp only at e
          cases q3 : (run j).ss c.cc loc body hs1 with
          | none => rw [q3] at e; cases e
          | some r3 =>
            rw [q3] at e
            have T := IH j hjn (s := { s with heap := h1, toks := tk1 }) O M ((A.ext l).le hjn) q3 D1
            cases r3 with
            | exc msg hs3 => cases e
            | ok p hs3 =>
              obtain ⟨fl, loc3⟩ := p
              refine T _ _ fun m3 l3 h3 tk3 f3 D3 x3 => ?_
              cases x3 with
              | next => exact ⟨j, Nat.lt_succ_self j, hjn, m3, loc3, _, hs3, e, D3, (A.ext l).ext l3, (P.later l h1 tk1).later l3 h3 tk3⟩
              | ret xv => cases e; exact (P.later l h1 tk1) _ l3 h3 tk3 _ D3 (.ret xv)
end Mine
end
section
open PySem PySem.W PyProof.Rows
set_option Elab.async false
set_option genInjectivity false
set_option genSizeOf false
set_option genSizeOfSpec false
namespace Mine
set_option maxRecDepth 100000
/-! comprehensions -/
theorem klook_lookup {x : Str} : ∀ {l : List (Str × NameKind)}, klook x l = l.lookup x
  | [] => rfl
  | (y, k) :: r => by
    have e : klook x ((y, k) :: r) = (match sq y x with | true => some k | false => klook x r) := rfl
    rw [e, List.lookup_cons, sq_beq]
    cases q : (y == x) with
    | true => rw [beq_iff_eq.mp q]; simp
    | false =>
      have hne : y ≠ x := fun z => by rw [z] at q; simp at q
      have : (x == y) = false := by rw [beq_eq_false_iff_ne]; exact Ne.symm hne
      rw [this]; exact klook_lookup
theorem isLocK_eq {k : Option NameKind} (h : isLocK k = true) : k = some .local := by
  unfold isLocK at h
  split at h
  · rfl
  · cases h
theorem isFnK_eq {k : ScopeKind} (h : isFnK k = true) : k = .function := by
  unfold isFnK at h
  split at h
  · rfl
  · cases h
theorem nmOk_cons (cc : CC) (all r : List (Str × NameKind)) (y : Str) (k : NameKind) : nmOk cc all ((y, k) :: r) = (match k with
    | .local => isLocK (klook y all) && nmOk cc all r
    | .free => match cget y cc.cells with
      | some _ => nmOk cc all r
      | none => false
    | .cell => false
    | _ => nmOk cc all r) := rfl
theorem compCells_cons (cs : List (Str × Nat)) (r : List (Str × NameKind)) (y : Str) (k : NameKind) : compCells cs ((y, k) :: r) = (match k with
    | .free => match cget y cs with
      | some i => (y, i) :: compCells cs r
      | none => compCells cs r
    | _ => compCells cs r) := rfl
theorem nmOk_of {cc : CC} {all : List (Str × NameKind)} : ∀ {l : List (Str × NameKind)}, nmOk cc all l = true →
    (∀ p ∈ l, p.2 ≠ .cell) ∧ (∀ p ∈ l, p.2 = .local → klook p.1 all = some .local) ∧ (∀ p ∈ l, p.2 = .free → ∃ i, cget p.1 cc.cells = some i)
  | [], _ => ⟨fun _ hp => (nomatch hp), fun _ hp => (nomatch hp), fun _ hp => (nomatch hp)⟩
  | (y, k) :: r, h => by
    have e := (nmOk_cons cc all r y k).symm.trans h
    have step : nmOk cc all r = true → k ≠ .cell → (k = .local → klook y all = some .local) → (k = .free → ∃ i, cget y cc.cells = some i) →
        (∀ p ∈ (y, k) :: r, p.2 ≠ .cell) ∧ (∀ p ∈ (y, k) :: r, p.2 = .local → klook p.1 all = some .local) ∧ (∀ p ∈ (y, k) :: r, p.2 = .free → ∃ i, cget p.1 cc.cells = some i) := by
      intro h1 h2 h3 h4
      obtain ⟨a, b, d⟩ := nmOk_of h1
      refine ⟨fun p hp => ?_, fun p hp => ?_, fun p hp => ?_⟩ <;> rcases List.mem_cons.mp hp with rfl | hp
      · exact h2
      · exact a p hp
      · exact h3
      · exact b p hp
      · exact h4
      · exact d p hp
    cases k with
    | «local» =>
      obtain ⟨e1, e2⟩ := Bool.and_eq_true_iff.mp e
      exact step e2 (by decide) (fun _ => isLocK_eq e1) (fun z => by cases z)
    | free =>
      dsimp only at e
      split at e
      · exact step e (by decide) (fun z => by cases z) (fun _ => ⟨_, ‹_›⟩)
      · cases e
    | cell => cases e
    | globalImplicit => exact step e (by decide) (fun z => by cases z) (fun z => by cases z)
    | globalExplicit => exact step e (by decide) (fun z => by cases z) (fun z => by cases z)
theorem compCells_of {cs : List (Str × Nat)} {x : Str} {i : Nat} : ∀ {l : List (Str × NameKind)}, cget x (compCells cs l) = some i → cget x cs = some i ∧ (x, NameKind.free) ∈ l
  | [], h => by cases h
  | (y, k) :: r, h => by
    have skip : cget x (compCells cs r) = some i → cget x cs = some i ∧ (x, NameKind.free) ∈ (y, k) :: r := fun h => let ⟨a, b⟩ := compCells_of h; ⟨a, .tail _ b⟩
    have e := h
    rw [compCells_cons] at e
    cases k with
    | free =>
      dsimp only at e
      split at e
      · rename_i j hj
        have e' : (match sq y x with | true => some j | false => cget x (compCells cs r)) = some i := e
        cases q : sq y x with
        | true =>
          rw [q] at e'; cases e'
          have := sq_iff.mp q
          subst this
          exact ⟨hj, .head _⟩
        | false => rw [q] at e'; exact skip e'
      · exact skip e
    | _ => exact skip e
/-- the closure that a block takes -/
noncomputable def clG (env : Env) : List (Str × NameKind) → List (Str × Addr) → List (Str × Addr)
  | [], acc => acc
  | (y, k) :: r, acc => match k with
    | .free => clG env r ((y, (env.cells.lookup y).getD 0) :: acc)
    | _ => clG env r acc
theorem clG_keep {env : Env} {y : Str} {a : Addr} (ha : env.cells.lookup y = some a) : ∀ {l : List (Str × NameKind)} {acc : List (Str × Addr)}, acc.lookup y = some a → (clG env l acc).lookup y = some a
  | [], _, h => h
  | (z, k) :: r, acc, h => by
    have skip : (clG env r acc).lookup y = some a := clG_keep ha h
    cases k with
    | free =>
      refine clG_keep (l := r) (acc := (z, (env.cells.lookup z).getD 0) :: acc) ha ?_
      rw [List.lookup_cons]
      cases q : (y == z) with
      | true => rw [← beq_iff_eq.mp q, ha]; rfl
      | false => exact h
    | _ => exact skip
theorem clG_get {env : Env} {y : Str} {a : Addr} (ha : env.cells.lookup y = some a) : ∀ {l : List (Str × NameKind)} {acc : List (Str × Addr)}, (y, NameKind.free) ∈ l → (clG env l acc).lookup y = some a
  | (z, k) :: r, acc, hm => by
    rcases List.mem_cons.mp hm with e | h
    · cases e
      refine clG_keep (l := r) (acc := (y, (env.cells.lookup y).getD 0) :: acc) ha ?_
      rw [List.lookup_cons, ha]
      simp
    · cases k with
      | free => exact clG_get (l := r) ha h
      | _ => exact clG_get (l := r) ha h
theorem closure_forIn {env : Env} : ∀ {l : List (Str × NameKind)} {acc : List (Str × Addr)}, (∀ p ∈ l, p.2 = .free → ∃ a, env.cells.lookup p.1 = some a) →
    (forIn l acc (fun x (cs : List (Str × Addr)) => do
      let mut cs := cs
      if x.2 == NameKind.free then cs := (x.1, ← cellOf env x.1) :: cs
      pure (ForInStep.yield cs)) : Sem (List (Str × Addr))) = pure (clG env l acc)
  | [], _, _ => rfl
  | (y, k) :: r, acc, h => by
    have ih := fun acc => closure_forIn (l := r) (acc := acc) fun p hp => h p (.tail _ hp)
    rw [List.forIn_cons]
    cases k with
    | free =>
      obtain ⟨a, ha⟩ := h _ (.head _) rfl
      have e : cellOf env y = pure a := by unfold cellOf; rw [ha]
      have e2 : clG env ((y, .free) :: r) acc = clG env r ((y, a) :: acc) := by show clG env r ((y, (env.cells.lookup y).getD 0) :: acc) = _; rw [ha]; rfl
      rw [e2, ← ih]
      dsimp only
      rw [e]
      rfl
    | _ => exact ih acc
theorem closureFor_eq {scope : Scope} {env : Env} (h : ∀ p ∈ scope.names, p.2 = .free → ∃ a, env.cells.lookup p.1 = some a) : closureFor scope env = pure (clG env scope.names []) := by
  have := closure_forIn (acc := []) h
  unfold closureFor
  refine Eq.trans ?_ (congrArg (fun x => x >>= pure) this)
  rfl
theorem relabel_look {scope : Scope} {env : Env} (hk : env.scope.kind = .function) (y : Str) : (relabel scope env).names.lookup y = (match scope.names.lookup y with
    | some .free => (match env.kindOf y with | some .cell => some .cell | _ => some .free)
    | k => k) := by
  unfold relabel
  dsimp only
  induction scope.names with
  | nil => rfl
  | cons p r ih =>
    obtain ⟨z, k⟩ := p
    rw [List.map_cons, List.lookup_cons (b := k)]
    dsimp only
    rw [hk]
    cases q : (y == z) with
    | true =>
      have := beq_iff_eq.mp q
      subst this
      by_cases hc : (k == NameKind.free && (ScopeKind.function == ScopeKind.function) && env.kindOf y == some .cell) = true
      · rw [if_pos hc]
        simp only [Bool.and_eq_true, beq_iff_eq] at hc
        obtain ⟨⟨rfl, _⟩, hc⟩ := hc
        simp [hc]
      · rw [if_neg hc]
        simp only [Bool.and_eq_true, beq_iff_eq, not_and] at hc
        simp only [List.lookup_cons, beq_self_eq_true]
        cases k with
        | free =>
          have := hc ⟨rfl, trivial⟩
          dsimp only
          split
          · rename_i h; exact absurd h this
          · rfl
        | _ => rfl
    | false =>
      rw [hk] at ih
      dsimp only
      split <;> (rw [List.lookup_cons, q]; exact ih)
theorem compCC_kind {cc : CC} {scope : Scope} {env : Env} (hk : env.scope.kind = .function) (h : ∀ x, env.kindOf x = cc.kind x) (y : Str) : (relabel scope env).names.lookup y = (compCC cc scope.names).kind y := by
  rw [relabel_look hk]
  unfold compCC
  dsimp only
  rw [← klook_lookup, h]
  all_goals
    cases klook y scope.names with
    | none => rfl
    | some k => cases k <;> rfl
section
variable {c : FC} {m : Str → Option Value} {loc loc' : Loc} {ρ : List Addr} {hs : HS} {h h' : Heap} {own fo : List (Addr × Obj)} {it : Addr} {o o' : Obj} {env' : Env} {cc' : CC}
theorem DynI.recast (D : DynI c m loc ρ hs h own fo) (hl : LocOk { c with env := env', cc := cc' } m loc' ρ) (hc : CellsOk { c with env := env', cc := cc' } ρ) : DynI { c with env := env', cc := cc' } m loc' ρ hs h own fo := ⟨D.F, D.N, D.nd, D.led, D.fo, D.n, hl, hc⟩
theorem DynI.locNe (D : DynI (c.wo (it, o)) m loc' ρ hs h own fo) (K : LocOk c m loc ρ) : c.env.locals ≠ it := by
  rcases K with ⟨a, _⟩ | ⟨o', mC, a, _, _⟩
  · rw [a]; exact Ne.symm D.itMem.2.1
  · exact D.itNe (c.env.locals, o') (List.mem_append_right _ (List.mem_append_left _ a))
end
theorem srcAt_lst {v : AV} {H : AHeap} {xs : List AV} (q : lstGet v H = some xs) (i : Nat) : srcAt (.lst v) i H = some xs[i]? := by
  unfold srcAt
  dsimp only
  rw [q]
section
variable {c : FC} {m : Str → Option Value} {loc : Loc} {ρ : List Addr} {hs : HS} {h h' : Heap} {own fo : List (Addr × Obj)} {it C : Addr} {oI oC oC' : Obj}
theorem DynI.set2 (D : DynI ((c.wo (C, oC)).wo (it, oI)) m loc ρ hs h own fo) (hs' : Heap.SameBut C h h') (e : h'.get? C = some oC') (K : LocOk c m loc ρ) : DynI ((c.wo (C, oC')).wo (it, oI)) m loc ρ hs h' own fo := by
  have N0 : News c.G c.L h ((own ++ [(it, oI)]) ++ (C, oC) :: (c.other ++ fo)) := by
    have := D.N
    show News c.G c.L h _
    rw [List.append_assoc]; exact this
  have nd0 : (((own ++ [(it, oI)]) ++ (C, oC) :: (c.other ++ fo)).map (·.1)).Nodup := by
    have := D.nd
    rw [List.append_assoc]; exact this
  have hm := N0 (C, oC) (List.mem_append_right _ (.head _))
  obtain ⟨p1, p2, q1, q2, q3, q4⟩ := (upd_split (o' := oC') nd0).split
  have N1 : News c.G c.L h' ((own ++ [(it, oI)]) ++ (C, oC') :: (c.other ++ fo)) := by
    rw [q2]
    exact news_set (by rw [← q1]; exact N0) q3 q4 hs' e
  have nd1 := nodup_upd (o' := oC') nd0
  rw [List.append_assoc] at N1 nd1
  exact ⟨D.F.change hs' hm.2.1 hm.2.2, N1, nd1, D.led, D.fo, D.n, (K.wo _).wo _, D.cells⟩
end
noncomputable def PstC (c : FC) (m : Str → Option Value) (loc : Loc) (ρ : List Addr) (C D : Addr) (acc : Nat) (s : Shared) (R : Result → Shared → Prop) (hs' : HS) : Prop :=
  ∀ l h' tk oC mC, Dyn (c.wo (C, oC)) m loc (ρ ++ l) hs' h' → NsO oC mC → LocOk c m loc (ρ ++ l) → (ρ ++ l)[acc]? = some D → R (.ok .next) { s with heap := h', toks := tk }
theorem PstC.later {c : FC} {m : Str → Option Value} {loc : Loc} {ρ : List Addr} {C D : Addr} {acc : Nat} {s : Shared} {R : Result → Shared → Prop} {hs' : HS} (P : PstC c m loc ρ C D acc s R hs') (l : List Addr) (h : Heap) (t : Nat) : PstC c m loc (ρ ++ l) C D acc { s with heap := h, toks := t } R hs' := by
  intro l' h' tk oC mC D N K e; rw [List.append_assoc] at D K e; exact P (l ++ l') h' tk oC mC D N K e
/-- the block's frame -/
noncomputable abbrev FC.blk (c : FC) (scope : Scope) (cl : List (Str × Addr)) (C : Addr) (oC : Obj) : FC := { c.wo (C, oC) with env := compEnvC scope cl C c.env, cc := compCC c.cc scope.names }
structure ClT where
  n : Nat
  c : FC
  m : Str → Option Value
  loc : Loc
  x : Str
  ifs : List Expr
  elt : Expr
  scope : Scope
  cl : List (Str × Addr)
  C : Addr
  D : Addr
  it : Addr
  v : AV
  acc : Nat
  hsE : HS
  Ar : Around
  R : Result → Shared → Prop
noncomputable def ClI (T : ClT) (j : Nat) (s : Shared) : Prop := j ≤ T.n ∧ ∃ i loc1 ρ hs oI oC mC own fo, ArOk T.c ρ T.Ar T.n ∧ (run j).cl (compCC T.c.cc T.scope.names) loc1 T.x T.ifs T.elt T.v i T.acc hs = some (.ok () T.hsE) ∧ DynI ((T.c.wo (T.C, oC)).wo (T.it, oI)) T.m T.loc ρ hs s.heap own fo ∧ LocOk T.c T.m T.loc ρ ∧
    CellsOk (T.c.blk T.scope T.cl T.C oC) ρ ∧ NsO oC mC ∧ LR ρ loc1 mC ∧ ItO ρ (.lst T.v) i oI ∧ ρ[T.acc]? = some T.D ∧ PstC T.c T.m T.loc ρ T.C T.D T.acc s T.R T.hsE
theorem cl_sound (T : ClT) (IE : ∀ j, j ≤ T.n → Snd (run j) j) (O : T.c.Ok) {px : Pos} {iter : Expr} {pos : Pos} (hkind : T.scope.kind = .function) (hx : T.scope.names.lookup T.x = some .local) {s : Shared} (H : ClI T T.n s) :
    codeAny (model pw T.c.w) T.Ar (.compLoop (.ListComp T.elt [⟨.Name T.x px, iter, T.ifs, 0⟩] T.scope pos) 0 (.ref T.it) (.ref T.D) (compEnvC T.scope T.cl T.C T.c.env)) T.R s := by
  refine codeAny_compLoop_tests (ClI T) ?_ T.n H
  clear H
  obtain ⟨n, c, m, loc, x, ifs, elt, scope, cl, C, D, it, v, acc, hsE, Ar, R⟩ := T
  dsimp only at IE O hkind hx ⊢
  rintro j s ⟨hj, i, loc1, ρ, hs, oI, oC, mC, own, fo, A, e, Dy, K, KC, NC, LC, I, ha, P⟩
  dsimp only at hj A e Dy K KC NC LC I ha P
  cases j with
  | zero => cases e
  | succ j =>
    rw [run_succ] at e
    have e : stepCl (run j) (compCC c.cc scope.names) loc1 x ifs elt v i acc hs = some (.ok () hsE) := e
    have hjn : j ≤ n := Nat.le_of_succ_le hj
    have OB : ∀ oC, (c.blk scope cl C oC).Ok := fun oC => ⟨O.top, O.fL, O.fK, O.out, hkind, O.eG, O.eB, fun y => compCC_kind O.eK O.kind y⟩
    have LB : ∀ {oC mC ρ loc1}, NsO oC mC → LR ρ loc1 mC → LocOk (c.blk scope cl C oC) m loc1 ρ := fun {oC mC _ _} a b => .inr ⟨oC, mC, .head _, a, b⟩
    have hCI : C ≠ it := Dy.itNe (C, oC) (List.mem_append_right _ (List.mem_append_left _ (.head _)))
    have DB : DynI ((c.blk scope cl C oC).wo (it, oI)) m loc1 ρ hs s.heap own fo := Dy.recast (env' := compEnvC scope cl C c.env) (cc' := compCC c.cc scope.names) ((LB NC LC).wo _) KC
    have A' : ArOk (c.blk scope cl C oC) ρ Ar j := ⟨A.fr, (A.le hjn).dp, (A.le hjn).un, A.hd⟩
    unfold stepCl at e
    cases q : lstGet v hs.H with
    | none => rw [q] at e; cases e
    | some xs =>
      rw [q] at e
      dsimp only at e
      cases q2 : xs[i]? with
      | none =>
        rw [q2] at e
        dsimp only at e
        have qh : (compCC c.cc scope.names).hand = c.cc.hand := rfl
        cases q3 : c.cc.hand with
        | some k => rw [qh, q3] at e; cases e
        | none =>
          rw [qh, q3] at e; cases e
          refine next_end (c := c.blk scope cl C oC) (OB oC) DB hCI A'.hd I ((srcAt_lst q i).trans (congrArg some q2)) (by unfold handFree; rw [show (c.blk scope cl C oC).cc.hand = none from q3]) fun h' D' => ?_
          exact P [] h' s.toks oC mC (Dyn.here ⟨own, fo, D'.recast (env' := c.env) (cc' := c.cc) (K.wo _) Dy.cells⟩) NC (by rwa [List.append_nil]) (by rwa [List.append_nil])
      | some w =>
        rw [q2] at e
        dsimp only at e
        refine next_item (c := c.blk scope cl C oC) (OB oC) DB hCI I ((srcAt_lst q i).trans (congrArg some q2)) fun u h1 oI1 tk1 D1 I1 x1 => ?_
        -- the block's own name
        have m1 := D1.N (C, oC) (List.mem_append_right _ (.tail _ (.head _)))
        refine wpAny_assign_Name (wpAny_storeName_local (lookup_relabel_local hx) (NC.ns m1.1) (fun h2 hn2 hs2 => ?_) (by simp [compEnvC, relabel, hkind]))
        obtain ⟨oC2, g1, NC2⟩ := nsO_of hn2
        have D2 : DynI ((c.wo (C, oC2)).wo (it, oI1)) m loc ρ hs h2 own fo := (D1.recast (env' := c.env) (cc' := c.cc) (loc' := loc) ((K.wo _).wo _) Dy.cells).set2 hs2 g1 K
        have LC2 : LR ρ (fput x w loc1) (fun y => if y = x then some u else mC y) := LC.put x1
        have DB2 : Dyn ((c.blk scope cl C oC2).wo (it, oI1)) m (fput x w loc1) ρ hs h2 := ⟨own, fo, D2.recast (env' := compEnvC scope cl C c.env) (cc' := compCC c.cc scope.names) ((LB NC2 LC2).wo _) KC⟩
        have A2 : ArOk ((c.blk scope cl C oC2).wo (it, oI1)) ρ Ar j := ⟨A.fr, (A.le hjn).dp, (A.le hjn).un, A.hd⟩
        have OB2 : ((c.blk scope cl C oC2).wo (it, oI1)).Ok := (OB oC2).wo _
        -- a turn's end
        have fin : ∀ {l hs5 h5 tk5}, (run j).cl (compCC c.cc scope.names) (fput x w loc1) x ifs elt v (i + 1) acc hs5 = some (.ok () hsE) → Dyn ((c.blk scope cl C oC2).wo (it, oI1)) m (fput x w loc1) (ρ ++ l) hs5 h5 →
            ∃ k, k < j + 1 ∧ ClI ⟨n, c, m, loc, x, ifs, elt, scope, cl, C, D, it, v, acc, hsE, Ar, R⟩ k { s with heap := h5, toks := tk5 } := by
          rintro l hs5 h5 tk5 e5 ⟨own5, fo5, D5⟩
          exact ⟨j, Nat.lt_succ_self j, hjn, i + 1, fput x w loc1, ρ ++ l, hs5, oI1, oC2, _, own5, fo5, A.ext l, e5, D5.recast (env' := c.env) (cc' := c.cc) (loc' := loc) (((K.ext l).wo _).wo _) (CellsOk.ext (c := c) Dy.cells l), K.ext l, CellsOk.ext (c := c.blk scope cl C oC2) KC l, NC2, LC2.ext l, I1.ext l, getx ha, P.later l h5 tk5⟩
        have el : ∀ {l hs3 h3 tk3 E'}, (match (run j).e (compCC c.cc scope.names) (fput x w loc1) elt hs3 with
                | some (.ok y hs) => match hget acc hs.H with
                  | some (.list ys) => match small ys with
                    | true => (run j).cl (compCC c.cc scope.names) (fput x w loc1) x ifs elt v (i + 1) acc (setO acc (.list (ys ++ [y])) hs)
                    | false => none
                  | _ => none
                | _ => none) = some (Out.ok () hsE) → Dyn ((c.blk scope cl C oC2).wo (it, oI1)) m (fput x w loc1) (ρ ++ l) hs3 h3 →
            wpAny (model pw c.w) Ar (eval elt (compEnvC scope cl C c.env)) (fun y s₄ => wpAny (model pw c.w) Ar (call (.builtin "list.append") [.ref D, y]) (fun _ s₅ => ∃ k, k < j + 1 ∧ ClI ⟨n, c, m, loc, x, ifs, elt, scope, cl, C, D, it, v, acc, hsE, Ar, R⟩ k s₅) E' s₄) E' { s with heap := h3, toks := tk3 } := by
          intro l hs3 h3 tk3 E' e3 D3
          cases q4 : (run j).e (compCC c.cc scope.names) (fput x w loc1) elt hs3 with
          | none => rw [q4] at e3; cases e3
          | some r4 =>
            rw [q4] at e3
            cases r4 with
            | exc msg hs4 => cases e3
            | ok y hs4 =>
              dsimp only at e3
              cases q5 : hget acc hs4.H with
              | none => rw [q5] at e3; cases e3
              | some ob =>
                rw [q5] at e3
                cases ob with
                | list ys =>
                  dsimp only at e3
                  cases q6 : small ys with
                  | false => rw [q6] at e3; cases e3
                  | true =>
                    rw [q6] at e3
                    refine (IE j hjn).e (c := (c.blk scope cl C oC2).wo (it, oI1)) (s := { s with heap := h3, toks := tk3 }) OB2 (A2.ext l) q4 D3 _ _ fun l4 h4 tk4 b4 D4 x4 => ?_
                    refine append_sound (c := (c.blk scope cl C oC2).wo (it, oI1)) (s := { s with heap := h4, toks := tk4 }) D4 q5 q6 (getx (getx ha)) x4 fun l5 h5 tk5 b5 D5 _ => ?_
                    rw [List.append_assoc, List.append_assoc] at D5
                    exact fin e3 D5
                | _ => cases e3
        unfold ifsV at e
        split at e
        · rename_i hs3 hv
          split at hv
          · cases hv
            refine wpAny_tests_nil ?_
            rw [if_pos rfl]
            exact el e DB2.here
          · refine wpAny_tests_one ?_
            refine (IE j hjn).t (c := (c.blk scope cl C oC2).wo (it, oI1)) (s := { s with heap := h2, toks := _ }) OB2 A2 hv DB2 _ _ fun l h3 tk3 b D3 x3 => ?_
            cases x3
            rw [if_pos rfl]
            exact el e D3
          · cases hv
        · rename_i hs3 hv
          split at hv
          · cases hv
          · refine wpAny_tests_one ?_
            refine (IE j hjn).t (c := (c.blk scope cl C oC2).wo (it, oI1)) (s := { s with heap := h2, toks := _ }) OB2 A2 hv DB2 _ _ fun l h3 tk3 b D3 x3 => ?_
            cases x3
            rw [if_neg (by decide)]
            exact fin e D3
          · cases hv
        · cases e
end Mine
end
section
open PySem PySem.W PyProof.Rows
set_option Elab.async false
namespace Mine
set_option maxRecDepth 100000
/-! comprehensions, whole -/
theorem not_folded {iter : Expr} {env : Env} (h : notSet iter = true) (x : Value) : foldedSetIterable iter env x = pure x := by
  cases iter <;> first | rfl | (exfalso; exact Bool.noConfusion h)
theorem compOk_of {cc : CC} {scope : Scope} {x : Str} (h : compOk cc scope x = true) : scope.kind = .function ∧ scope.names.lookup x = some .local ∧ (∀ p ∈ scope.names, p.2 ≠ .cell) ∧
    (∀ p ∈ scope.names, p.2 = .local → scope.names.lookup p.1 = some .local) ∧ (∀ p ∈ scope.names, p.2 = .free → ∃ i, cget p.1 cc.cells = some i) := by
  unfold compOk at h
  obtain ⟨h1, h⟩ := Bool.and_eq_true_iff.mp h
  obtain ⟨h2, h3⟩ := Bool.and_eq_true_iff.mp h
  obtain ⟨a, b, d⟩ := nmOk_of h3
  exact ⟨isFnK_eq h1, by rw [← klook_lookup]; exact isLocK_eq h2, a, fun p hp e => by rw [← klook_lookup]; exact b p hp e, d⟩
theorem cells_blk {c : FC} {ρ : List Addr} {scope : Scope} {C : Addr} {oC : Obj} (K : CellsOk c ρ) : CellsOk (c.blk scope (clG c.env scope.names []) C oC) ρ := by
  intro y i e
  obtain ⟨e1, e2⟩ := compCells_of e
  obtain ⟨a, h1, h2⟩ := K y i e1
  exact ⟨a, clG_get h1 e2, h2⟩
section
variable {r : Ev} {n : Nat} {c : FC} {m : Str → Option Value} {loc : Loc} {Ar : Around} {ρ : List Addr} {s : Shared} {hs : HS} {E : Value → Shared → Prop}
theorem DynI.grow {h h' : Heap} {own fo : List (Addr × Obj)} (D : DynI c m loc ρ hs h own fo) (old : ∀ b o, h.get? b = some o → h'.get? b = some o) : DynI c m loc ρ hs h' own fo := ⟨D.F.keeps old, D.N.grown old, D.nd, D.led, D.fo, D.n, D.loc, D.cells⟩
theorem DynI.side {h : Heap} {own fo : List (Addr × Obj)} {a : Addr} {o : Obj} (D : DynI c m loc ρ hs h own fo) (e : h.get? a = some o) (hL : a ≠ c.L) (hG : c.G.get? a = none) (hne : ∀ p ∈ own ++ (c.other ++ fo), p.1 ≠ a) : DynI (c.wo (a, o)) m loc ρ hs h own fo :=
  D.beside D.F (fun p hp => by
    rcases List.mem_cons.mp hp with rfl | hp
    · exact ⟨e, hL, hG⟩
    · exact D.N p hp) hne
theorem DynI.own1 {h : Heap} {own fo : List (Addr × Obj)} {a : Addr} {o : Obj} {ob : AObj} (D : DynI c m loc ρ hs h own fo) (e : h.get? a = some o) (hL : a ≠ c.L) (hG : c.G.get? a = none) (hne : ∀ p ∈ own ++ (c.other ++ fo), p.1 ≠ a) (oo : OR c.w.params (ρ ++ [a]) ob a [(a, o)]) :
    DynI c m loc (ρ ++ [a]) ⟨(hs.n, ob) :: hs.H, hs.n + 1⟩ h ((a, o) :: own) fo := by
  refine ⟨D.F, fun p hp => ?_, ?_, ?_, D.fo, by rw [List.length_append, D.n]; rfl, D.loc.ext _, D.cells.ext _⟩
  · rcases List.mem_cons.mp hp with rfl | hp
    · exact ⟨e, hL, hG⟩
    · exact D.N p hp
  · show (a :: (own ++ (c.other ++ fo)).map (·.1)).Nodup
    refine List.nodup_cons.mpr ⟨fun hm => ?_, D.nd⟩
    obtain ⟨p, hp, e⟩ := List.mem_map.mp hm
    exact hne p hp e
  · exact .cons (l := [(a, o)]) (by rw [← D.n]; simp) oo (D.led.ext _)
theorem Dyn.letGo {h h' : Heap} {C : Addr} {oC : Obj} (D : Dyn (c.wo (C, oC)) m loc ρ hs h) (hne : c.env.locals ≠ C) (hs' : Heap.SameBut C h h') : Dyn c m loc ρ hs h' := by
  obtain ⟨own, fo, D⟩ := D
  exact ⟨own, fo, D.itGo hs'.extBut hne⟩
theorem Dyn.nsAt {h : Heap} {C : Addr} {oC : Obj} {mC : Str → Option Value} (D : Dyn (c.wo (C, oC)) m loc ρ hs h) (N : NsO oC mC) : h.Ns C mC := by
  obtain ⟨own, fo, D⟩ := D
  exact N.ns D.itMem.1
/-- the block, from the source's value -/
theorem block_sound (IE : ∀ j, j ≤ n → Snd (run j) j) (O : c.Ok) {elt iter : Expr} {x : Str} {px : Pos} {ifs : List Expr} {scope : Scope} {pos : Pos} {v : AV} {u : Value} {xs : List AV} {hsE : HS} {RR : Value → Addr → Result → Shared → Prop}
    (hok : compOk c.cc scope x = true) (A : ArOk c ρ Ar n) (q : lstGet v hs.H = some xs) (e : (run n).cl (compCC c.cc scope.names) [] x ifs elt v 0 hs.n ⟨(hs.n, .list []) :: hs.H, hs.n + 1⟩ = some (.ok () hsE)) (D : Dyn c m loc ρ hs s.heap) (xv : VR ρ v u)
    (P : ∀ l h' tk D C oC mC, Dyn (c.wo (C, oC)) m loc (ρ ++ l) hsE h' → NsO oC mC → c.env.locals ≠ C → (ρ ++ l)[hs.n]? = some D → RR (.ref D) C (.ok .next) { s with heap := h', toks := tk }) :
    wpAny (model pw c.w) Ar (pyIter u) (fun it s₂ => wpAny (model pw c.w) Ar (newList []) (fun acc s₃ => wpAny (model pw c.w) Ar (newFunctionEnv scope c.env.globals (clG c.env scope.names []) [] c.env.qual none .none (some c.env)) (fun cenv s₄ =>
      codeAny (model pw c.w) Ar (.compStart (.ListComp elt [⟨.Name x px, iter, ifs, 0⟩] scope pos) 0 it acc { cenv with scope := relabel scope c.env }) (RR acc cenv.locals) s₄) E s₃) E s₂) E s := by
  obtain ⟨k1, k2, k3, k4, k5⟩ := compOk_of hok
  obtain ⟨own, fo, D⟩ := D
  obtain ⟨l, its, rfl, hv, hl⟩ := D.isList q xv
  have K := D.loc
  refine wpAny_pyIter_list hl ?_
  -- the iterator
  have I0 : ItO ρ (.lst v) 0 { cls := .type "list_iterator", data := .fields #[.ref l, .int 0 0] } := .lst xv rfl rfl
  -- the list, then the block's names
  refine wpAny_newObj_type ?_ (by size_fits)
  refine wpAny_newFunctionEnv k3 (by intro y hy; simp at hy) (fun h₁ hns₁ hsb₁ => ?_) k1
  dsimp only at hns₁ hsb₁ ⊢
  generalize hH1 : s.heap.push { cls := .type "list_iterator", data := .fields #[.ref l, .int 0 0] } = H1 at hns₁ hsb₁ ⊢
  generalize hH2 : H1.push { cls := .type "list", dict := none, data := .seq ([] : List Value).toArray } = H2 at hns₁ hsb₁ ⊢
  have z1 : H1.objs.size = s.heap.objs.size + 1 := by rw [← hH1, Heap.size_push]
  have z2 : H2.objs.size = s.heap.objs.size + 2 := by rw [← hH2, Heap.size_push, z1]
  have up : ∀ b o, b ≠ H2.objs.size → H2.get? b = some o → h₁.get? b = some o := fun b o hb e => hsb₁.extBut b o hb (Heap.get?_push_of_some _ e)
  have up2 : ∀ b o, H1.get? b = some o → H2.get? b = some o := fun b o e => hH2 ▸ Heap.get?_push_of_some _ e
  have up1 : ∀ b o, s.heap.get? b = some o → H1.get? b = some o := fun b o e => hH1 ▸ Heap.get?_push_of_some _ e
  have old : ∀ b o, s.heap.get? b = some o → h₁.get? b = some o := fun b o e => up b o (by rw [z2]; exact Nat.ne_of_lt (Nat.lt_succ_of_lt (Nat.lt_succ_of_lt (Heap.lt_size e)))) (up2 _ _ (up1 _ _ e))
  have eI : h₁.get? s.heap.objs.size = some { cls := .type "list_iterator", data := .fields #[.ref l, .int 0 0] } := up _ _ (by rw [z2]; omega) (up2 _ _ (hH1 ▸ Heap.get?_push_size _ rfl))
  have eD : h₁.get? H1.objs.size = some (listOf #[] 0) := up _ _ (by rw [z2, z1]; omega) (hH2 ▸ Heap.get?_push_size _ rfl)
  obtain ⟨oC, eC, NC⟩ := nsO_of hns₁
  have fresh : ∀ a, s.heap.objs.size ≤ a → c.G.get? a = none := fun a ha => Heap.get?_none_of_le (Nat.le_trans (Nat.le_of_lt (Nat.lt_of_le_of_lt D.F.above D.F.ns.lt)) ha)
  have hL : ∀ a, s.heap.objs.size ≤ a → a ≠ c.L := fun a ha => Nat.ne_of_gt (Nat.lt_of_lt_of_le D.F.ns.lt ha)
  have hne : ∀ a, s.heap.objs.size ≤ a → ∀ p ∈ own ++ (c.other ++ fo), p.1 ≠ a := fun a ha p hp => Nat.ne_of_lt (Nat.lt_of_lt_of_le (Heap.lt_size (D.N p hp).1) ha)
  have D0 := D.grow old
  have D1 := D0.side eC (hL _ (by rw [z2]; omega)) (fresh _ (by rw [z2]; omega)) (hne _ (by rw [z2]; omega))
  have D2 := D1.side eI (hL _ (Nat.le_refl _)) (fresh _ (Nat.le_refl _)) (fun p hp => by
    rcases List.mem_append.mp hp with hp | hp
    · exact hne _ (Nat.le_refl _) p (List.mem_append_left _ hp)
    · rcases List.mem_cons.mp hp with rfl | hp
      · show H2.objs.size ≠ _; rw [z2]; omega
      · exact hne _ (Nat.le_refl _) p (List.mem_append_right _ hp))
  have D3 := D2.own1 (ob := .list []) eD (hL _ (by rw [z1]; omega)) (fresh _ (by rw [z1]; omega)) (fun p hp => by
    rcases List.mem_append.mp hp with hp | hp
    · exact hne _ (by rw [z1]; omega) p (List.mem_append_left _ hp)
    · rcases List.mem_cons.mp hp with rfl | hp
      · show s.heap.objs.size ≠ _; rw [z1]; omega
      · rcases List.mem_cons.mp hp with rfl | hp
        · show H2.objs.size ≠ _; rw [z2, z1]; omega
        · exact hne _ (by rw [z1]; omega) p (List.mem_append_right _ hp)) (.list .nil)
  have hloc : c.env.locals ≠ H2.objs.size := D1.locNe K
  have loop : codeAny (model pw c.w) Ar (.compLoop (.ListComp elt [⟨.Name x px, iter, ifs, 0⟩] scope pos) 0 (.ref s.heap.objs.size) (.ref H1.objs.size) (compEnvC scope (clG c.env scope.names []) H2.objs.size c.env)) (RR (.ref H1.objs.size) H2.objs.size) { s with heap := h₁, toks := s.toks + ([] : List (Str × Value)).length } := by
    refine cl_sound ⟨n, c, m, loc, x, ifs, elt, scope, clG c.env scope.names [], H2.objs.size, H1.objs.size, s.heap.objs.size, v, hs.n, hsE, Ar, _⟩ IE O k1 k2 ⟨Nat.le_refl _, 0, [], ρ ++ [H1.objs.size], _, _, oC, _, _, fo, A.ext _, e, D3, K.ext _, (cells_blk D.cells).ext _, NC, fun y w z => by (cases z), I0.ext _, ?_, ?_⟩
    · show (ρ ++ [_])[hs.n]? = _
      rw [← D.n]; simp
    · intro l' h' tk oC' mC' D' NC' K' hD'
      rw [List.append_assoc] at D' hD'
      exact P ([H1.objs.size] ++ l') h' tk _ _ oC' mC' D' NC' hloc hD'
  exact codeAny_compStart_list loop (wpAny_pyIter_listiter ⟨_, eI, rfl, rfl⟩ loop)
theorem compV_of {elt iter : Expr} {x : Str} {ifs : List Expr} {scope : Scope} {out : Out AV} (e : compV r c.cc loc elt x iter ifs scope hs = some out) : compOk c.cc scope x = true ∧ notSet iter = true ∧
    obind (r.e c.cc loc iter hs) (fun v hs => match lstGet v hs.H with
    | some _ => match r.cl (compCC c.cc scope.names) [] x ifs elt v 0 hs.n ⟨(hs.n, .list []) :: hs.H, hs.n + 1⟩ with
      | some (.ok _ hs') => some (.ok (.ref hs.n) hs')
      | _ => none
    | none => none) = some out := by
  unfold compV at e
  cases q : (compOk c.cc scope x && notSet iter) with
  | false => rw [q] at e; cases e
  | true => rw [q] at e; exact ⟨(Bool.and_eq_true_iff.mp q).1, (Bool.and_eq_true_iff.mp q).2, e⟩
theorem comp_road (IE : ∀ j, j ≤ n → Snd (run j) j) (O : c.Ok) {elt iter : Expr} {x : Str} {px : Pos} {ifs : List Expr} {scope : Scope} {pos : Pos} {out : Out AV} {RR : Value → Addr → Result → Shared → Prop} (A : ArOk c ρ Ar n)
    (hok : compOk c.cc scope x = true)
    (e : obind ((run n).e c.cc loc iter hs) (fun v hs => match lstGet v hs.H with
    | some _ => match (run n).cl (compCC c.cc scope.names) [] x ifs elt v 0 hs.n ⟨(hs.n, .list []) :: hs.H, hs.n + 1⟩ with
      | some (.ok _ hs') => some (.ok (.ref hs.n) hs')
      | _ => none
    | none => none) = some out) (D : Dyn c m loc ρ hs s.heap)
    (P : ∀ v hsE, out = .ok v hsE → ∀ l h' tk D C oC mC, Dyn (c.wo (C, oC)) m loc (ρ ++ l) hsE h' → NsO oC mC → c.env.locals ≠ C → VR (ρ ++ l) v (.ref D) → RR (.ref D) C (.ok .next) { s with heap := h', toks := tk })
    (PE : ∀ msg hsE, out = .exc msg hsE → ∀ l e h' tk, Fly c m (ρ ++ l) hsE msg e h' → E (.ref e) { s with heap := h', toks := tk }) :
    wpAny (model pw c.w) Ar (eval iter c.env) (fun u s₁ => wpAny (model pw c.w) Ar (pyIter u) (fun it s₂ => wpAny (model pw c.w) Ar (newList []) (fun acc s₃ => wpAny (model pw c.w) Ar (newFunctionEnv scope c.env.globals (clG c.env scope.names []) [] c.env.qual none .none (some c.env)) (fun cenv s₄ =>
      codeAny (model pw c.w) Ar (.compStart (.ListComp elt [⟨.Name x px, iter, ifs, 0⟩] scope pos) 0 it acc { cenv with scope := relabel scope c.env }) (RR acc cenv.locals) s₄) E s₃) E s₂) E s₁) E s := by
  cases q : (run n).e c.cc loc iter hs with
  | none => rw [q] at e; cases e
  | some r₁ =>
    rw [q] at e
    have T := (IE n (Nat.le_refl n)).e (s := s) O A q D
    cases r₁ with
    | exc msg hs₁ =>
      cases e
      exact T _ _ fun l e h' tk F => PE _ _ rfl l e h' tk F
    | ok v hs₁ =>
      have e : (match lstGet v hs₁.H with
        | some _ => match (run n).cl (compCC c.cc scope.names) [] x ifs elt v 0 hs₁.n ⟨(hs₁.n, .list []) :: hs₁.H, hs₁.n + 1⟩ with
          | some (.ok _ hs') => some (.ok (.ref hs₁.n) hs')
          | _ => none
        | none => none) = some out := e
      refine T _ _ fun l h₁ tk u D₁ x₁ => ?_
      cases q2 : lstGet v hs₁.H with
      | none => rw [q2] at e; cases e
      | some xs =>
        rw [q2] at e
        dsimp only at e
        cases q3 : (run n).cl (compCC c.cc scope.names) [] x ifs elt v 0 hs₁.n ⟨(hs₁.n, .list []) :: hs₁.H, hs₁.n + 1⟩ with
        | none => rw [q3] at e; cases e
        | some r3 =>
          rw [q3] at e
          cases r3 with
          | exc msg hs3 => cases e
          | ok w hsE =>
            cases e
            cases w
            refine block_sound (s := { s with heap := h₁, toks := tk }) IE O hok (A.ext l) q2 q3 D₁ x₁ fun l2 h2 tk2 D C oC mC D2 NC hne hD => ?_
            rw [List.append_assoc] at D2 hD
            exact P _ _ rfl (l ++ l2) h2 tk2 D C oC mC D2 NC hne (.ref hD)
theorem free_cells (D : Dyn c m loc ρ hs s.heap) {scope : Scope} (h : ∀ p ∈ scope.names, p.2 = .free → ∃ i, cget p.1 c.cc.cells = some i) : ∀ p ∈ scope.names, p.2 = .free → ∃ a, c.env.cells.lookup p.1 = some a := by
  intro p hp e
  obtain ⟨i, hi⟩ := h p hp e
  obtain ⟨own, fo, D⟩ := D
  obtain ⟨a, h1, _⟩ := D.cells _ _ hi
  exact ⟨a, h1⟩
end
theorem sndLc {n : Nat} (IE : ∀ j, j ≤ n → Snd (run j) j) : SndLc (run n) n := by
  intro c m loc ρ hs s Ar elt x px iter ifs scope pos out O A e D Q E P
  obtain ⟨c1, c2, e⟩ := compV_of e
  obtain ⟨k1, k2, k3, k4, k5⟩ := compOk_of c1
  rw [eval_ListComp]
  refine wpAny_comprehension_free (use := none) rfl (not_folded c2) (closureFor_eq (free_cells D k5)) k1 k4 ?_
  refine comp_road (RR := fun acc C => compPost (model pw c.w) Ar E none Q acc C) IE O (A.le (Nat.le_succ n)) c1 e D (fun v hsE ho l h' tk D C oC mC D' NC hne x' => ?_) (fun msg hsE ho => ?_)
  · subst ho
    exact ⟨mC, D'.nsAt NC, fun h'' hs'' => P l h'' tk _ (D'.letGo hne hs'') x'⟩
  · subst ho
    exact P
theorem lc_assign {n : Nat} (IE : ∀ j, j ≤ n → Snd (run j) j) {c : FC} {m : Str → Option Value} {loc : Loc} {ρ : List Addr} {hs : HS} {s : Shared} {Ar : Around} {elt iter : Expr} {x y : Str} {px yp : Pos} {ifs : List Expr} {scope : Scope} {pos sp : Pos} {out : Out (Fl × Loc)} (O : c.Ok) (M : FM c) (A : ArOk c ρ Ar n)
    (hy : isLoc c.cc y = true) (hl : Nat.beq yp.line pos.line = true) (hn : noNm y scope.names = true) (e : obind (compV (run n) c.cc loc elt x iter ifs scope hs) (fun v hs => some (.ok (.next, fput y v loc) hs)) = some out) (D : Dyn c m loc ρ hs s.heap) :
    TrS c Ar (exec (.Assign [.Name y yp] (.ListComp elt [⟨.Name x px, iter, ifs, 0⟩] scope pos) sp) c.env) ρ s out := by
  intro Q E P
  have hk := isLoc_kind O hy
  have hsw : swapsWith (.ListComp elt [⟨.Name x px, iter, ifs, 0⟩] scope pos) (some (.Name y yp)) sp.line c.env = pure true := by
    have h1 : (c.env.blockKind == ScopeKind.function) = true := by simp [Env.blockKind, O.eK, ScopeKind.isAnnotationScope]
    have h2 : (c.env.kindOf y == some NameKind.local) = true := by rw [hk]; rfl
    have h3 : (yp.line == pos.line) = true := by rw [Nat.eq_of_beq_eq_true hl]; simp
    have h4 : (scope.names.any fun (n, k) => n == y && (k == .local || k == .cell)) = false := by
      rw [Bool.eq_false_iff]
      intro h
      obtain ⟨⟨z, k⟩, hz, h⟩ := List.any_eq_true.mp h
      obtain ⟨h5, _⟩ := Bool.and_eq_true_iff.mp h
      have h5 := beq_iff_eq.mp h5
      subst h5
      unfold noNm at hn
      rw [klook_lookup] at hn
      cases q : scope.names.lookup z with
      | some k' => rw [q] at hn; cases hn
      | none => rw [List.lookup_eq_none_iff] at q; exact absurd (q _ hz) (by simp)
    show (pure (c.env.blockKind == .function && c.env.kindOf y == some .local && yp.line == pos.line && !(scope.names.any fun (n, k) => n == y && (k == .local || k == .cell))) : Sem Bool) = _
    rw [h1, h2, h3, h4]
    rfl
  cases q : compV (run n) c.cc loc elt x iter ifs scope hs with
  | none => rw [q] at e; cases e
  | some r1 =>
    rw [q] at e
    obtain ⟨c1, c2, e1⟩ := compV_of q
    obtain ⟨k1, k2, k3, k4, k5⟩ := compOk_of c1
    rw [exec_Assign_Name_used _ _ _ _ hsw]
    refine wpAny_bind (wpAny_standAt (wpAny_bind ?_))
    show wpAny _ Ar (do let _ ← comprehension (.ListComp elt [⟨.Name x px, iter, ifs, 0⟩] scope pos) scope c.env _ (newList []) false (eval iter c.env) (some (assign (.Name y yp) c.env))) _ _ s
    refine wpAny_bind (wpAny_mono (wpAny_comprehension_free (use := some (assign (.Name y yp) c.env)) (Q := fun _ s' => Q .next s') rfl (not_folded c2) (closureFor_eq (free_cells D k5)) k1 k4 ?_) (fun _ s' hq => wpAny_pure (wpAny_pure hq)) fun _ _ e => e)
    refine comp_road (RR := fun acc C => compPost (model pw c.w) Ar E (some (assign (.Name y yp) c.env)) (fun _ s' => Q .next s') acc C) IE O A c1 e1 D (fun v hsE ho l h' tk D C oC mC D' NC hne x' => ?_) (fun msg hsE ho => ?_)
    · subst ho
      cases e
      show wpAny _ Ar (assign (.Name y yp) c.env (.ref D)) _ _ _
      refine wpAny_assign_Name (store_sound (s := { s with heap := h', toks := tk }) (O.wo _) (M.wo _) D' hy x' fun m2 h2 tk2 D2 => ?_)
      exact ⟨mC, D2.nsAt NC, fun h'' hs'' => P m2 l h'' tk2 _ (D2.letGo hne hs'') .next⟩
    · subst ho
      cases e
      exact P m
end Mine
end
section
open PySem PySem.W PyProof.Rows
set_option Elab.async false
namespace Mine
set_option maxRecDepth 100000
/-! an exception, caught -/
section
variable {c : FC} {m : Str → Option Value} {loc : Loc} {Ar : Around} {ρ : List Addr} {s : Shared} {hs : HS} {E : Value → Shared → Prop} {n : Nat}
theorem fo_of {h : Heap} : ∀ {fs : List (Addr × (Str → Option Value))}, (∀ p ∈ fs, h.Ns p.1 p.2) → ∃ fo, FoR fs fo ∧ (∀ p ∈ fo, h.get? p.1 = some p.2) ∧ fo.map (·.1) = fs.map (·.1)
  | [], _ => ⟨[], .nil, fun _ hp => (nomatch hp), rfl⟩
  | (a, m) :: fs, H => by
    obtain ⟨fo, h1, h2, h3⟩ := fo_of (fs := fs) fun p hp => H p (.tail _ hp)
    obtain ⟨o, e, N⟩ := nsO_of (H (a, m) (.head _))
    refine ⟨(a, o) :: fo, .cons N h1, fun p hp => ?_, by rw [List.map_cons, List.map_cons, h3]⟩
    rcases List.mem_cons.mp hp with rfl | hp
    · exact e
    · exact h2 p hp
theorem ns_ne_fields {h : Heap} {a e : Addr} {m : Str → Option Value} {oe : Obj} {vs : Array Value} (N : h.Ns a m) (he : h.get? e = some oe) (hd : oe.data = .fields vs) : a ≠ e := by
  rintro rfl
  obtain ⟨o, es, ep, ho, hdo, _⟩ := N
  rw [he] at ho; cases ho
  rw [hd] at hdo; cases hdo
theorem catch_dyn {B h h' : Heap} {msg : Str} {e d : Addr} {od : Obj} {own : List (Addr × Obj)} (F : FlyI c m ρ hs msg e h B own d od) (X : FlyX B (c.fenv :: c.outer) e d .none h') (U : h.UpToSlots h') (L : LocOk c m loc ρ) :
    ∃ oe fo, DynI c m loc (ρ ++ [e]) ⟨(hs.n, .exc msg) :: hs.H, hs.n + 1⟩ h' ((e, oe) :: (d, od) :: own) fo ∧ h'.get? e = some oe ∧ oe.cls = .ref 60 := by
  obtain ⟨hkb, hen, hl, oe, vs, T, oT, ts, he, hc, hdc, hd, h1, h2, hnT, hTe, hT, hdT, h3⟩ := X
  have hL : h'.Ns c.L m := U.ns F.ns
  have hfs : ∀ p ∈ c.fs, h'.Ns p.1 p.2 := fun p hp => U.ns (F.fs p hp)
  obtain ⟨fo, f1, f2, f3⟩ := fo_of hfs
  have Ge : c.G.get? e = none := by
    cases q : c.G.get? e with
    | none => rfl
    | some o => rw [F.stay _ _ q] at hen; cases hen
  have nd := F.nd
  rw [List.nodup_append] at nd
  obtain ⟨nd1, nd2, nd3⟩ := nd
  rw [List.nodup_cons] at nd1
  have above : ∀ p ∈ c.fs, c.G.get? p.1 = none → True := fun _ _ _ => trivial
  refine ⟨oe, fo, ⟨⟨hL, fun b o q => hkb _ _ (F.stay _ _ q), F.above⟩, fun p hp => ?_, ?_, ?_, f1, by rw [List.length_append, F.n]; rfl, L.ext _, F.cells.ext _⟩, he, hc⟩
  · have hp : p ∈ (e, oe) :: ((d, od) :: own) ++ (c.other ++ fo) := hp
    rcases List.mem_append.mp hp with hp | hp
    · rcases List.mem_cons.mp hp with rfl | hp
      · exact ⟨he, Ne.symm (ns_ne_fields hL he hd), Ge⟩
      · have hp' : p ∈ (d, od) :: (own ++ c.other) := by
          rcases List.mem_cons.mp hp with rfl | hp
          · exact .head _
          · exact .tail _ (List.mem_append_left _ hp)
        obtain ⟨a1, a2⟩ := F.news p hp'
        exact ⟨hkb _ _ a1, fun q => nd3 c.L (.head _) p.1 (List.mem_map.mpr ⟨p, hp', rfl⟩) q.symm, a2⟩
    · rcases List.mem_append.mp hp with hp | hp
      · have hp' : p ∈ (d, od) :: (own ++ c.other) := .tail _ (List.mem_append_right _ hp)
        obtain ⟨a1, a2⟩ := F.news p hp'
        exact ⟨hkb _ _ a1, fun q => nd3 c.L (.head _) p.1 (List.mem_map.mpr ⟨p, hp', rfl⟩) q.symm, a2⟩
      · have hm : p.1 ∈ c.fs.map (·.1) := f3 ▸ List.mem_map.mpr ⟨p, hp, rfl⟩
        obtain ⟨q, hq, e1⟩ := List.mem_map.mp hm
        refine ⟨f2 p hp, fun z => nd1.1 (z ▸ hm), ?_⟩
        rw [← e1]
        exact F.fsG q hq
  · show (e :: ((((d, od) :: own) ++ (c.other ++ fo)).map (·.1))).Nodup
    rw [List.nodup_cons]
    constructor
    · intro hm
      obtain ⟨p, hp, rfl⟩ := List.mem_map.mp hm
      rcases List.mem_append.mp hp with hp | hp
      · have hp' : p ∈ (d, od) :: (own ++ c.other) := by
          rcases List.mem_cons.mp hp with rfl | hp
          · exact .head _
          · exact .tail _ (List.mem_append_left _ hp)
        rw [(F.news p hp').1] at hen; cases hen
      · rcases List.mem_append.mp hp with hp | hp
        · rw [(F.news p (.tail _ (List.mem_append_right _ hp))).1] at hen; cases hen
        · have hm : p.1 ∈ c.fs.map (·.1) := f3 ▸ List.mem_map.mpr ⟨p, hp, rfl⟩
          obtain ⟨q, hq, e1⟩ := List.mem_map.mp hm
          exact ns_ne_fields (hfs q hq) he hd e1
    · have e1 : (((d, od) :: own) ++ (c.other ++ fo)).map (·.1) = (((d, od) :: (own ++ c.other)).map (·.1)) ++ c.fs.map (·.1) := by
        rw [← f3]; simp
      rw [e1, List.nodup_append]
      exact ⟨nd2, nd1.2, fun x hx y hy q => nd3 y (.tail _ hy) x hx q.symm⟩
  · refine .cons (l := [(e, oe), (d, od)]) (by rw [← F.n]; simp) (.exc hc hdc hd h2 F.ed) (F.led.ext _)
theorem isGl_eq {k : Option NameKind} (h : isGl k = true) : k = some .globalImplicit := by
  unfold isGl at h
  split at h
  · rfl
  · cases h
theorem ev_cf {cc : CC} {H : AHeap} (h : isGl (cc.kind "CheckFault") = true) : evName cc loc "CheckFault" H = some (.glob 60) := by
  have e1 : (sq "CheckFault" "__debug__" || sq "CheckFault" "__classdict__") = false := by kernel_rfl
  have e2 : evGlob "CheckFault" = some (.glob 60) := by kernel_rfl
  unfold evName
  rw [e1, isGl_eq h]
  exact e2
/-- the clause's test, up to the suite -/
theorem caught_road (O : c.Ok) (M : FM c) (A : ArOk c ρ Ar n) {msg : Str} {e : Addr} {np pos : Pos} {nm : Option Str} {b₀ : Stmt} {hb : List Stmt} {Q : Flow → Shared → Prop} (F : Fly c m ρ hs msg e s.heap) (hg : isGl (c.cc.kind "CheckFault") = true) (L : LR ρ loc m)
    (K : ∀ h' tk, (∀ Q' E', (∀ h'', Dyn c m loc (ρ ++ [e]) ⟨(hs.n, .exc msg) :: hs.H, hs.n + 1⟩ h'' → Q' () { s with heap := h'', toks := tk }) → wpAny (model pw c.w) (Ar.mark (some (.ref e))) (setFlight (.ref e) none) Q' E' { s with heap := h', toks := tk }) → codeAny (model pw c.w) (Ar.mark (some (.ref e))) (.handlers (.ref e) [.ExceptHandler none nm (b₀ :: hb) pos] c.env) (fun r s₂ => match r with
          | .ok f => (match nm with
            | none => Q f s₂
            | some n => wpAny (model pw c.w) Ar (do bindName c.env n .none; unbindBehindTheSuite c.env n pos) (fun _ s₃ => Q f s₃) E s₂)
          | .error x => cameBackBy (model pw c.w) Ar c.env E x s₂) { s with heap := h', toks := tk }) :
    wpAny (model pw c.w) Ar (noteFrame (.ref e) c.env) (fun _ s₂ => wpAny (model pw c.w) Ar (setFlight (.ref e) none) (fun _ s₃ => wpAny (model pw c.w) Ar (handleBy (.ref e) c.env [.ExceptHandler (some (.Name "CheckFault" np)) nm (b₀ :: hb) pos]) Q E s₃) E s₂) E s := by
  obtain ⟨B, own, d, od, F⟩ := F
  have LL : LocOk c m loc ρ := .inl ⟨M.loc, L⟩
  have hfr : Ar.frames = some (c.env :: c.outer) := by rw [M.env]; exact A.fr
  have hf : c.env.frame = some c.L := by rw [M.env]; exact O.fL
  have hX : FlyA B (c.env :: c.outer) e d s.heap := by rw [M.env]; exact F.fly
  refine note_anyX hfr hf hX fun h1 X1 U1 => ?_
  refine landX (s := { s with heap := h1 }) X1 fun h2 X2 U2 => ?_
  rw [M.env] at X2
  obtain ⟨oe, fo, D2, he, hc⟩ := catch_dyn F X2 (U1.trans U2) LL
  refine wpAny_handleBy_cons (codeAny_handlers_test ?_) (by intro q; cases q)
  refine name_sound (s := { s with heap := h2 }) O D2.toks (ev_cf hg) fun u xu => ?_
  cases xu
  have h60 : h2.get? 60 = some _ := D2.F.keep _ _ (O.top.X _ _ (cls60 c.w.params))
  refine wpAny_excMatches_sub_self h60 he hc (by kernel_rfl) ?_
  refine K h2 s.toks fun Q' E' H => ?_
  rw [← M.env] at X2
  refine landX (s := { s with heap := h2 }) X2 fun h3 X3 U3 => ?_
  rw [M.env] at X3
  obtain ⟨oe3, fo3, D3, _, _⟩ := catch_dyn F X3 ((U1.trans U2).trans U3) LL
  exact H h3 D3.toks
theorem PstS.toR {out : Out (Fl × Loc)} {Q : Flow → Shared → Prop} (P : PstS c ρ s Q E out) (X : Value → Shared → Prop) : PstR c ρ s (fun r s' => match r with | .ok f => Q f s' | .error e => X e s') out := by
  cases out with
  | ok p hs' => exact P
  | exc _ _ => trivial
theorem seqS {α₁ β₁ : Type} {t₁ : Sem β₁} {rel₁ : List Addr → α₁ → β₁ → Prop} {out : Out (Fl × Loc)} {x : Option (Out α₁)} {k : α₁ → HS → Option (Out (Fl × Loc))} {Q : Flow → Shared → Prop} {Q₁ : β₁ → Shared → Prop}
    (h : obind x k = some out) (T : ∀ r₁, x = some r₁ → Tr c m loc Ar t₁ rel₁ ρ s r₁) (P : PstS c ρ s Q E out)
    (K : ∀ v hs₁, k v hs₁ = some out → ∀ l h₁ tk b, Dyn c m loc (ρ ++ l) hs₁ h₁ → rel₁ (ρ ++ l) v b → PstS c (ρ ++ l) { s with heap := h₁, toks := tk } Q E out → Q₁ b { s with heap := h₁, toks := tk }) :
    wpAny (model pw c.w) Ar t₁ Q₁ E s := by
  cases x with
  | none => cases h
  | some r₁ =>
    cases r₁ with
    | exc msg hs' => cases h; exact T _ rfl _ _ fun l e h' tk F => P m l e h' tk F
    | ok v hs₁ => exact T _ rfl _ _ fun l h₁ tk b D R => K v hs₁ h l h₁ tk b D R (P.later l h₁ tk)
theorem PstS.ok {p : Fl × Loc} {hs' : HS} {Q : Flow → Shared → Prop} (P : PstS c ρ s Q E (.ok p hs')) {m' : Str → Option Value} {h' : Heap} {f : Flow} (D : Dyn c m' p.2 ρ hs' h') (x : FlR ρ p.1 f) (tk : Nat) : Q f { s with heap := h', toks := tk } := P m' [] h' tk f D.here x.here
theorem noSwap {e : Expr} {t : Option Expr} {l : Nat} {env : Env} (h : isComp e = false) : swapsWith e t l env = pure false := by
  cases e <;> first | rfl | (exfalso; exact Bool.noConfusion h)
theorem fput_len {x : Str} {v : AV} : ∀ {l : Loc}, (fput x v l).length ≤ l.length + 1
  | [] => Nat.le_refl _
  | (y, u) :: r => by
    rw [fput_cons]
    cases sq y x with
    | true => exact Nat.le_succ _
    | false => exact Nat.succ_le_succ (fput_len (l := r))
/-- a field stored -/
theorem setField_sound (O : c.Ok) (D : Dyn c m loc ρ hs s.heap) {i : Nat} {p : Addr} {C : Addr} {fs : Loc} {a : Str} {v : AV} {u : Value} {Q : Unit → Shared → Prop} (q : hget i hs.H = some (.inst C fs)) (hz : Nat.ble fs.length 100 = true) (hf : fldOk C a = true) (hi : ρ[i]? = some p) (xv : VR ρ v u)
    (h : ∀ h' tk, Dyn c m loc ρ (setO i (.inst C (fput a v fs)) hs) h' → Q () { s with heap := h', toks := tk }) : wpAny (model pw c.w) Ar (setAttr (.ref p) a u) Q E s := by
  obtain ⟨own, fo, D⟩ := D
  obtain ⟨d, es, n, pre, post, hv, he, hr⟩ := D.inst q hi
  have m1 : (p, instObj C d) ∈ own ++ (c.other ++ fo) := by rw [he]; simp
  have m2 : (d, dictOf es n) ∈ own ++ (c.other ++ fo) := by rw [he]; simp
  have he' : own = (pre ++ [(p, instObj C d)]) ++ (d, dictOf es n) :: post := by rw [he]; simp
  have f := fld_of (P := c.w.params) hf
  have fr' := hv.put (x := a) (t := s.toks + 1) xv
  refine set_dict D.F O.top.X D.N (InstAt.of_news D.N m1 m2) rfl f.sa f.po f.tk f.hd hv.some_get rfl (D.updU he') ?_ fun h' F N => ?_
  · rw [fr'.length]
    have := ble_le hz
    have := fput_len (x := a) (v := v) (l := fs)
    omega
  · have led := hr _ _ (putN a es n) fr'
    have e2 : pre ++ (p, instObj C d) :: (d, dictOf (putL a (PyData.keyHash c.w.params a) (.str a (s.toks + 1)) u es) (putN a es n)) :: post = (pre ++ [(p, instObj C d)]) ++ (d, dictOf (putL a (PyData.keyHash c.w.params a) (.str a (s.toks + 1)) u es) (putN a es n)) :: post := by simp
    rw [e2] at led
    exact h h' _ (D.updD he' F N led)
end
section
variable {c : FC} {m : Str → Option Value} {loc : Loc} {Ar : Around} {ρ : List Addr} {s : Shared} {hs : HS} {E : Value → Shared → Prop} {n : Nat} {own fo : List (Addr × Obj)}
theorem fresh_facts (D : DynI c m loc ρ hs s.heap own fo) {a : Addr} (ha : s.heap.objs.size ≤ a) : a ≠ c.L ∧ c.G.get? a = none ∧ ∀ p ∈ own ++ (c.other ++ fo), p.1 ≠ a :=
  ⟨Nat.ne_of_gt (Nat.lt_of_lt_of_le D.F.ns.lt ha), Heap.get?_none_of_le (Nat.le_trans (Nat.le_of_lt (Nat.lt_of_le_of_lt D.F.above D.F.ns.lt)) ha), fun p hp => Nat.ne_of_lt (Nat.lt_of_lt_of_le (Heap.lt_size (D.N p hp).1) ha)⟩
theorem iter_sound (O : c.Ok) (D : Dyn c m loc ρ hs s.heap) {v : AV} {u : Value} {src : Src} (e : srcOf v hs.H = some src) (xv : VR ρ v u) {Q : Value → Shared → Prop}
    (h : ∀ it h' o, Dyn (c.wo (it, o)) m loc ρ hs h' → ItO ρ src 0 o → Q (.ref it) { s with heap := h' }) : wpAny (model pw c.w) Ar (pyIter u) Q E s := by
  obtain ⟨own, fo, D⟩ := D
  obtain ⟨f1, f2, f3⟩ := fresh_facts D (Nat.le_refl _)
  unfold srcOf at e
  split at e
  · rename_i xs q
    cases e
    obtain ⟨l, its, rfl, hv, hl⟩ := D.isList q xv
    refine wpAny_pyIter_list hl ?_
    exact h _ _ _ ⟨own, fo, (D.grow fun _ _ e => Heap.get?_push_of_some _ e).side (Heap.get?_push_size _ rfl) f1 f2 f3⟩ (.lst xv rfl rfl)
  · split at e
    · rename_i xs q
      cases e
      obtain ⟨l, its, rfl, hv, hl⟩ := D.isTup O q xv
      refine wpAny_pyIter_tuple hl ?_
      exact h _ _ _ ⟨own, fo, (D.grow fun _ _ e => Heap.get?_push_of_some _ e).side (Heap.get?_push_size _ rfl) f1 f2 f3⟩ (.tup xv rfl rfl)
    · cases e
theorem range_sound (D : Dyn c m loc ρ hs s.heap) {k : Nat} {t : Tok} (hk : k < 1000) {Q : Value → Shared → Prop}
    (h : ∀ it h' tk o, Dyn (c.wo (it, o)) m loc ρ hs h' → ItO ρ (.rng k) 0 o → Q (.ref it) { s with heap := h', toks := tk }) : wpAny (model pw c.w) Ar (call (.type "range") [.int (k : Int) t]) (fun r s₁ => wpAny (model pw c.w) Ar (pyIter r) Q E s₁) E s := by
  obtain ⟨own, fo, D⟩ := D
  refine call_range_1 ?_
  refine wpAny_pyIter_range (IsRange.new ..) (small_one (by decide) (by decide) (by omega) (by omega)) ?_
  obtain ⟨f1, f2, f3⟩ := fresh_facts D (a := s.heap.objs.size + 1) (Nat.le_succ _)
  have e0 : ∀ o : Obj, (s.heap.push o).objs.size = s.heap.objs.size + 1 := fun o => Heap.size_push ..
  rw [e0]
  have hr : Builtin.Range.rangeSize 0 (k : Int) 1 = ((k : Int) - (0 : Nat)) := by rw [rangeSize_nat]; simp
  rw [hr]
  refine h _ _ _ _ ⟨own, fo, (D.grow fun _ _ e => Heap.get?_push_of_some _ (Heap.get?_push_of_some _ e)).side ?_ f1 f2 f3⟩ .rng
  have := Heap.get?_push_size (s.heap.push { cls := .type "range", data := .fields #[.int 0 s.toks, .int (k : Int) t, .int 1 (s.toks + 1)] }) (o := { cls := .type "range_iterator", dict := none, data := .fields #[rawInt ((0 : Nat) : Int), rawInt ((k : Int) - ((0 : Nat) : Int)), rawInt 1], slots := #[] }) rfl
  rw [e0] at this
  exact this
theorem dic0_sound (O : c.Ok) (M : FM c) (D : Dyn c m loc ρ hs s.heap) (A : HandOk c ρ Ar) (hh : c.cc.hand = none) {v : AV} {u : Value} {tg : Expr} {body : List Stmt} {R : Result → Shared → Prop} (e : dicEmpty v hs.H = true) (xv : VR ρ v u)
    (h : ∀ h' tk, Dyn c m loc ρ hs h' → R (.ok .next) { s with heap := h', toks := tk }) : wpAny (model pw c.w) Ar (pyIter u) (fun it s₂ => codeAny (model pw c.w) Ar (.forLoop tg it body [] c.env) R s₂) E s := by
  obtain ⟨own, fo, D⟩ := D
  have hA : Ar.handled = none := by unfold HandOk at A; rw [hh] at A; exact A
  unfold dicEmpty at e
  split at e
  · rename_i j
    split at e
    · rename_i q
      cases xv with
      | ref hi =>
        rename_i p
        obtain ⟨a', l, pre, post, h1, o, he, _⟩ := D.led.get q
        rw [hi] at h1; cases h1
        cases o with
        | dict hv =>
          cases hv
          rename_i n
          have hm := D.N (p, dictOf [] n) (D.mem (by rw [he]; simp))
          obtain ⟨f1, f2, f3⟩ := fresh_facts D (Nat.le_refl _)
          have hd : s.heap.DictAt (PySem.strKind pw c.w) p [] n := ⟨dictOf [] n, #[], hm.1, ⟨rfl, rfl, rfl⟩, rfl, fun e he => by simp at he, .nil, by simp⟩
          have hs : (p == sysModules) = false := by
            cases z : (p == sysModules) with
            | false => rfl
            | true => exfalso; rw [beq_iff_eq.mp z] at hm; exact O.top.sm hm.2.2
          refine wpAny_pyIter_dict hs hd ?_
          have hne : p ≠ s.heap.objs.size := Nat.ne_of_lt (Heap.lt_size hm.1)
          have W := Walks.dictKeys (prog := pw) (w := c.w) (knd := PySem.strKind pw c.w) hA s.heap.objs.size p hne [] n
          have D1 := (D.grow (h' := s.heap.push { cls := .type "dict_keyiterator", data := .fields #[.ref p, .int 0 0, .int (0 : Nat) 0, .int n 0] }) fun _ _ e => Heap.get?_push_of_some _ e).side (Heap.get?_push_size _ rfl) f1 f2 f3
          have hloc : c.env.locals ≠ s.heap.objs.size := D1.locNe D.loc
          refine codeAny_forLoop_any (fun _ s' => s' = { s with heap := s.heap.push { cls := .type "dict_keyiterator", data := .fields #[.ref p, .int 0 0, .int (0 : Nat) 0, .int n 0] } }) ?_ 0 rfl
          rintro _ s' rfl
          refine W.done _ _ _ ⟨⟨_, Heap.get?_push_size _ rfl, rfl, rfl⟩, hd.push _⟩ fun h' tk hk => ?_
          refine wpAny_execs_nil ?_
          exact h h' tk ⟨own, fo, D1.itGo (fun b o hb e => hk b o (by simpa using hb) e) hloc⟩
    · cases e
  · cases e
end
end Mine
end
section
open PySem PySem.W PyProof.Rows
set_option Elab.async false
namespace Mine
set_option maxRecDepth 100000
/-! a statement -/
section
variable {c : FC} {m : Str → Option Value} {loc : Loc} {Ar : Around} {ρ : List Addr} {s : Shared} {hs : HS} {E : Value → Shared → Prop} {n : Nat}
theorem PstR.move {R : Result → Shared → Prop} {r : Out (Fl × Loc)} (P : PstR c ρ s R r) (h : Heap) (t : Nat) : PstR c ρ { s with heap := h, toks := t } R r := by
  have := P.later [] h t; rwa [List.append_nil] at this
theorem Dyn.look (D : Dyn c m loc ρ hs s.heap) : ∃ own fo, DynI c m loc ρ hs s.heap own fo := D
theorem Dyn.LR (M : FM c) {h : Heap} (D : Dyn c m loc ρ hs h) : LR ρ loc m := by obtain ⟨own, fo, D⟩ := D; exact LR_of M D
theorem Dyn.hand {cc' : CC} {h : Heap} (D : Dyn c m loc ρ hs h) (hc : cc'.cells = c.cc.cells) : Dyn { c with cc := cc' } m loc ρ hs h := by
  obtain ⟨own, fo, D⟩ := D
  exact ⟨own, fo, D.F, D.N, D.nd, D.led, D.fo, D.n, D.loc, fun x i e => D.cells x i (by rw [← hc]; exact e)⟩
theorem mark_hand (A : ArOk c ρ Ar n) {e : Addr} {hsn : Nat} (hn : ρ.length = hsn) : ArOk { c with cc := ⟨c.cc.kind, c.cc.cells, some hsn⟩ } (ρ ++ [e]) (Ar.mark (some (.ref e))) n :=
  ⟨A.fr, A.dp, A.un, ⟨e, rfl, by rw [← hn]; simp⟩⟩
theorem Dyn.len {h : Heap} (D : Dyn c m loc ρ hs h) : ρ.length = hs.n := by obtain ⟨own, fo, D⟩ := D; exact D.n
theorem Fly.len {h : Heap} {msg : Str} {e : Addr} (F : Fly c m ρ hs msg e h) : ρ.length = hs.n := by obtain ⟨B, own, d, od, F⟩ := F; exact F.n
/-- a new exception, ahead of its first station -/
noncomputable def FlyNew (c : FC) (m : Str → Option Value) (ρ : List Addr) (hs : HS) (msg : Str) (e : Addr) (h : Heap) : Prop := ∃ B own d od, FlyI c m ρ hs msg e h B own d od ∧ FlyN B (c.fenv :: c.outer) e d h
noncomputable def RaiseSnd : Prop := ∀ {n : Nat} {c : FC} {m loc ρ hs s Ar msg t} {Q : Value → Shared → Prop} {E : Value → Shared → Prop}, c.Ok → ArOk c ρ Ar n → c.cc.hand = none → Dyn c m loc ρ hs s.heap →
  (∀ e h' tk, FlyNew c m ρ hs msg e h' → Q (.ref e) { s with heap := h', toks := tk }) → wpAny (model pw c.w) Ar (call (.ref 60) [.str msg t]) Q E s
theorem keep60 (w : World) : Keepable w (.ref 60) := fun _ h X => keeps_K (by kernel_rfl) h X
theorem raise_road (XR : RaiseSnd) (S : Snd (run n) n) (O : c.Ok) (A : ArOk c ρ Ar n) {e : Expr} {p1 p2 p3 : Pos} {out : Out (Fl × Loc)} (hg : isGl (c.cc.kind "CheckFault") = true) (hp : notStar e = true) (hh : c.cc.hand = none)
    (h : obind ((run n).e c.cc loc e hs) (fun v hs => match v with | .str msg => some (Out.exc msg hs) | _ => none) = some out) (D : Dyn c m loc ρ hs s.heap) :
    TrS c Ar (exec (.Raise (some (.Call (.Name "CheckFault" p1) [e] [] p2)) none p3) c.env) ρ s out := by
  intro Q E P
  have hA : Ar.handled = none := by have := A.hd; unfold HandOk at this; rw [hh] at this; exact this
  -- the exception goes out
  obtain ⟨msg, hs1, rfl, h'⟩ : ∃ msg hs1, out = .exc msg hs1 ∧ obind (evs (run n) c.cc loc [e] hs) (fun vs hs => match vs with | [.str msg] => some (Out.exc (α := AV) msg hs) | _ => none) = some (.exc msg hs1) := by
    have ev : evs (run n) c.cc loc [e] hs = obind ((run n).e c.cc loc e hs) fun v hs => some (.ok [v] hs) := by
      show (match notStar e with | true => obind ((run n).e c.cc loc e hs) fun v hs => obind (evs (run n) c.cc loc [] hs) fun vs hs => some (.ok (v :: vs) hs) | false => none) = _
      rw [hp]; rfl
    rw [ev]
    cases q : (run n).e c.cc loc e hs with
    | none => rw [q] at h; cases h
    | some r =>
      rw [q] at h
      cases r with
      | exc msg hs1 => cases h; exact ⟨msg, hs1, rfl, rfl⟩
      | ok v hs1 =>
        cases v with
        | str msg => cases h; exact ⟨msg, hs1, rfl, rfl⟩
        | _ => cases h
  have PE : Pst (β := Value) c m loc ρ s VR (fun _ _ => False) E (.exc msg hs1) := fun l e h' tk F => P m l e h' tk F
  rw [arm_exec_Raise]
  refine wpAny_bind (wpAny_standAt ?_)
  unfold raiseStmt
  refine wpAny_bind ?_
  refine wpAny_bind (wpAny_mono (wpAny_Call_ofName (name_sound O D (ev_cf hg) fun u xu => ?_)) (fun v s₃ h₃ => wpAny_bind (wpAny_standAt (wpAny_pure h₃))) fun _ _ x => x)
  cases xu
  refine callWith_road S O A (by simp [plainAll, hp]) (keep60 _) h' D (fun l e h' tk F => PE l e h' tk F) fun vs hs₁ h2 l h₁ tk us D₁ x₁ P₁ => ?_
  split at h2
  · cases h2
    cases x₁ with
    | cons hv hr =>
      cases hr
      cases hv
      refine XR O (A.ext l) hh D₁ fun e h2 tk2 ⟨B, own, d, od, F, N⟩ => ?_
      obtain ⟨N1, N2, N3, oe, vs, he, hc, hdc, hd, hv1, hv2⟩ := N
      have hC := N1 _ _ (F.stay _ _ (O.top.X _ _ (cls60 c.w.params)))
      have hcB : (Value.ref 60 :: bm60).contains (.type "BaseException") = true := by simp [bm60]
      have fin : E (.ref e) { s with heap := h2, toks := tk2 } := P m l e h2 tk2 ⟨B, own, d, od, F⟩
      repeat (first | (with_reducible refine wpAny_loadPart_at he ?_; rw [hc]) | with_reducible refine wpAny_loadPart_at hC ?_ | (refine wpAny_isSubtype_exc hC ?_; rw [hcB]) | with_reducible refine wpAny_field he hd hv1 ?_ | wp_step)
      exact wpAny_raiseNew_none hA fin
  · cases h2
theorem ev_range {cc : CC} {H : AHeap} (h : isGl (cc.kind "range") = true) : evName cc loc "range" H = some (.ty "range") := by
  have e1 : (sq "range" "__debug__" || sq "range" "__classdict__") = false := by kernel_rfl
  have e2 : evGlob "range" = some (.ty "range") := by kernel_rfl
  unfold evName
  rw [e1, isGl_eq h]
  exact e2
theorem stepS_sound (XR : RaiseSnd) (IE : ∀ j, j ≤ n → Snd (run j) j) (IS : ∀ j, j ≤ n → SndSs (run j) j) {st : Stmt} {out : Out (Fl × Loc)} (O : c.Ok) (M : FM c) (A : ArOk c ρ Ar n) (h : stepS (run n) c.cc loc st hs = some out) (D : Dyn c m loc ρ hs s.heap) :
    TrS c Ar (exec st c.env) ρ s out := by
  have S := IE n (Nat.le_refl n)
  intro Q E P
  revert h
  unfold stepS
  generalize SV.of st = v
  cases v <;> intro h <;> try dsimp only at h
  · -- pass
    cases h; exact wpAny_Pass (P.ok D .next s.toks)
  · cases h; exact wpAny_Return_none (P.ok D (.ret .none) s.toks)
  · -- return
    refine wpAny_Return_some ?_
    refine seqS h (fun r₁ h₁ => S.e O A h₁ D) P fun v hs₁ h l h₁ tk u D₁ x₁ P => ?_
    cases h
    exact P.ok D₁ (.ret x₁) tk
  · -- an expression
    refine wpAny_Expr_any ?_ (by unfold interactive; rw [O.eK]; rfl) rfl
    refine seqS h (fun r₁ h₁ => S.e O A h₁ D) P fun v hs₁ h l h₁ tk u D₁ x₁ P => ?_
    cases h
    exact P.ok D₁ .next tk
  · -- a name takes a block
    split at h
    · rename_i q
      obtain ⟨q1, q⟩ := Bool.and_eq_true_iff.mp q
      obtain ⟨q2, q3⟩ := Bool.and_eq_true_iff.mp q
      exact lc_assign IE O M A q1 q2 q3 h D _ _ P
    · cases h
  · -- a name
    split at h
    · cases h
    · rename_i x p e _ q
      refine wpAny_Assign_Name ?_ (noSwap q)
      refine seqS h (fun r₁ h₁ => S.e O A h₁ D) P fun v hs₁ h l h₁ tk u D₁ x₁ P => ?_
      split at h
      · rename_i qk
        cases h
        exact store_sound (s := { s with heap := h₁, toks := tk }) O M D₁ (by unfold isLoc; rw [qk]) x₁ fun m' h' tk' D' => P.later [] _ _ |>.ok (by simpa using D') .next tk'
      · rename_i qk
        split at h
        · rename_i i qc
          split at h
          · rename_i v₀ qh
            cases h
            exact storeCell_sound (s := { s with heap := h₁, toks := tk }) O D₁ qk qc qh x₁ fun h' tk' D' => P.ok D' .next tk'
          · cases h
        · cases h
      · cases h
  · -- a field
    rename_i o a p e pos
    cases qc : isComp e with
    | true => rw [qc] at h; cases h
    | false =>
      rw [qc] at h
      refine plainObj_wpAny_Assign_Attribute ?_ (noSwap qc)
      refine seqS h (fun r₁ h₁ => S.e O A h₁ D) P fun v hs₁ h l h₁ tk u D₁ x₁ P => ?_
      refine seqS h (fun r₁ h₁ => S.e O (A.ext l) h₁ D₁) P fun w hs₂ h l₂ h₂ tk₂ u₂ D₂ x₂ P => ?_
      split at h
      · split at h
        · rename_i C fs qh
          split at h
          · rename_i q
            obtain ⟨q1, q2⟩ := Bool.and_eq_true_iff.mp q
            cases h
            cases x₂ with
            | ref hi => exact setField_sound (s := { s with heap := h₂, toks := tk₂ }) O D₂ qh q1 q2 hi (x₁.ext _) fun h' tk' D' => P.ok D' .next tk'
          · cases h
        · cases h
      · cases h
  · -- if
    refine wpAny_If ?_
    refine seqS h (fun r₁ h₁ => S.t O A h₁ D) P fun v hs₁ h l h₁ tk u D₁ x₁ P => ?_
    cases x₁
    cases v with
    | true => rw [if_pos rfl]; exact IS n (Nat.le_refl n) O M (A.ext l) h D₁ _ _ P
    | false => rw [if_neg (by decide)]; exact IS n (Nat.le_refl n) O M (A.ext l) h D₁ _ _ P
  · -- raise
    split at h
    · rename_i q qh
      obtain ⟨q1, q2⟩ := Bool.and_eq_true_iff.mp q
      obtain ⟨q2, q3⟩ := Bool.and_eq_true_iff.mp q2
      have q1 := sq_iff.mp q1
      subst q1
      exact raise_road XR S O A q2 q3 qh h D _ _ P
    · cases h
  · -- while
    split at h
    · exact wpAny_While (wl_sound IS IE O M A h D (P.toR _))
    · cases h
  · -- range
    rename_i tg x px k nn pk pc body pos
    split at h
    · rename_i q1 qh
      obtain ⟨q1, q2⟩ := Bool.and_eq_true_iff.mp q1
      obtain ⟨q2, q3⟩ := Bool.and_eq_true_iff.mp q2
      have q1 := sq_iff.mp q1
      subst q1
      refine wpAny_For ?_
      refine Call_ (name_sound O D (ev_range q2) fun u xu => ?_)
      cases xu
      refine PySem.callWith_type rfl (Calls.evalArgs_plain (Calls.spliced_cons (wpAny_Constant_int (k := nn) (pos := pk) (Calls.spliced_nil ?_))))
      refine range_sound (s := { s with toks := s.toks + 1 }) D (by have := ble_le q3; omega) fun it h' tk o D' I => ?_
      exact fl_sound (s := { s with heap := h', toks := tk }) IS O M A h D' I ((P.toR _).move h' tk)
    · cases h
  · -- for
    split at h
    · rename_i q
      refine wpAny_For ?_ (not_folded q)
      refine seqS h (fun r₁ h₁ => S.e O A h₁ D) P fun v hs₁ h l h₁ tk u D₁ x₁ P => ?_
      split at h
      · rename_i q1 q2
        cases h
        exact dic0_sound (s := { s with heap := h₁, toks := tk }) O M D₁ (A.ext l).hd q2 q1 x₁ fun h' tk' D' => P.ok D' .next tk'
      · split at h
        · rename_i src q2
          refine iter_sound (s := { s with heap := h₁, toks := tk }) O D₁ q2 x₁ fun it h' o D' I => ?_
          exact fl_sound (s := { s with heap := h', toks := tk }) IS O M (A.ext l) h D' I ((P.toR _).move h' tk)
        · cases h
    · cases h
  · -- try
    rename_i e pr x px b₀ hb ph pos
    split at h
    · rename_i q qh
      obtain ⟨q1, q2⟩ := Bool.and_eq_true_iff.mp q
      have q1 := sq_iff.mp q1
      subst q1
      refine wpAny_Try_except (wpAny_execs_cons (wpAny_Return_some ?_))
      cases q3 : (run n).e c.cc loc e hs with
      | none => rw [q3] at h; cases h
      | some r1 =>
        rw [q3] at h
        have T := S.e O A q3 D
        cases r1 with
        | ok v hs1 =>
          cases h
          exact T _ _ fun l h₁ tk u D₁ x₁ => P m l h₁ tk _ D₁ (.ret x₁)
        | exc msg hs1 =>
          dsimp only at h
          refine T (fun v s' => Q (.ret v) s') _ fun l e h₁ tk F => ?_
          refine caught_road (s := { s with heap := h₁, toks := tk }) O M (A.ext l) F q2 ((D.LR M).ext l) fun h₂ tk₂ L => ?_
          refine codeAny_handlers_suite (L _ _ fun h₃ D₃ => ?_)
          split at h
          · rename_i p hs2 q4
            cases h
            obtain ⟨fl, loc2⟩ := p
            refine IS n (Nat.le_refl n) (c := { c with cc := ⟨c.cc.kind, c.cc.cells, some hs1.n⟩ }) (s := { s with heap := h₃, toks := tk₂ }) ⟨O.top, O.fL, O.fK, O.out, O.eK, O.eG, O.eB, O.kind⟩ ⟨M.env, M.loc⟩ (mark_hand (A.ext l) F.len) q4 (D₃.hand rfl) _ _ ?_
            intro m' l' h' tk' f D' x'
            have D' : Dyn c m' loc2 (ρ ++ l ++ [e] ++ l') hs2 h' := D'.hand (c := { c with cc := ⟨c.cc.kind, c.cc.cells, some hs1.n⟩ }) (cc' := c.cc) rfl
            rw [List.append_assoc, List.append_assoc] at D' x'
            exact P m' _ h' tk' f D' x'
          · cases h
    · cases h
  · -- try, the exception named
    rename_i y py e pe x px nm b₀ hb ph pos
    split at h
    · rename_i q qh q0
      obtain ⟨q1, q2⟩ := Bool.and_eq_true_iff.mp q
      obtain ⟨q5, q6⟩ := Bool.and_eq_true_iff.mp q0
      obtain ⟨q6, q7⟩ := Bool.and_eq_true_iff.mp q6
      have q7 : isComp e = false := by simpa using q7
      have q1 := sq_iff.mp q1
      subst q1
      refine wpAny_Try_except (wpAny_execs_cons (wpAny_Assign_Name ?_ (noSwap q7)))
      cases q3 : (run n).e c.cc loc e hs with
      | none => rw [q3] at h; cases h
      | some r1 =>
        rw [q3] at h
        have T := S.e O A q3 D
        cases r1 with
        | ok v hs1 =>
          cases h
          refine T _ _ fun l h₁ tk u D₁ x₁ => ?_
          exact store_sound (s := { s with heap := h₁, toks := tk }) O M D₁ q5 x₁ fun m' h' tk' D' => wpAny_execs_nil (wpAny_execs_nil (P m' l h' tk' _ D' .next))
        | exc msg hs1 =>
          dsimp only at h
          refine T _ _ fun l e h₁ tk F => ?_
          refine caught_road (s := { s with heap := h₁, toks := tk }) O M (A.ext l) F q2 ((D.LR M).ext l) fun h₂ tk₂ L => ?_
          refine codeAny_handlers_suite_as (L _ _ fun h₃ D₃ => ?_)
          have hn : (ρ ++ l ++ [e])[hs1.n]? = some e := by rw [← F.len]; simp
          refine store_sound (s := { s with heap := h₃, toks := tk₂ }) O M D₃ q6 (.ref hn) fun m₄ h₄ tk₄ D₄ => ?_
          split at h
          · rename_i v p hs2 q4
            cases h
            refine IS n (Nat.le_refl n) (c := { c with cc := ⟨c.cc.kind, c.cc.cells, some hs1.n⟩ }) (s := { s with heap := h₄, toks := tk₄ }) ⟨O.top, O.fL, O.fK, O.out, O.eK, O.eG, O.eB, O.kind⟩ ⟨M.env, M.loc⟩ (mark_hand (A.ext l) F.len) q4 (D₄.hand rfl) _ _ ?_
            intro m' l' h' tk' f D' x'
            have D' : Dyn c m' p (ρ ++ l ++ [e] ++ l') hs2 h' := D'.hand (c := { c with cc := ⟨c.cc.kind, c.cc.cells, some hs1.n⟩ }) (cc' := c.cc) rfl
            rw [List.append_assoc, List.append_assoc] at D' x'
            obtain ⟨own, fo, D'⟩ := D'
            refine wpAny_nameGoes (isLoc_kind O q6) (by rw [M.loc]; exact D'.F.ns) (by rw [O.eK]; rfl) fun h₅ m₅ hn₅ hs₅ => ?_
            rw [M.loc] at hn₅ hs₅
            exact P m₅ _ h₅ _ f ⟨own, fo, D'.F.set hn₅ hs₅, D'.N.set hs₅, D'.nd, D'.led, D'.fo, D'.n, .inl ⟨M.loc, fun y w z => by cases z⟩, D'.cells⟩ x'
          · cases h
    · cases h
  · cases h
theorem stepSs_sound (XR : RaiseSnd) (IE : ∀ j, j ≤ n → Snd (run j) j) (IS : ∀ j, j ≤ n → SndSs (run j) j) : SndSs (run (n + 1)) (n + 1) := by
  intro c m loc ρ hs s Ar sts out O M A h D Q E P
  rw [run_succ] at h
  have h : stepSs (run n) c.cc loc sts hs = some out := h
  have A' : ArOk c ρ Ar n := A.le (Nat.le_succ n)
  cases sts with
  | nil => cases h; exact wpAny_execs_nil (P.ok D .next s.toks)
  | cons st rest =>
    have h : obind (stepS (run n) c.cc loc st hs) (fun fl hs => match fl with
      | (.next, loc) => (run n).ss c.cc loc rest hs
      | (.ret v, loc) => some (.ok (.ret v, loc) hs)) = some out := h
    refine wpAny_execs_cons ?_
    cases q : stepS (run n) c.cc loc st hs with
    | none => rw [q] at h; cases h
    | some r1 =>
      rw [q] at h
      have T := stepS_sound (s := s) XR IE IS O M A' q D
      cases r1 with
      | exc msg hs1 => cases h; exact T _ _ P
      | ok p hs1 =>
        obtain ⟨fl, loc1⟩ := p
        refine T _ _ fun m₁ l h₁ tk f D₁ x₁ => ?_
        cases x₁ with
        | next => exact IS n (Nat.le_refl n) (s := { s with heap := h₁, toks := tk }) O M (A'.ext l) h D₁ _ _ (P.later l h₁ tk)
        | ret xv =>
          cases h
          exact P m₁ l h₁ tk _ D₁ (.ret xv)
end
end Mine
end
section
open PySem PySem.W PyProof.Rows
set_option Elab.async false
set_option genInjectivity false
set_option genSizeOf false
set_option genSizeOfSpec false
namespace Mine
set_option maxRecDepth 100000
/-! a call's binds, its cells -/
noncomputable def nodupB : List Str → Bool
  | [] => true
  | x :: r => (match memS x r with | true => false | false => true) && nodupB r
theorem mem_memS {x : Str} : ∀ {l : List Str}, x ∈ l → memS x l = true
  | y :: r, h => by
    show (match sq y x with | true => true | false => memS x r) = true
    cases q : sq y x with
    | true => rfl
    | false =>
      rcases List.mem_cons.mp h with rfl | h
      · rw [sq_self] at q; cases q
      · exact mem_memS h
theorem nodupB_of : ∀ {l : List Str}, nodupB l = true → l.Nodup
  | [], _ => .nil
  | x :: r, h => by
    obtain ⟨a, b⟩ := Bool.and_eq_true_iff.mp h
    refine List.nodup_cons.mpr ⟨fun hm => ?_, nodupB_of b⟩
    rw [mem_memS hm] at a; cases a
noncomputable def kLC : Option NameKind → Bool
  | some .local => true
  | some .cell => true
  | _ => false
noncomputable def isCellK : Option NameKind → Bool
  | some .cell => true
  | _ => false
noncomputable def fnOkB (f : FnI) : Bool := (f.params.args.all fun p => kLC (klook p.arg f.scope.names)) && (nodupB (f.params.args.map (·.arg)) && (nodupB ((cellsAt f.scope.names 0).map (·.1)) && ((f.scope.names.all fun p => match p.2 with | .cell => isCellK (klook p.1 f.scope.names) | _ => true) &&
  (!f.scope.isCoroutine && (!f.scope.isGenerator && isFnK f.scope.kind)))))
theorem fns_ok : (fnL.all fnOkB) = true := by kernel_rfl
structure FnF (f : FnI) : Prop where
  kinds : ∀ p ∈ f.params.args, f.scope.names.lookup p.arg = some .local ∨ f.scope.names.lookup p.arg = some .cell
  args : (f.params.args.map (·.arg)).Nodup
  cells : ((cellsAt f.scope.names 0).map (·.1)).Nodup
  ck : ∀ p ∈ f.scope.names, p.2 = .cell → f.scope.names.lookup p.1 = some .cell
  co : f.scope.isCoroutine = false
  gen : f.scope.isGenerator = false
  kind : f.scope.kind = .function
theorem fn_ok {f : FnI} (hf : f ∈ fnL) : FnF f := by
  have h := List.all_eq_true.mp fns_ok f hf
  unfold fnOkB at h
  simp only [Bool.and_eq_true, Bool.not_eq_true'] at h
  obtain ⟨h1, h2, h3, h4, h5, h6, h7⟩ := h
  refine ⟨fun p hp => ?_, nodupB_of h2, nodupB_of h3, fun p hp e => ?_, h5, h6, isFnK_eq h7⟩
  · have := List.all_eq_true.mp h1 p hp
    rw [← klook_lookup]
    unfold kLC at this
    split at this
    · exact .inl ‹_›
    · exact .inr ‹_›
    · cases this
  · have := List.all_eq_true.mp h4 p hp
    rw [e] at this
    dsimp only at this
    rw [← klook_lookup]
    unfold isCellK at this
    split at this
    · assumption
    · cases this
theorem zip_kv {ρ : List Addr} : ∀ {ps : List Arg} {vs : List AV} {us : List Value} {bs : List (Str × AV)}, VRs ρ vs us → zipB ps vs = some bs → KV ρ bs (zipV ps us) ∧ (zipV ps us).map (·.1) = ps.map (·.arg)
  | [], [], _, _, .nil, e => by cases e; exact ⟨.nil, rfl⟩
  | p :: ps, v :: vs, u :: us, bs, .cons h hr, e => by
    have e' : (match zipB ps vs with | some r => some ((p.arg, v) :: r) | none => none) = some bs := e
    cases q : zipB ps vs with
    | none => rw [q] at e'; cases e'
    | some r =>
      rw [q] at e'; cases e'
      obtain ⟨a, b⟩ := zip_kv hr q
      exact ⟨.cons h a, by show p.arg :: (zipV ps us).map (·.1) = _; rw [b]; rfl⟩
theorem VRs.drop {ρ : List Addr} {vs : List AV} {us : List Value} (x : VRs ρ vs us) : ∀ k, VRs ρ (vs.drop k) (us.drop k) := by
  induction x with
  | nil => intro k; simp; exact .nil
  | cons h hr ih =>
    intro k
    cases k with
    | zero => exact .cons h hr
    | succ k => exact ih k
theorem dflt_vr (ρ : List Addr) (a : Addr) : VRs ρ (dflt a) (dfV a) := by
  unfold dflt dfV
  split
  · exact .cons .none (.cons (.str _ _) (.cons (.str _ _) (.cons (.bool _) (.cons (.bool _) (.cons (.bool _) .nil)))))
  · exact .cons (.int _ _) .nil
  · exact .cons (.int _ _) .nil
  · exact .cons (.glob _) (.cons .none (.cons (.glob _) .nil))
  · exact .cons (.glob _) .nil
  · rename_i h1 h2 h3 h4 h5
    first
      | exact .nil
      | (split
         · exact absurd rfl h1
         · exact absurd rfl h2
         · exact absurd rfl h3
         · exact absurd rfl h4
         · exact absurd rfl h5
         · exact .nil)
theorem binds_sound {w : World} {s : Shared} {f : FnI} (hf : f ∈ fnL) (X : (KF w.params).In s.heap) {ρ : List Addr} {vs : List AV} {us : List Value} {bs : List (Str × AV)} (x : VRs ρ vs us) (e : binds f vs = some bs) :
    ∃ kvs, KV ρ bs kvs ∧ kvs.map (·.1) = f.params.args.map (·.arg) ∧ BindsTo s f.fd ⟨us, []⟩ kvs := by
  unfold binds at e
  split at e
  · rename_i q
    obtain ⟨a, b⟩ := zip_kv x e
    refine ⟨_, a, b, kp_binds X fun S => binds_all w.params S f hf us ?_⟩
    rw [x.length]; exact Nat.eq_of_beq_eq_true q
  · split at e
    · cases e
    · rename_i k q
      have hl : us.length = vs.length := x.length
      obtain ⟨a, b⟩ := zip_kv (x.append ((dflt_vr ρ f.at_).drop _)) e
      refine ⟨_, a, b, kp_binds X fun S => ?_⟩
      have := binds_dflt w.params S f hf us (by rw [hl, q]; exact Nat.succ_ne_zero k)
      rw [this, hl, q, (dflt_vr ρ f.at_).length]
theorem bindL_skip {kindOf : Str → Option NameKind} {x : Str} : ∀ {kvs : List (Str × Value)} {m : Str → Option Value}, x ∉ kvs.map (·.1) → bindL kindOf kvs m x = m x
  | [], _, _ => rfl
  | (y, v) :: r, m, h => by
    rw [List.map_cons, List.mem_cons, not_or] at h
    show bindL kindOf r _ x = _
    rw [bindL_skip h.2]
    split
    · exact if_neg h.1
    · rfl
theorem bindC_skip {kindOf : Str → Option NameKind} {x : Str} : ∀ {kvs : List (Str × Value)} {m : Str → Option Value}, x ∉ kvs.map (·.1) → bindC kindOf kvs m x = m x
  | [], _, _ => rfl
  | (y, v) :: r, m, h => by
    rw [List.map_cons, List.mem_cons, not_or] at h
    show bindC kindOf r _ x = _
    rw [bindC_skip h.2]
    split
    · rfl
    · exact if_neg h.1
theorem KV.none {ρ : List Addr} {x : Str} {bs : List (Str × AV)} {kvs : List (Str × Value)} (K : KV ρ bs kvs) (h : fget x bs = none) : x ∉ kvs.map (·.1) := by
  induction K with
  | nil => exact fun h => (nomatch h)
  | cons hv hr ih =>
    rename_i y v u ps kvs
    rw [fget_cons] at h
    cases q : sq y x with
    | true => rw [q] at h; cases h
    | false =>
      rw [q] at h
      rw [List.map_cons, List.mem_cons, not_or]
      exact ⟨fun e => sq_no q e.symm, ih h⟩
theorem KV.bindL {ρ : List Addr} {kindOf : Str → Option NameKind} {x : Str} {v : AV} (hk : kindOf x = some .local) {bs : List (Str × AV)} {kvs : List (Str × Value)} (K : KV ρ bs kvs) (nd : (kvs.map (·.1)).Nodup) (h : fget x bs = some v) : ∀ m, ∃ u, bindL kindOf kvs m x = some u ∧ VR ρ v u := by
  induction K with
  | nil => cases h
  | cons hv hr ih =>
    rename_i y v' u ps kvs
    intro m
    rw [List.map_cons, List.nodup_cons] at nd
    rw [fget_cons] at h
    cases q : sq y x with
    | true =>
      rw [q] at h; cases h
      have := sq_iff.mp q
      subst this
      refine ⟨u, ?_, hv⟩
      show PySem.bindL kindOf kvs _ y = _
      rw [bindL_skip nd.1, if_pos hk]
      exact if_pos rfl
    | false => rw [q] at h; exact ih nd.2 h _
theorem KV.bindC {ρ : List Addr} {kindOf : Str → Option NameKind} {x : Str} {v : AV} (hk : kindOf x ≠ some .local) {bs : List (Str × AV)} {kvs : List (Str × Value)} (K : KV ρ bs kvs) (nd : (kvs.map (·.1)).Nodup) (h : fget x bs = some v) : ∀ m, ∃ u, bindC kindOf kvs m x = some u ∧ VR ρ v u := by
  induction K with
  | nil => cases h
  | cons hv hr ih =>
    rename_i y v' u ps kvs
    intro m
    rw [List.map_cons, List.nodup_cons] at nd
    rw [fget_cons] at h
    cases q : sq y x with
    | true =>
      rw [q] at h; cases h
      have := sq_iff.mp q
      subst this
      refine ⟨u, ?_, hv⟩
      show PySem.bindC kindOf kvs _ y = _
      rw [bindC_skip nd.1, if_neg hk]
      exact if_pos rfl
    | false => rw [q] at h; exact ih nd.2 h _
/-! cells -/
theorem cellsFrom_eq : ∀ {names : List (Str × NameKind)} {n : Nat} {acc : List (Str × Addr)}, cellsFrom n names acc = (cellsAt names n).reverse ++ acc
  | [], _, _ => rfl
  | (x, k) :: r, n, acc => by
    unfold cellsFrom
    cases k with
    | cell =>
      rw [if_pos (show (NameKind.cell == NameKind.cell) = true from rfl), cellsFrom_eq]
      show _ = (((x, n) :: cellsAt r (n + 1)).reverse) ++ acc
      simp
    | _ => rw [if_neg (by decide), cellsFrom_eq]; rfl
theorem cellsAt_names : ∀ {names : List (Str × NameKind)} {n n' : Nat}, (cellsAt names n).map (·.1) = (cellsAt names n').map (·.1)
  | [], _, _ => rfl
  | (x, k) :: r, n, n' => by
    cases k with
    | cell => show x :: (cellsAt r (n + 1)).map (·.1) = x :: (cellsAt r (n' + 1)).map (·.1); rw [cellsAt_names]
    | _ => exact cellsAt_names (names := r)
theorem cellsAt_mem : ∀ {names : List (Str × NameKind)} {n : Nat} {p : Str × Nat}, p ∈ cellsAt names n → (p.1, NameKind.cell) ∈ names ∧ n ≤ p.2
  | (x, k) :: r, n, p, h => by
    cases k with
    | cell =>
      rcases List.mem_cons.mp (show p ∈ (x, n) :: cellsAt r (n + 1) from h) with rfl | h
      · exact ⟨.head _, Nat.le_refl _⟩
      · obtain ⟨a, b⟩ := cellsAt_mem h; exact ⟨.tail _ a, Nat.le_of_succ_le b⟩
    | _ => obtain ⟨a, b⟩ := cellsAt_mem (names := r) h; exact ⟨.tail _ a, b⟩
theorem cellsAt_nodup : ∀ {names : List (Str × NameKind)} {n : Nat}, ((cellsAt names n).map (·.2)).Nodup
  | [], _ => .nil
  | (x, k) :: r, n => by
    cases k with
    | cell =>
      show (n :: (cellsAt r (n + 1)).map (·.2)).Nodup
      refine List.nodup_cons.mpr ⟨fun h => ?_, cellsAt_nodup⟩
      obtain ⟨p, hp, e⟩ := List.mem_map.mp h
      have := (cellsAt_mem hp).2
      omega
    | _ => exact cellsAt_nodup (names := r)
theorem cellsAt_len : ∀ {names : List (Str × NameKind)} {n n' : Nat}, (cellsAt names n).length = (cellsAt names n').length := by
  intro names n n'
  have := congrArg List.length (cellsAt_names (names := names) (n := n) (n' := n'))
  simpa using this
theorem cellsAt_get {x : Str} {i : Nat} : ∀ {names : List (Str × NameKind)} {n M : Nat} {ρ : List Addr}, ρ.length = n → cget x (cellsAt names n) = some i → ∃ a, (x, a) ∈ cellsAt names M ∧ (ρ ++ (cellsAt names M).map (·.2))[i]? = some a
  | [], _, _, _, _, e => by cases e
  | (y, k) :: r, n, M, ρ, hn, e => by
    cases k with
    | cell =>
      have e' : (match sq y x with | true => some n | false => cget x (cellsAt r (n + 1))) = some i := e
      have eq : cellsAt ((y, .cell) :: r) M = (y, M) :: cellsAt r (M + 1) := rfl
      rw [eq, List.map_cons]
      cases q : sq y x with
      | true =>
        rw [q] at e'; cases e'
        have := sq_iff.mp q
        subst this
        exact ⟨M, .head _, by rw [← hn]; simp⟩
      | false =>
        rw [q] at e'
        obtain ⟨a, h1, h2⟩ := cellsAt_get (M := M + 1) (ρ := ρ ++ [M]) (by rw [List.length_append, hn]; rfl) e'
        exact ⟨a, .tail _ h1, by simpa using h2⟩
    | _ => exact cellsAt_get (names := r) hn e
inductive OV (ρ : List Addr) : Option AV → Option Value → Prop
  | none : OV ρ none none
  | some {v u} : VR ρ v u → OV ρ (some v) (some u)
theorem OV.ext {ρ : List Addr} {a : Option AV} {b : Option Value} (x : OV ρ a b) (l : List Addr) : OV (ρ ++ l) a b := by
  cases x with
  | none => exact .none
  | some h => exact .some (h.ext l)
theorem cell_or {P : Params} {ρ : List Addr} {a : Option AV} {b : Option Value} {M : Addr} {o : Obj} (hd : o.data = .cell b) (hv : OV ρ a b) : OR P (ρ ++ [M]) (.cell a) M [(M, o)] := by
  cases hv with
  | none => exact .cellN hd
  | some hv => exact .cellS (hv.ext _) hd
theorem cells_led {P : Params} {h : Heap} {bs : Loc} {cm : Str → Option Value} : ∀ {names : List (Str × NameKind)} {n M : Nat} {ρ : List Addr} {H : AHeap} {own : List (Addr × Obj)}, ρ.length = n → Led P ρ H own →
    (∀ p ∈ cellsAt names M, h.IsCell p.2 (cm p.1) ∧ OV ρ (fget p.1 bs) (cm p.1)) → ∃ cells, Led P (ρ ++ (cellsAt names M).map (·.2)) (cellHeap (cellsAt names n) bs H) (cells ++ own) ∧ (∀ p ∈ cells, h.get? p.1 = some p.2) ∧ cells.map (·.1) = ((cellsAt names M).map (·.2)).reverse
  | [], n, M, ρ, H, own, _, L, _ => ⟨[], by simpa [cellsAt, cellHeap] using L, fun _ hp => (nomatch hp), rfl⟩
  | (y, k) :: r, n, M, ρ, H, own, hn, L, hc => by
    cases k with
    | cell =>
      have eq : cellsAt ((y, .cell) :: r) M = (y, M) :: cellsAt r (M + 1) := rfl
      have eq' : cellHeap (cellsAt ((y, .cell) :: r) n) bs H = cellHeap (cellsAt r (n + 1)) bs ((n, .cell (fget y bs)) :: H) := rfl
      rw [eq] at hc
      rw [eq, eq', List.map_cons]
      obtain ⟨⟨o, ho, hd⟩, hv⟩ := hc (y, M) (.head _)
      have o1 : OR P (ρ ++ [M]) (.cell (fget y bs)) M [(M, o)] := cell_or hd hv
      have L1 : Led P (ρ ++ [M]) ((n, .cell (fget y bs)) :: H) ([(M, o)] ++ own) := .cons (by rw [← hn, List.getElem?_append_right (Nat.le_refl _), Nat.sub_self]; rfl) o1 (L.ext _)
      obtain ⟨cells, c1, c2, c3⟩ := cells_led (names := r) (M := M + 1) (by rw [List.length_append, hn, List.length_singleton]) L1 fun p hp => ⟨(hc p (.tail _ hp)).1, (hc p (.tail _ hp)).2.ext _⟩
      refine ⟨cells ++ [(M, o)], by simpa [List.append_assoc] using c1, fun p hp => ?_, ?_⟩
      · rcases List.mem_append.mp hp with hp | hp
        · exact c2 p hp
        · rw [List.mem_singleton.mp hp]; exact ho
      · rw [List.map_append, c3, List.reverse_cons]; rfl
    | _ => exact cells_led (names := r) hn L hc
theorem locOf_get {names : List (Str × NameKind)} {x : Str} {v : AV} : ∀ {bs : Loc}, fget x (locOf names bs) = some v → klook x names = some .local ∧ fget x bs = some v
  | [], h => by cases h
  | (y, w) :: r, h => by
    have e : fget x (match klook y names with | some .local => (y, w) :: locOf names r | _ => locOf names r) = some v := h
    rw [fget_cons]
    split at e
    · rename_i hk
      rw [fget_cons] at e
      cases q : sq y x with
      | true =>
        rw [q] at e; cases e
        have := sq_iff.mp q
        subst this
        exact ⟨hk, rfl⟩
      | false => rw [q] at e; exact locOf_get e
    · rename_i hk
      obtain ⟨a, b⟩ := locOf_get e
      cases q : sq y x with
      | true =>
        have := sq_iff.mp q
        subst this
        exact absurd a hk
      | false => exact ⟨a, b⟩
theorem sweep_led {P : Params} {ρ : List Addr} (n : Nat) (ks : List Nat) : ∀ {H : AHeap} {own : List (Addr × Obj)}, Led P ρ H own → ∃ own', Led P ρ (sweep n ks H) own' ∧ own'.Sublist own
  | _, _, .nil => ⟨[], .nil, .slnil⟩
  | (i, ob) :: r, _, .cons (l := l) (own := own) h o hr => by
    obtain ⟨own', a, b⟩ := sweep_led n ks hr
    have keep : ∃ own', Led P ρ ((i, ob) :: sweep n ks r) own' ∧ own'.Sublist (l ++ own) := ⟨l ++ own', .cons h o a, List.Sublist.append_left b l⟩
    rw [sweep]
    split
    · exact ⟨_, .cons h o hr, List.Sublist.refl _⟩
    · split
      · exact keep
      · exact ⟨own', a, b.trans (List.sublist_append_right l own)⟩
end Mine
end
section
open PySem PySem.W PyProof.Rows
set_option Elab.async false
namespace Mine
set_option maxRecDepth 100000
/-! a call of a def of the text -/
section
variable {c : FC} {m : Str → Option Value} {loc : Loc} {Ar : Around} {ρ : List Addr} {s : Shared} {hs : HS} {n : Nat}
/-- the called frame -/
noncomputable def FC.call (c : FC) (f : FnI) (m : Str → Option Value) (L : Addr) (hsn : Nat) : FC :=
  { w := c.w, G := c.G, L := L, fenv := envOfC f.qual f.scope L f.at_ (.ref f.code), env := envOfC f.qual f.scope L f.at_ (.ref f.code), outer := c.fenv :: c.outer, fs := (c.L, m) :: c.fs, other := c.other,
    cc := ⟨fun x => klook x f.scope.names, cellsAt f.scope.names hsn, c.cc.hand⟩ }
theorem call_ok (O : c.Ok) {f : FnI} (F : FnF f) {L : Addr} {hsn : Nat} : (c.call f m L hsn).Ok :=
  ⟨O.top, rfl, F.kind, .cons O.fK O.fL O.out, F.kind, rfl, rfl, fun x => klook_lookup.symm⟩
theorem sub_news {c : FC} {h : Heap} {own own' rest : List (Addr × Obj)} (N : News c.G c.L h (own ++ rest)) (b : own'.Sublist own) : News c.G c.L h (own' ++ rest) := fun p hp => by
  rcases List.mem_append.mp hp with hp | hp
  · exact N p (List.mem_append_left _ (b.subset hp))
  · exact N p (List.mem_append_right _ hp)
theorem Dyn.sweep {h : Heap} (D : Dyn c m loc ρ hs h) (ns : Nat) (ks : List Nat) : Dyn c m loc ρ ⟨Mine.sweep ns ks hs.H, hs.n⟩ h := by
  obtain ⟨own, fo, D⟩ := D
  obtain ⟨own', a, b⟩ := sweep_led ns ks D.led
  exact ⟨own', fo, D.F, sub_news D.N b, D.nd.sublist (List.Sublist.map _ (List.Sublist.append_right b _)), a, D.fo, D.n, D.loc, D.cells⟩
theorem Fly.sweep {h : Heap} {msg : Str} {e : Addr} (F : Fly c m ρ hs msg e h) (ns : Nat) (ks : List Nat) : Fly c m ρ ⟨Mine.sweep ns ks hs.H, hs.n⟩ msg e h := by
  obtain ⟨B, own, d, od, F⟩ := F
  obtain ⟨own', a, b⟩ := sweep_led ns ks F.led
  refine ⟨B, own', d, od, F.stay, fun q hq => ?_, F.fly, F.ed, F.ns, F.fs, ?_, a, F.n, F.cells, F.above, F.fsG⟩
  · refine F.news q ?_
    rcases List.mem_cons.mp hq with rfl | hq
    · exact .head _
    · exact .tail _ ((List.Sublist.append_right b c.other).subset hq)
  · exact F.nd.sublist (List.Sublist.append_left (List.Sublist.map _ (List.Sublist.cons_cons _ (List.Sublist.append_right b _))) _)
/-- back in the calling frame -/
theorem back_dyn {h0 h' : Heap} {own0 fo0 : List (Addr × Obj)} {hs0 hs' : HS} {m' : Str → Option Value} {loc' : Loc} {l : List Addr} {f : FnI} {L : Addr} {k : Nat} (D : DynI c m loc ρ hs0 h0 own0 fo0) (D' : Dyn (c.call f m L k) m' loc' (ρ ++ l) hs' h') : Dyn c m loc (ρ ++ l) hs' h' := by
  obtain ⟨own, fo, D'⟩ := D'
  have hfo := D'.fo
  have hfo : FoR ((c.L, m) :: c.fs) fo := hfo
  cases hfo with
  | cons hN hr =>
    rename_i o fo
    have N : News c.G L h' (own ++ (c.other ++ (c.L, o) :: fo)) := D'.N
    have nd : ((own ++ (c.other ++ (c.L, o) :: fo)).map (·.1)).Nodup := D'.nd
    have hm := N (c.L, o) (by simp)
    have nd' : (((own ++ c.other) ++ (c.L, o) :: fo).map (·.1)).Nodup := by simpa using nd
    rw [List.map_append, List.map_cons, List.nodup_append, List.nodup_cons] at nd'
    obtain ⟨n1, ⟨n2, n3⟩, n4⟩ := nd'
    refine ⟨own, fo, ⟨hN.ns hm.1, D'.F.keep, D.F.above⟩, fun p hp => ?_, ?_, D'.led, hr, D'.n, D.loc.ext _, D.cells.ext _⟩
    · have hp' : p ∈ own ++ (c.other ++ (c.L, o) :: fo) := by
        rcases List.mem_append.mp hp with hp | hp
        · exact List.mem_append_left _ hp
        · rcases List.mem_append.mp hp with hp | hp
          · exact List.mem_append_right _ (List.mem_append_left _ hp)
          · exact List.mem_append_right _ (List.mem_append_right _ (.tail _ hp))
      have := N p hp'
      refine ⟨this.1, fun q => ?_, this.2.2⟩
      rw [← List.append_assoc] at hp
      rcases List.mem_append.mp hp with hp | hp
      · exact n4 p.1 (List.mem_map.mpr ⟨p, hp, rfl⟩) c.L (.head _) q
      · exact n2 (q ▸ List.mem_map.mpr ⟨p, hp, rfl⟩)
    · refine nd.sublist (List.Sublist.map _ (List.Sublist.append_left (List.Sublist.append_left (List.sublist_cons_self _ _) _) _))
theorem back_fly {h0 h' h'' B : Heap} {own0 fo0 own : List (Addr × Obj)} {hs0 hs' : HS} {m' : Str → Option Value} {l : List Addr} {f : FnI} {L : Addr} {k : Nat} {msg : Str} {e d : Addr} {od : Obj} (D : DynI c m loc ρ hs0 h0 own0 fo0) (F : FlyI (c.call f m L k) m' (ρ ++ l) hs' msg e h' B own d od)
    (X : FlyX B (c.fenv :: c.outer) e d .none h'') (U : h'.UpToSlots h'') : Fly c m (ρ ++ l) hs' msg e h'' := by
  have nd : ((L :: c.L :: c.fs.map (·.1)) ++ ((d, od) :: (own ++ c.other)).map (·.1)).Nodup := F.nd
  exact ⟨B, own, d, od, F.stay, F.news, .inl X, F.ed, U.ns (F.fs (c.L, m) (.head _)), fun p hp => U.ns (F.fs p (.tail _ hp)), (List.nodup_cons.mp nd).2, F.led, F.n, D.cells.ext _, D.F.above, fun p hp => F.fsG p (.tail _ hp)⟩
/-- a def of the text is entered: its frame, its cells -/
theorem fn_raw (O : c.Ok) {f : FnI} (hf : f ∈ fnL) {args : List AV} {us : List Value} {bs : List (Str × AV)} {R : Result → Shared → Prop} (adp : Ar.depth < 1000)
    (hb : binds f args = some bs) {own fo : List (Addr × Obj)} (D : DynI c m loc ρ hs s.heap own fo) (xs : VRs ρ args us)
    (T : ∀ h₁ tk m' oL, NsO oL m → (∀ b o, s.heap.get? b = some o → h₁.get? b = some o) → (∃ cells, cells.map (·.1) = ((cellsAt f.scope.names (s.heap.objs.size + 1)).map (·.2)).reverse ∧ (∀ p ∈ cells, s.heap.objs.size < p.1) ∧ DynI (c.call f m s.heap.objs.size hs.n) m' (locOf f.scope.names bs) (ρ ++ (cellsAt f.scope.names (s.heap.objs.size + 1)).map (·.2)) ⟨cellHeap (cellsAt f.scope.names hs.n) bs hs.H, hs.n + (cellsAt f.scope.names hs.n).length⟩ h₁ (cells ++ own) ((c.L, oL) :: fo)) →
      wpAny (model pw c.w) (Ar.deeper (envOfC f.qual f.scope s.heap.objs.size f.at_ (.ref f.code))) (execs f.body (envOfC f.qual f.scope s.heap.objs.size f.at_ (.ref f.code))) (fun fl s' => R (.ok (.ret (match fl with | .ret v => v | _ => .none))) s')
        (fun e s' => wpAny (model pw c.w) (Ar.deeper (envOfC f.qual f.scope s.heap.objs.size f.at_ (.ref f.code))) (leaving (envOfC f.qual f.scope s.heap.objs.size f.at_ (.ref f.code)) e) (fun _ s'' => R (.error e) s'') (fun e' s'' => R (.error e') s'') s') { s with heap := h₁, toks := tk }) :
    codeAny (model pw c.w) Ar (.call (.ref f.at_) ⟨us, []⟩) R s := by
  have F := fn_ok hf
  have X : (KF c.w.params).In s.heap := O.top.X.keeps D.F.keep
  obtain ⟨kvs, K, hk, hbind⟩ := binds_sound hf X xs hb
  have hkeys : (kvs.map (·.1)).Nodup := by rw [hk]; exact F.args
  have hroom : Ar.depth < recursionLimit := adp
  refine codeAny_call_function (fd := f.fd) hroom (X _ _ (look_fn c.w.params hf)) rfl F.co F.gen rfl ((O.top.code f hf).keeps D.F.keep) (hbind _ _ _ _ ?_)
  have hks : ∀ x ∈ kvs, f.scope.names.lookup x.1 = some .local ∨ f.scope.names.lookup x.1 = some .cell := fun x hx => by
    have : x.1 ∈ f.params.args.map (·.arg) := hk ▸ List.mem_map.mpr ⟨x, hx, rfl⟩
    obtain ⟨p, hp, e⟩ := List.mem_map.mp this
    rw [← e]; exact F.kinds p hp
  refine wpAny_newFunctionEnv_cells F.kind (fun x hx => (hks x hx).imp id fun h => ⟨h, cellsFrom_some _ _ _ (.inl h)⟩) fun env' he s' x => ?_
  subst he
  obtain ⟨h₁, tk, rfl, old⟩ := x.done
  refine ⟨(O.top.nl.keeps D.F.keep).keeps old, codeAny_func ?_⟩
  show wpAny (model pw c.w) (Ar.deeper (envOfC f.qual f.scope s.heap.objs.size f.at_ (.ref f.code))) (execs f.body (envOfC f.qual f.scope s.heap.objs.size f.at_ (.ref f.code))) _ _ _
  have xns : h₁.Ns s.heap.objs.size (bindL (fun x => f.scope.names.lookup x) kvs fun _ => none) := x.toInCall.ns
  have xcell : ∀ n c, (cellsFrom (s.heap.objs.size + 1) f.scope.names []).lookup n = some c → h₁.IsCell c (bindC (fun x => f.scope.names.lookup x) kvs (fun _ => none) n) := x.cell
  have cnd : ((cellsFrom (s.heap.objs.size + 1) f.scope.names []).map (·.1)).Nodup := by
    rw [cellsFrom_eq, List.append_nil, List.map_reverse]
    refine (List.reverse_perm _).nodup_iff.mpr ?_
    rw [cellsAt_names (n' := 0)]; exact F.cells
  have hc : ∀ p ∈ cellsAt f.scope.names (s.heap.objs.size + 1), h₁.IsCell p.2 (bindC (fun x => f.scope.names.lookup x) kvs (fun _ => none) p.1) ∧ OV ρ (fget p.1 bs) (bindC (fun x => f.scope.names.lookup x) kvs (fun _ => none) p.1) := fun p hp => by
    refine ⟨xcell _ _ (lookup_of_mem_nodup cnd ?_), ?_⟩
    · rw [cellsFrom_eq, List.append_nil]; exact List.mem_reverse.mpr hp
    · have hkc := F.ck (p.1, .cell) (cellsAt_mem hp).1 rfl
      cases q : fget p.1 bs with
      | none => rw [bindC_skip (K.none q)]; exact .none
      | some v =>
        obtain ⟨u, a, b⟩ := K.bindC (kindOf := fun x => f.scope.names.lookup x) (by rw [hkc]; decide) hkeys q (fun _ => none)
        rw [a]; exact .some b
  obtain ⟨cells, c1, c2, c3⟩ := cells_led (n := hs.n) D.n D.led hc
  obtain ⟨oL, eL, NL⟩ := nsO_of D.F.ns
  have hlt : ∀ p ∈ own ++ (c.other ++ fo), p.1 < s.heap.objs.size := fun p hp => Heap.lt_size (D.N p hp).1
  have hcm : ∀ p ∈ cells, s.heap.objs.size < p.1 := fun p hp => by
    have : p.1 ∈ ((cellsAt f.scope.names (s.heap.objs.size + 1)).map (·.2)).reverse := c3 ▸ List.mem_map.mpr ⟨p, hp, rfl⟩
    obtain ⟨q, hq, e⟩ := List.mem_map.mp (List.mem_reverse.mp this)
    have := (cellsAt_mem hq).2
    have e : q.2 = p.1 := e
    omega
  have Gsz : c.G.objs.size ≤ s.heap.objs.size := Nat.le_of_lt (Nat.lt_of_le_of_lt D.F.above D.F.ns.lt)
  have D' : DynI (c.call f m s.heap.objs.size hs.n) (bindL (fun x => f.scope.names.lookup x) kvs fun _ => none) (locOf f.scope.names bs) (ρ ++ (cellsAt f.scope.names (s.heap.objs.size + 1)).map (·.2)) ⟨cellHeap (cellsAt f.scope.names hs.n) bs hs.H, hs.n + (cellsAt f.scope.names hs.n).length⟩ h₁ (cells ++ own) ((c.L, oL) :: fo) := by
    refine ⟨⟨xns, fun b o e => old b o (D.F.keep b o e), Gsz⟩, fun p hp => ?_, ?_, c1, .cons NL D.fo, ?_, .inl ⟨rfl, fun y w z => ?_⟩, fun y i z => ?_⟩
    · have hp : p ∈ (cells ++ own) ++ (c.other ++ (c.L, oL) :: fo) := hp
      have case2 : p ∈ own ++ (c.other ++ fo) → h₁.get? p.1 = some p.2 ∧ p.1 ≠ s.heap.objs.size ∧ c.G.get? p.1 = none := fun hp => ⟨old _ _ (D.N p hp).1, Nat.ne_of_lt (hlt p hp), (D.N p hp).2.2⟩
      rcases List.mem_append.mp hp with hp | hp
      · rcases List.mem_append.mp hp with hp | hp
        · exact ⟨c2 p hp, Nat.ne_of_gt (hcm p hp), Heap.get?_none_of_le (Nat.le_trans Gsz (Nat.le_of_lt (hcm p hp)))⟩
        · exact case2 (List.mem_append_left _ hp)
      · rcases List.mem_append.mp hp with hp | hp
        · exact case2 (List.mem_append_right _ (List.mem_append_left _ hp))
        · rcases List.mem_cons.mp hp with rfl | hp
          · exact ⟨old _ _ eL, Nat.ne_of_lt (Heap.lt_size eL), Heap.get?_none_of_le D.F.above⟩
          · exact case2 (List.mem_append_right _ (List.mem_append_right _ hp))
    · show (((cells ++ own) ++ (c.other ++ (c.L, oL) :: fo)).map (·.1)).Nodup
      have base : ((own ++ c.other ++ (c.L, oL) :: fo).map (·.1)).Nodup := by
        rw [List.map_append, List.map_cons]
        refine nodup_mid (by have := D.nd; rw [← List.append_assoc, List.map_append] at this; exact this) fun hm => ?_
        rw [← List.map_append, List.append_assoc] at hm
        obtain ⟨p, hp, e⟩ := List.mem_map.mp hm
        exact (D.N p hp).2.1 e
      have e1 : (cells ++ own) ++ (c.other ++ (c.L, oL) :: fo) = cells ++ (own ++ c.other ++ (c.L, oL) :: fo) := by simp
      rw [e1, List.map_append]
      refine List.nodup_append.mpr ⟨?_, base, fun a ha b hb e => ?_⟩
      · rw [c3]; exact (List.reverse_perm _).nodup_iff.mpr cellsAt_nodup
      · obtain ⟨p, hp, rfl⟩ := List.mem_map.mp ha
        obtain ⟨q, hq, rfl⟩ := List.mem_map.mp hb
        have e : p.1 = q.1 := e
        have h1 := hcm p hp
        have h2 : q.1 < s.heap.objs.size := by
          rcases List.mem_append.mp hq with hq | hq
          · rcases List.mem_append.mp hq with hq | hq
            · exact hlt q (List.mem_append_left _ hq)
            · exact hlt q (List.mem_append_right _ (List.mem_append_left _ hq))
          · rcases List.mem_cons.mp hq with rfl | hq
            · exact Heap.lt_size eL
            · exact hlt q (List.mem_append_right _ (List.mem_append_right _ hq))
        rw [e] at h1
        exact absurd h1 (Nat.lt_asymm h2)
    · rw [List.length_append, List.length_map, D.n, cellsAt_len (n' := hs.n)]
    · obtain ⟨a, b⟩ := locOf_get z
      obtain ⟨u, e1, e2⟩ := K.bindL (kindOf := fun x => f.scope.names.lookup x) (by rw [← klook_lookup]; exact a) hkeys b (fun _ => none)
      exact ⟨u, e1, e2.ext _⟩
    · have z : cget y (cellsAt f.scope.names hs.n) = some i := z
      obtain ⟨a, h1, h2⟩ := cellsAt_get (M := s.heap.objs.size + 1) D.n z
      refine ⟨a, ?_, h2⟩
      show (cellsFrom (s.heap.objs.size + 1) f.scope.names []).lookup y = some a
      refine lookup_of_mem_nodup cnd ?_
      rw [cellsFrom_eq, List.append_nil]; exact List.mem_reverse.mpr h1
  exact T h₁ tk _ oL NL old ⟨cells, c3, hcm, D'⟩
theorem fn_code (SS : SndSs (run n) n) (O : c.Ok) {f : FnI} (hf : f ∈ fnL) {args : List AV} {us : List Value} {bs : List (Str × AV)} {r : Out (Fl × Loc)} {R : Result → Shared → Prop} (afr : Ar.frames = some (c.fenv :: c.outer)) (adp : Ar.depth + 1 + n < 990) (aun : Ar.units + 3 + 20 * n < 9800) (ahd : HandOk c ρ Ar)
    (hb : binds f args = some bs) (e : (run n).ss ⟨fun x => klook x f.scope.names, cellsAt f.scope.names hs.n, c.cc.hand⟩ (locOf f.scope.names bs) f.body ⟨cellHeap (cellsAt f.scope.names hs.n) bs hs.H, hs.n + (cellsAt f.scope.names hs.n).length⟩ = some r)
    (D : Dyn c m loc ρ hs s.heap) (xs : VRs ρ args us)
    (P : match r with
      | .ok p hs' => ∀ l h' tk u, Dyn c m loc (ρ ++ l) hs' h' → VR (ρ ++ l) (match p.1 with | .ret v => v | .next => .none) u → R (.ok (.ret u)) { s with heap := h', toks := tk }
      | .exc msg hs' => ∀ l e h' tk, Fly c m (ρ ++ l) hs' msg e h' → R (.error (.ref e)) { s with heap := h', toks := tk }) :
    codeAny (model pw c.w) Ar (.call (.ref f.at_) ⟨us, []⟩) R s := by
  have F := fn_ok hf
  obtain ⟨own, fo, D⟩ := D
  refine fn_raw O hf (by omega) hb D xs fun h₁ tk m₁ oL NL old ⟨cells, _, _, D'⟩ => ?_
  have A' : ArOk (c.call f m s.heap.objs.size hs.n) (ρ ++ (cellsAt f.scope.names (s.heap.objs.size + 1)).map (·.2)) (Ar.deeper (envOfC f.qual f.scope s.heap.objs.size f.at_ (.ref f.code))) n := by
    exact ⟨Around.frames_deeper afr, adp, aun, (show HandOk c _ Ar from ahd.ext _)⟩
  refine SS (c := c.call f m s.heap.objs.size hs.n) (s := { s with heap := h₁, toks := tk }) (call_ok O F) ⟨rfl, rfl⟩ A' e D'.toks _ _ ?_
  cases r with
  | ok p hs' =>
    obtain ⟨f0, loc0⟩ := p
    intro m' l h' tk' fl D'' x''
    rw [List.append_assoc] at D'' x''
    refine P _ h' tk' _ (back_dyn D D'') ?_
    cases x'' with
    | next => exact .none
    | ret xv => exact xv
  | exc msg hs' =>
    intro m' l e h' tk' F''
    rw [List.append_assoc] at F''
    obtain ⟨B, own', d, od, F''⟩ := F''
    exact leave_anyX (s := { s with heap := h', toks := tk' }) A'.fr rfl F''.fly fun h'' X U => P _ e h'' tk' (back_fly D F'' X U)
end
end Mine
end
section
open PySem PySem.W PyProof.Rows
set_option Elab.async false
namespace Mine
set_option maxRecDepth 100000
/-! calls -/
/-- what is asked of the def that is shown by hand -/
noncomputable def DrawSnd : Prop := ∀ {n : Nat} {c : FC} {m loc ρ hs s Ar args us out}, c.Ok → ArOk c ρ Ar (n + 1) → lawDraw args hs = some out → Dyn c m loc ρ hs s.heap → VRs ρ args us → Tr c m loc Ar (call (.ref 405) us) VR ρ s out
theorem cls_facts (P : Params) : (clsN.all fun C => makesIn (KF P) C && (match clsAt C with | some i => findIn (KF P) (.ref C) "__init__" == some (some (.ref i)) && isFn (KF P) (.ref i) | none => false)) = true := by kernel_rfl
theorem cls_of {P : Params} {C i : Addr} (h : clsAt C = some i) : makesIn (KF P) C = true ∧ findIn (KF P) (.ref C) "__init__" = some (some (.ref i)) ∧ isFn (KF P) (.ref i) = true := by
  have hC : C ∈ clsN := by
    have h' := h
    unfold clsAt at h'
    split at h' <;> first | (simp [clsN]; done) | cases h'
  have := List.all_eq_true.mp (cls_facts P) C hC
  rw [h] at this
  simp only [Bool.and_eq_true, beq_iff_eq] at this
  exact this
theorem digit_is : ∀ k : Nat, k ≤ 9 → Str.ofString (toString ((k : Nat) : Int)) = digit k := by
  intro k hk
  match k, hk with
  | 0, _ => kernel_rfl
  | 1, _ => kernel_rfl
  | 2, _ => kernel_rfl
  | 3, _ => kernel_rfl
  | 4, _ => kernel_rfl
  | 5, _ => kernel_rfl
  | 6, _ => kernel_rfl
  | 7, _ => kernel_rfl
  | 8, _ => kernel_rfl
  | 9, _ => kernel_rfl
  | n + 10, h => omega
theorem digit_log : ∀ k : Nat, k ≤ 9 → ((k : Int)).natAbs.log2 < 1920 := by
  intro k hk
  have h : ((k : Int)).natAbs = k := rfl
  rw [h]
  match k, hk with
  | 0, _ => decide
  | 1, _ => decide
  | 2, _ => decide
  | 3, _ => decide
  | 4, _ => decide
  | 5, _ => decide
  | 6, _ => decide
  | 7, _ => decide
  | 8, _ => decide
  | 9, _ => decide
  | n + 10, h => omega
theorem under_cls (C : Addr) (rest : List Value) : (Code.builtin "type.__call__" ⟨.ref C :: rest, []⟩).weight = 1 ∧ (Code.builtin "type.__call__" ⟨.ref C :: rest, []⟩).cUnits = 1 ∧ (Code.builtin "type.__call__" ⟨.ref C :: rest, []⟩).envs = [] := ⟨by kernel_rfl, by kernel_rfl, by kernel_rfl⟩
section
variable {c : FC} {m : Str → Option Value} {loc : Loc} {Ar : Around} {ρ : List Addr} {s : Shared} {hs : HS} {n : Nat}
/-- what a code's end is asked -/
noncomputable def PstX (c : FC) (m : Str → Option Value) (loc : Loc) (ρ : List Addr) (s : Shared) (R : Result → Shared → Prop) : Out AV → Prop
  | .ok v hs' => ∀ l h' tk u, Dyn c m loc (ρ ++ l) hs' h' → VR (ρ ++ l) v u → R (.ok (.ret u)) { s with heap := h', toks := tk }
  | .exc msg hs' => ∀ l e h' tk, Fly c m (ρ ++ l) hs' msg e h' → R (.error (.ref e)) { s with heap := h', toks := tk }
theorem Pst.toX {out : Out AV} {Q : Value → Shared → Prop} {E : Value → Shared → Prop} (P : Pst c m loc ρ s VR Q E out) : PstX c m loc ρ s (fun r s' => match r with | .ok (.ret v) => Q v s' | .ok _ => False | .error e => E e s') out := by
  cases out with
  | ok v hs' => exact P
  | exc msg hs' => exact P
theorem callFn_code (SS : SndSs (run n) n) (O : c.Ok) {f : FnI} (hf : f ∈ fnL) {args : List AV} {us : List Value} {out : Out AV} {R : Result → Shared → Prop} (afr : Ar.frames = some (c.fenv :: c.outer)) (adp : Ar.depth + 1 + n < 990) (aun : Ar.units + 3 + 20 * n < 9800) (ahd : HandOk c ρ Ar)
    (e : callFn (run n) c.cc.hand f args hs = some out) (D : Dyn c m loc ρ hs s.heap) (xs : VRs ρ args us) (P : PstX c m loc ρ s R out) : codeAny (model pw c.w) Ar (.call (.ref f.at_) ⟨us, []⟩) R s := by
  unfold callFn at e
  cases q : binds f args with
  | none => rw [q] at e; cases e
  | some bs =>
    rw [q] at e
    dsimp only at e
    cases q2 : (run n).ss ⟨fun x => klook x f.scope.names, cellsAt f.scope.names hs.n, c.cc.hand⟩ (locOf f.scope.names bs) f.body ⟨cellHeap (cellsAt f.scope.names hs.n) bs hs.H, hs.n + (cellsAt f.scope.names hs.n).length⟩ with
    | none => rw [q2] at e; cases e
    | some r =>
      rw [q2] at e
      refine fn_code SS O hf afr adp aun ahd q q2 D xs ?_
      cases r with
      | ok p hs' =>
        intro l h' tk u D' x'
        dsimp only at e
        split at e
        · cases e; exact P l h' tk u (D'.sweep _ _) x'
        · cases e; exact P l h' tk u D' x'
      | exc msg hs' =>
        intro l e' h' tk F'
        cases e
        exact P l e' h' tk (F'.sweep _ _)
theorem stepCall_sound (XD : DrawSnd) (IS : ∀ j, j ≤ n → SndSs (run j) j) {fv : AV} {u : Value} {args : List AV} {us : List Value} {out : Out AV} (O : c.Ok) (A : ArOk c ρ Ar (n + 1)) (h : stepCall (run n) c.cc.hand fv args hs = some out) (D : Dyn c m loc ρ hs s.heap) (xf : VR ρ fv u) (xs : VRs ρ args us) :
    Tr c m loc Ar (call u us) VR ρ s out := by
  intro Q E P
  unfold stepCall at h
  cases xf with
  | glob a =>
    dsimp only at h
    cases q2 : Nat.beq a 405 with
    | true => rw [q2] at h; rw [Nat.eq_of_beq_eq_true q2]; exact XD O A h D xs _ _ P
    | false =>
      rw [q2] at h
      dsimp only at h
      cases q3 : fnAt a fnL with
      | some f =>
        rw [q3] at h
        obtain ⟨hf, rfl⟩ := fn_mem q3
        have h1 := A.dp
        have h2 := A.un
        exact wpAny_call (callFn_code (IS n (Nat.le_refl n)) O hf A.fr (by omega) (by omega) A.hd h D xs P.toX)
      | none =>
        rw [q3] at h
        dsimp only at h
        cases q4 : clsAt a with
        | none => rw [q4] at h; cases h
        | some ini =>
          rw [q4] at h
          dsimp only at h
          obtain ⟨k1, k2, k3⟩ := cls_of (P := c.w.params) q4
          obtain ⟨own, fo, D⟩ := D
          refine call_cls D.F O.top.X D.N k1 k2 k3 fun x dx h' F N hlt hdx => ?_
          have Dn : Dyn c m loc (ρ ++ [x]) ⟨(hs.n, .inst a []) :: hs.H, hs.n + 1⟩ h' := D.add (l := [(x, instObj a dx), (dx, dictOf [] 0)]) F N (fun p hp q hq => by
            have := hlt q hq
            rcases List.mem_cons.mp hp with rfl | hp
            · exact Nat.ne_of_lt (Nat.lt_trans this hdx)
            · rw [List.mem_singleton.mp hp]; exact Nat.ne_of_lt this) (by simp; exact Ne.symm (Nat.ne_of_lt hdx)) (.inst .nil)
          have xn : VR (ρ ++ [x]) (.ref hs.n) (.ref x) := .ref (by rw [← D.n]; simp)
          cases q5 : (run n).call c.cc.hand (.glob ini) (.ref hs.n :: args) ⟨(hs.n, .inst a []) :: hs.H, hs.n + 1⟩ with
          | none => rw [q5] at h; cases h
          | some r5 =>
            rw [q5] at h
            cases n with
            | zero => cases q5
            | succ k =>
              rw [run_succ] at q5
              have q5 : stepCall (run k) c.cc.hand (.glob ini) (.ref hs.n :: args) ⟨(hs.n, .inst a []) :: hs.H, hs.n + 1⟩ = some r5 := q5
              have hi : ini ≠ 405 ∧ ∃ f, fnAt ini fnL = some f := by
                have q4' := q4
                unfold clsAt at q4'
                split at q4' <;> first | cases q4' | skip
                all_goals exact ⟨by decide, _, by rfl⟩
              obtain ⟨i2, f, i3⟩ := hi
              obtain ⟨hf, hat⟩ := fn_mem i3
              unfold stepCall at q5
              dsimp only at q5
              rw [show Nat.beq ini 405 = false from by rw [← Bool.not_eq_true]; exact fun z => i2 (Nat.eq_of_beq_eq_true z), i3] at q5
              dsimp only at q5
              obtain ⟨w1, w2, w3⟩ := under_cls a us
              have h1 := A.dp
              have h2 := A.un
              rw [← hat]
              refine callFn_code (s := { s with heap := h' }) (IS k (Nat.le_succ k)) O hf ?_ ?_ ?_ ?_ q5 Dn (.cons xn (xs.ext [x])) ?_
              · show pushEnvs (Code.envs (.builtin "type.__call__" ⟨.ref a :: us, []⟩)) Ar.frames = _
                rw [w3]; exact A.fr
              · show Ar.depth + Code.weight (.builtin "type.__call__" ⟨.ref a :: us, []⟩) + 1 + k < 990
                rw [w1]; omega
              · show Ar.units + Code.cUnits (.builtin "type.__call__" ⟨.ref a :: us, []⟩) + 3 + 20 * k < 9800
                rw [w2]; omega
              · exact (show HandOk c _ Ar from A.hd.ext _)
              · cases r5 with
                | exc msg hs' => cases h
                | ok v hs' =>
                  cases v with
                  | none =>
                    cases h
                    intro l h2 tk u2 D2 x2
                    cases x2
                    refine ⟨rfl, ?_⟩
                    rw [List.append_assoc] at D2
                    exact P _ h2 tk _ D2 (by have := xn.ext l; rwa [List.append_assoc] at this)
                  | _ => cases h
  | bi b =>
    dsimp only at h
    split at h
    · rename_i x q
      have q := beq_iff_eq.mp q
      subst q
      cases xs with
      | cons x1 x2 =>
        cases x2
        unfold lenV at h
        obtain ⟨own, fo, D⟩ := D
        cases q1 : lstGet x hs.H with
        | some ys =>
          rw [q1] at h
          dsimp only at h
          cases q2 : Nat.ble ys.length 1000 with
          | false => rw [q2] at h; cases h
          | true =>
            rw [q2] at h; cases h
            have z := ble_le q2
            obtain ⟨l, its, rfl, hv, hl⟩ := D.isList q1 x1
            refine Calls.call_len_list hl (by rw [List.size_toArray, hv.length]; omega) ?_
            rw [List.size_toArray, hv.length]
            exact P.ok D.toks (.int _ _) _
        | none =>
          rw [q1] at h
          dsimp only at h
          cases q3 : tupGet x hs.H with
          | none => rw [q3] at h; cases h
          | some ys =>
            rw [q3] at h
            dsimp only at h
            cases q2 : Nat.ble ys.length 1000 with
            | false => rw [q2] at h; cases h
            | true =>
              rw [q2] at h; cases h
              have z := ble_le q2
              obtain ⟨l, its, rfl, hv, hl⟩ := D.isTup O q3 x1
              refine PyProof.Rows.len_tuple hl (by rw [List.size_toArray, hv.length]; omega) ?_
              rw [List.size_toArray, hv.length]
              exact P.ok D.toks (.int _ _) _
    · cases h
  | ty t =>
    dsimp only at h
    split at h
    · rename_i x q
      have q := beq_iff_eq.mp q
      subst q
      cases xs with
      | cons x1 x2 =>
        cases x2
        obtain ⟨own, fo, D⟩ := D
        split at h
        · rename_i ys q3
          cases h
          obtain ⟨l, its, e, hv, hl⟩ := D.isTup O q3 x1
          subst e
          exact call_tuple_same hl (P.ok D.toks x1 s.toks)
        · cases h
    · split at h
      · rename_i k q _
        have q := beq_iff_eq.mp q
        subst q
        split at h
        · rename_i q2
          cases h
          cases xs with
          | cons x1 x2 =>
            cases x2
            cases x1
            have z := ble_le q2
            refine PySem.P.str_of_int (digit_log k z) ?_
            have e : (Value.str (Str.ofString (toString ((k : Nat) : Int))) s.toks) = .str (digit k) s.toks := by rw [digit_is k z]
            exact e ▸ P.ok D (.str _ _) _
        · cases h
      · cases h
  | _ => cases h
end
/-- all of the evaluator -/
theorem all_sound (XA : ∀ w, ExcAt w) (XR : RaiseSnd) (XD : DrawSnd) : ∀ n, Snd (run n) n ∧ SndSs (run n) n := by
  intro n
  induction n using Nat.strongRecOn with
  | ind n ih =>
    cases n with
    | zero => exact ⟨⟨fun _ _ h => (nomatch h), fun _ _ h => (nomatch h), fun _ _ h => (nomatch h)⟩, fun _ _ _ h => (nomatch h)⟩
    | succ n =>
      have IE : ∀ j, j ≤ n → Snd (run j) j := fun j hj => (ih j (Nat.lt_succ_of_le hj)).1
      have IS : ∀ j, j ≤ n → SndSs (run j) j := fun j hj => (ih j (Nat.lt_succ_of_le hj)).2
      refine ⟨⟨?_, ?_, ?_⟩, stepSs_sound XR IE IS⟩
      · intro c m loc ρ hs s Ar e out O A h D
        rw [run_succ] at h
        exact stepE_sound XA (sndLc IE) (IE n (Nat.le_refl n)) O A h D
      · intro c m loc ρ hs s Ar e out O A h D
        rw [run_succ] at h
        exact stepT_sound (IE n (Nat.le_refl n)) O A h D
      · intro c m loc ρ hs s Ar f u args us out O A h D xf xs
        rw [run_succ] at h
        exact stepCall_sound XD IS O A h D xf xs
end Mine
end
section
open PySem PySem.W PyProof.Rows
set_option Elab.async false
namespace Mine
set_option maxRecDepth 100000
/-! a caught exception's word -/
theorem exc_facts (P : Params) : (findIn (KF P) (.ref 60) "__getattribute__" == some (some (.builtin "BaseException.__getattribute__")) && (findIn (KF P) (.ref 60) "__getattr__" == some none && (hasDictIn (KF P) 60 && findIn (KF P) (.ref 60) "what" == some none))) = true := by kernel_rfl
theorem excAt (w : World) : ExcAt w := by
  intro A E Q s e d oe od vs msg expr X he hc hdc hd hod hx h
  obtain ⟨t, hg⟩ := hx
  have f := exc_facts w.params
  simp only [Bool.and_eq_true, beq_iff_eq] at f
  obtain ⟨f1, f2, f3, f4⟩ := f
  have I : InstAt s.heap e oe 60 (some od) := ⟨he, hc, by unfold notCls; rw [hd], by rw [hdc]; exact hod⟩
  have hC := X _ _ (cls60 w.params)
  obtain ⟨hh, g, dr, tk, os⟩ := s
  dsimp only at X he hod I hC h
  have L0 := I.type (M := model pw w)
  have L1 := looks_findIn (M := model pw w) X f1
  have L2 := looks_findIn (M := model pw w) X f2
  have L3 := looks_find (M := model pw w) X I (findObj_own f3 f4 rfl hg)
  unfold getAttr getAttrBy
  refine wpAny_bind (wpAny_mkText (wpAny_holding (wpAny_bind (L0.at (wpAny_bind (L1.at ?_))))))
  dsimp only
  rw [if_neg (by decide +kernel)]
  unfold getAttrByItsOwn hookBefore
  refine wpAny_bind ?_
  rw [if_pos (show onTheHeap (.ref 60) = true from rfl)]
  refine L2.at (wpAny_bind (wpAny_attempt (wpAny_holding ?_)))
  unfold callGetattribute
  rw [if_neg (by cases expr <;> decide)]
  unfold boundAndCalled
  have f3' := PySem.F.attrBase_Exception.ga.bind (.ref e)
  rw [f3']
  refine wpAny_bind (wpAny_pure ?_)
  have hk : builtinKind "BaseException.__getattribute__" = some .slot := by decide +kernel
  have hsplit : splitId "BaseException.__getattribute__" = some ("BaseException", "__getattribute__") := by decide +kernel
  have hcB : (Value.ref 60 :: [Value.ref 47, .type "Exception", .type "BaseException", .type "object"]).contains (.type "BaseException") = true := by decide +kernel
  have ha := PySem.F.args_bexc_ga (.ref e) (.str "what" tk)
  have hT : Looks (model pw w) hh (isInstance (.ref e) (.type "BaseException")) true := by
    unfold isInstance
    refine L0.andThen ?_
    exact fun A Q E s k q => wpAny_isSubtype_exc (k _ _ hC) (by rw [hcB]; exact q)
  refine wpAny_call (codeAny_call_builtin PySem.F.attrBase_Exception.ga.plain PySem.F.entry_bexc_ga (@check_slot (model pw w) _ _ ⟨hh, g, dr, tk + 1, os⟩ "BaseException.__getattribute__" "BaseException" "__getattribute__" (.ref e) [Value.str "what" tk] [] _ hk hsplit hT ha ?_))
  refine wpAny_bind (m := slotArgs "__getattribute__" 1 ⟨[.ref e, Value.str "what" tk], []⟩) (wpAny_pure (a := (Value.ref e, [Value.str "what" tk])) ?_)
  refine wpAny_bind (m := Builtin.ObjectAttr.attrName (Value.str "what" tk)) (wpAny_pure (wpAny_bind (L0.at (wpAny_bind (L3.at ?_)))))
  refine wpAny_pure ?_
  exact wpAny_pure (h _ _)
end Mine
end
section
open PySem PySem.W PyProof.Rows
set_option Elab.async false
namespace Mine
set_option maxRecDepth 100000
/-! the making of an exception: its frame, by hand -/
noncomputable def f37 : FnI := ⟨37, "__init__", "LedgerError.__init__", 2, (some 0), (.ref 30), "ledgerspeak.errors", 194, 36⟩
noncomputable abbrev l37 (e : Addr) (msg : Str) : Loc := [(("self" : Str), AV.glob e), (("what" : Str), AV.str msg), (("at" : Str), AV.glob 29)]
theorem f37_mem : f37 ∈ fnL := List.mem_cons_self
theorem f37_binds (e : Addr) (msg : Str) : binds f37 [.glob e, .str msg] = some (l37 e msg) := by kernel_rfl
theorem f37_loc (e : Addr) (msg : Str) : locOf f37.scope.names (l37 e msg) = (l37 e msg) := by kernel_rfl
theorem f37_cells (n : Nat) : cellsAt f37.scope.names n = [] := by kernel_rfl
theorem f37_self (cs : List (Str × Nat)) (hd : Option Nat) (e : Addr) (msg : Str) (H : AHeap) : evName ⟨fun x => klook x f37.scope.names, cs, hd⟩ (l37 e msg) "self" H = some (.glob e) := by kernel_rfl
theorem f37_what (cs : List (Str × Nat)) (hd : Option Nat) (e : Addr) (msg : Str) (H : AHeap) : evName ⟨fun x => klook x f37.scope.names, cs, hd⟩ (l37 e msg) "what" H = some (.str msg) := by kernel_rfl
theorem f37_at (cs : List (Str × Nat)) (hd : Option Nat) (e : Addr) (msg : Str) (H : AHeap) : evName ⟨fun x => klook x f37.scope.names, cs, hd⟩ (l37 e msg) "at" H = some (.glob 29) := by kernel_rfl
theorem f37_exc (cs : List (Str × Nat)) (hd : Option Nat) (l : Loc) (H : AHeap) : evName ⟨fun x => klook x f37.scope.names, cs, hd⟩ l "Exception" H = some (.ty "Exception") := by kernel_rfl
theorem exc_meth (P : Params) : findCls (KF P) (.type "Exception") (.type "type") "__init__" = some (.val (.builtin "Exception.__init__")) := by kernel_rfl
section
variable {c : FC} {m : Str → Option Value} {loc : Loc} {ρ : List Addr} {hs : HS} {h h' : Heap} {own fo : List (Addr × Obj)}
theorem DynI.moved (D : DynI c m loc ρ hs h own fo) (hk : ∀ b o, (b = c.L ∨ c.G.get? b ≠ none ∨ ∃ p ∈ own ++ (c.other ++ fo), p.1 = b) → h.get? b = some o → h'.get? b = some o) : DynI c m loc ρ hs h' own fo := by
  obtain ⟨oL, es, ep, eL, r⟩ := D.F.ns
  exact ⟨⟨⟨oL, es, ep, hk _ _ (.inl rfl) eL, r⟩, fun b o e => hk b o (.inr (.inl (by rw [e]; simp))) (D.F.keep b o e), D.F.above⟩, fun p hp => ⟨hk _ _ (.inr (.inr ⟨p, hp, rfl⟩)) (D.N p hp).1, (D.N p hp).2⟩, D.nd, D.led, D.fo, D.n, D.loc, D.cells⟩
theorem DynI.movedBut (D : DynI c m loc ρ hs h own fo) {e : Addr} (h1 : e ≠ c.L) (h2 : c.G.get? e = none) (h3 : ∀ p ∈ own ++ (c.other ++ fo), p.1 ≠ e) (hk : ∀ b o, b ≠ e → h.get? b = some o → h'.get? b = some o) : DynI c m loc ρ hs h' own fo :=
  D.moved fun b o hb e' => hk b o (fun z => by
    subst z
    rcases hb with hb | hb | ⟨p, hp, hb⟩
    · exact h1 hb
    · exact hb h2
    · exact h3 p hp hb) e'
end
theorem raiseSnd : RaiseSnd := by
  intro n c m loc ρ hs s Ar msg t Q E O A hh D K
  obtain ⟨own, fo, D⟩ := D
  obtain ⟨h0, g, dr, tk0, os⟩ := s
  have X0 : (KF c.w.params).In h0 := O.top.X.keeps D.F.keep
  have hsz : ([Value.str msg t] : List Value).length ≤ sizeLine := by rw [sizeLine_eq]; exact Nat.le_trans (by show 1 ≤ 100; decide) (by decide)
  have up : ∀ b o, h0.get? b = some o → ((h0.push (tupNew [.str msg t])).push (excNew h0.objs.size)).get? b = some o := fun b o e => Heap.get?_push_of_some _ (Heap.get?_push_of_some _ e)
  have he1 : ((h0.push (tupNew [.str msg t])).push (excNew h0.objs.size)).get? (h0.objs.size + 1) = some (excNew h0.objs.size) := by heap_get
  refine wpAny_call (exc_core X0 hsz ?_)
  have D1 := D.grow (h' := (h0.push (tupNew [.str msg t])).push (excNew h0.objs.size)) up
  obtain ⟨q1, q2, q3⟩ := fresh_facts (s := ⟨h0, g, dr, tk0, os⟩) D (a := h0.objs.size + 1) (Nat.le_succ _)
  generalize hH1 : (h0.push (tupNew [.str msg t])).push (excNew h0.objs.size) = h1 at he1 D1 up ⊢
  generalize hE : h0.objs.size + 1 = e at he1 q1 q2 q3 ⊢
  obtain ⟨w1, w2, w3⟩ := under_cls 60 [.str msg t]
  have ad := A.dp
  refine fn_raw (Ar := Ar.under (.builtin "type.__call__" ⟨.ref 60 :: [.str msg t], []⟩)) (s := ⟨h1, g, dr, tk0, os⟩) O f37_mem (args := [.glob e, .str msg]) (by show Ar.depth + Code.weight (.builtin "type.__call__" ⟨.ref 60 :: [.str msg t], []⟩) < 1000; rw [w1]; omega) (f37_binds e msg) D1 (.cons (.glob _) (.cons (.str _ _) .nil)) fun h2 tk2 m2 oL NL old ⟨cells, _, hcm, D2⟩ => ?_
  rw [f37_loc] at D2
  have O2 : (c.call f37 m h1.objs.size hs.n).Ok := call_ok O (fn_ok f37_mem)
  have he2 := old _ _ he1
  refine wpAny_execs_cons ?_
  refine wpAny_Expr_any ?_ (by rfl) (by rfl)
  refine method_road (by rfl) (by rfl) (by decide) (by rfl) ?_
  refine name_sound (s := ⟨h2, g, dr, tk2, os⟩) O2 D2.toks (f37_exc _ _ _ _) fun u xu pl => ?_
  cases xu
  refine method_type D2.F O.top.X (by kernel_rfl) (by decide +kernel) (exc_meth c.w.params) (by decide) ?_
  have X2 : (KF c.w.params).In h2 := O.top.X.keeps D2.F.keep
  refine callWith_of (P := (KF c.w.params).In) (by rfl) (keep_bi c.w _ _) (Calls.evalArgs_plain (Calls.spliced_cons (name_sound (s := { heap := h2, gens := g, drawn := dr, toks := tk2 + 1, os := os }) O2 D2.toks (f37_self _ _ e msg _) fun u1 x1 => Calls.spliced_cons (name_sound (s := { heap := h2, gens := g, drawn := dr, toks := tk2 + 1, os := os }) O2 D2.toks (f37_what _ _ e msg _) fun u2 x2 => Calls.spliced_nil ⟨X2, ?_⟩))))
  cases x1
  cases x2
  rename_i t2
  have elt : e < h1.objs.size := Heap.lt_size he1
  have r1 : e ≠ h1.objs.size := Nat.ne_of_lt elt
  have r3 : ∀ p ∈ (cells ++ own) ++ (c.other ++ (c.L, oL) :: fo), p.1 ≠ e := fun p hp => by
    rcases List.mem_append.mp hp with hp | hp
    · rcases List.mem_append.mp hp with hp | hp
      · exact Nat.ne_of_gt (Nat.lt_trans elt (hcm p hp))
      · exact q3 p (List.mem_append_left _ hp)
    · rcases List.mem_append.mp hp with hp | hp
      · exact q3 p (List.mem_append_right _ (List.mem_append_left _ hp))
      · rcases List.mem_cons.mp hp with rfl | hp
        · exact Ne.symm q1
        · exact q3 p (List.mem_append_right _ (List.mem_append_right _ hp))
  refine exc_init X2 he2 fun h3 t3 k3 he3 => ?_
  have D3 := D2.movedBut (h' := h3) r1 q2 r3 k3
  have X3 : (KF c.w.params).In h3 := O.top.X.keeps D3.F.keep
  -- the word
  refine wpAny_execs_cons ?_
  refine plainObj_wpAny_Assign_Attribute ?_ (by rfl)
  refine name_sound (s := { heap := h3, gens := g, drawn := dr, toks := tk2 + 1, os := os }) O2 D3.toks (f37_what _ _ e msg _) fun u x => ?_
  cases x
  rename_i t4
  refine name_sound (s := { heap := h3, gens := g, drawn := dr, toks := tk2 + 1, os := os }) O2 D3.toks (f37_self _ _ e msg _) fun u x => ?_
  cases x
  have I3 : h3.Inst e 60 (fun _ => none) := ⟨excNew t3, he3, rfl, fun _ z => (by cases z), .inl ⟨rfl, fun _ => rfl⟩⟩
  refine exc_set X3 (exc_what _) I3 (fun h4 tk4 ⟨I4, k4, o4⟩ => ?_) Within.nil (by decide)
  obtain ⟨oe4, dx, he4, hc4, hd4, hdx4, hdn4, _⟩ := o4 _ he3
  have D4 := D3.movedBut (h' := h4) r1 q2 r3 fun b o hb e' => k4 b o hb (fun o₀ dx h0 hd0 => by rw [he3] at h0; cases h0; cases hd0) e'
  have X4 : (KF c.w.params).In h4 := O.top.X.keeps D4.F.keep
  have dxge : h3.objs.size ≤ dx := hdn4 rfl
  -- the place
  refine wpAny_execs_cons ?_
  refine plainObj_wpAny_Assign_Attribute ?_ (by rfl)
  refine name_sound (s := { heap := h4, gens := g, drawn := dr, toks := tk4, os := os }) O2 D4.toks (f37_at _ _ e msg _) fun u x => ?_
  cases x
  refine name_sound (s := { heap := h4, gens := g, drawn := dr, toks := tk4, os := os }) O2 D4.toks (f37_self _ _ e msg _) fun u x => ?_
  cases x
  refine exc_set X4 (exc_at _) I4 (fun h5 tk5 ⟨I5, k5, o5⟩ => ?_) (Within.cons "what" _ Within.nil) (by decide)
  obtain ⟨oe5, dx5, he5, hc5, hd5, hdx5, _, hdd5⟩ := o5 _ he4
  have hdd := hdd5 _ hdx4
  rw [hdd] at hdx5
  have lt3 : ∀ p ∈ (cells ++ own) ++ (c.other ++ (c.L, oL) :: fo), p.1 < h3.objs.size := fun p hp => Heap.lt_size (D3.N p hp).1
  have D5 : DynI (c.call f37 m h1.objs.size hs.n) m2 (l37 e msg) _ _ h5 (cells ++ own) ((c.L, oL) :: fo) := D4.moved fun b o hb e' => k5 b o (fun z => by
      subst z
      rcases hb with hb | hb | ⟨p, hp, hb⟩
      · exact r1 hb
      · exact hb q2
      · exact r3 p hp hb) (fun o₀ dy h0 hd0 => by
      rw [he4] at h0; cases h0
      rw [hdx4] at hd0; cases hd0
      rcases hb with hb | hb | ⟨p, hp, hb⟩
      · have := D3.F.ns.lt
        rw [hb]; exact Nat.ne_of_lt (Nat.lt_of_lt_of_le this dxge)
      · obtain ⟨ob, hob⟩ : ∃ ob, c.G.get? b = some ob := by
          cases z : c.G.get? b with
          | none => exact absurd z hb
          | some ob => exact ⟨ob, rfl⟩
        exact Nat.ne_of_lt (Nat.lt_of_lt_of_le (Heap.lt_size (D3.F.keep _ _ hob)) dxge)
      · rw [← hb]; exact Nat.ne_of_lt (Nat.lt_of_lt_of_le (lt3 p hp) dxge)) e'
  refine wpAny_execs_nil ⟨rfl, ?_⟩
  refine K e h5 tk5 ?_
  -- what flies
  obtain ⟨oI, heI, hcI, _, hdI⟩ := I5
  rw [he5] at heI; cases heI
  obtain ⟨od, eod, hwhat⟩ : ∃ od, h5.get? dx = some od ∧ lookIn "what" od = some (some (.str msg t4)) := by
    rcases hdI with ⟨z, _⟩ | ⟨d', hd', _, N1⟩
    · rw [hdx5] at z; cases z
    · rw [hdx5] at hd'; cases hd'
      obtain ⟨od, es, ep, e1, e2, e3, _, e4⟩ := N1
      refine ⟨od, e1, ?_⟩
      have := e4 "what"
      dsimp only at this
      rw [if_neg (by decide), if_pos rfl] at this
      unfold nsFind findBy at this
      unfold lookIn
      rw [e2]
      dsimp only
      rw [← Array.find?_toList] at this
      cases z : es.toList.find? (fun e => e.key.isStr "what") with
      | none => rw [z] at this; cases this
      | some en => rw [z] at this; simp at this; simp [this]
  have Dn : ∀ p ∈ own ++ (c.other ++ fo), h5.get? p.1 = some p.2 ∧ p.1 < h3.objs.size := fun p hp => by
    have hp' : p ∈ (cells ++ own) ++ (c.other ++ (c.L, oL) :: fo) := by
      rcases List.mem_append.mp hp with hp | hp
      · exact List.mem_append_left _ (List.mem_append_right _ hp)
      · rcases List.mem_append.mp hp with hp | hp
        · exact List.mem_append_right _ (List.mem_append_left _ hp)
        · exact List.mem_append_right _ (List.mem_append_right _ (.tail _ hp))
    exact ⟨(D5.N p hp').1, lt3 p hp'⟩
  have hcL : (c.L, oL) ∈ (cells ++ own) ++ (c.other ++ (c.L, oL) :: fo) := by simp
  have eL5 := (D5.N _ hcL).1
  have nsL : h5.Ns c.L m := NL.ns eL5
  have dxL : dx ≠ c.L := Nat.ne_of_gt (Nat.lt_of_lt_of_le (lt3 _ hcL) dxge)
  have dxG : c.G.get? dx = none := Heap.get?_none_of_le (Nat.le_trans (Nat.le_of_lt (Nat.lt_of_le_of_lt D.F.above (lt3 _ hcL))) dxge)
  have fsIn : ∀ {fs : List (Addr × (Str → Option Value))} {fo : List (Addr × Obj)}, FoR fs fo → ∀ p ∈ fs, ∃ o, (p.1, o) ∈ fo ∧ NsO o p.2 := by
    intro fs fo R
    induction R with
    | nil => exact fun _ hp => (nomatch hp)
    | cons hN _ ih =>
      intro p hp
      rcases List.mem_cons.mp hp with rfl | hp
      · exact ⟨_, .head _, hN⟩
      · obtain ⟨o, a, b⟩ := ih p hp; exact ⟨o, .tail _ a, b⟩
  have foMap : ∀ {fs : List (Addr × (Str → Option Value))} {fo : List (Addr × Obj)}, FoR fs fo → fo.map (·.1) = fs.map (·.1) := by
    intro fs fo R
    induction R with
    | nil => rfl
    | cons _ _ ih => rw [List.map_cons, List.map_cons, ih]
  have hfs : ∀ p ∈ c.fs, h5.Ns p.1 p.2 ∧ c.G.get? p.1 = none ∧ p.1 ≠ e ∧ p.1 ≠ dx ∧ p.1 ≠ c.L := fun p hp => by
    obtain ⟨o, a, b⟩ := fsIn D.fo p hp
    have hm : (p.1, o) ∈ own ++ (c.other ++ fo) := List.mem_append_right _ (List.mem_append_right _ a)
    have z := Dn _ hm
    exact ⟨b.ns z.1, (D.N _ hm).2.2, q3 _ hm, Nat.ne_of_lt (Nat.lt_of_lt_of_le z.2 dxge), (D.N _ hm).2.1⟩
  have inAs : ∀ b, b ∈ (e :: c.L :: c.fs.map (·.1)) → b = e ∨ b = c.L ∨ ∃ p ∈ c.fs, p.1 = b := fun b hb => by
    rcases List.mem_cons.mp hb with rfl | hb
    · exact .inl rfl
    · rcases List.mem_cons.mp hb with rfl | hb
      · exact .inr (.inl rfl)
      · obtain ⟨p, hp, e⟩ := List.mem_map.mp hb
        exact .inr (.inr ⟨p, hp, e⟩)
  have ndc : ((own ++ c.other).map (·.1) ++ fo.map (·.1)).Nodup := by have := D.nd; rw [← List.append_assoc, List.map_append] at this; exact this
  have offAs : ∀ q ∈ own ++ c.other, q.1 ∉ (e :: c.L :: c.fs.map (·.1)) := fun q hq hm => by
    have hq' : q ∈ own ++ (c.other ++ fo) := by rw [← List.append_assoc]; exact List.mem_append_left _ hq
    rcases inAs _ hm with h | h | ⟨p, hp, h⟩
    · exact q3 q hq' h
    · exact (D.N q hq').2.1 h
    · rw [List.nodup_append] at ndc
      refine ndc.2.2 q.1 (List.mem_map.mpr ⟨q, hq, rfl⟩) p.1 ?_ h.symm
      rw [foMap D.fo]; exact List.mem_map.mpr ⟨p, hp, rfl⟩
  have frs : ∀ {es : List Env} {fs : List (Addr × (Str → Option Value))}, OuterOk es fs → (∀ p ∈ fs, h5.Ns p.1 p.2 ∧ (hideAll h5 (e :: c.L :: c.fs.map (·.1))).get? p.1 = none) → h5.FunFrames (hideAll h5 (e :: c.L :: c.fs.map (·.1))) es := by
    intro es fs R
    induction R with
    | nil => exact fun _ => trivial
    | cons hk hf _ ih =>
      intro H
      obtain ⟨⟨o, es', ep, ho, hdo, _⟩, hz⟩ := H _ (.head _)
      exact ⟨by rw [hk]; decide, ⟨_, o, hf, hz, ho, fun vs z => by rw [hdo] at z; cases z⟩, ih fun p hp => H p (.tail _ hp)⟩
  have fvs : oe5.data = .fields #[.ref t3, .none, .none, .none, .bool false, .none] := by rw [hd5, hd4]
  have fly5 : FlyN (hideAll h5 (e :: c.L :: c.fs.map (·.1))) (c.fenv :: c.outer) e dx h5 := ⟨fun b o z => of_hideAll _ z, hideAll_none _ (.head _), frs (.cons O.fK O.fL O.out) (fun p hp => by
      rcases List.mem_cons.mp hp with rfl | hp
      · exact ⟨nsL, hideAll_none _ (.tail _ (.head _))⟩
      · exact ⟨(hfs p hp).1, hideAll_none _ (.tail _ (.tail _ (List.mem_map.mpr ⟨p, hp, rfl⟩)))⟩), oe5, _, he5, hcI, hdx5, fvs, rfl, rfl⟩
  refine ⟨hideAll h5 (e :: c.L :: c.fs.map (·.1)), own, dx, od, ⟨fun b o hb => ?_, fun q hq => ?_, .inr ?_, ⟨t4, hwhat⟩, nsL, fun p hp => (hfs p hp).1, ?_, D.led, D.n, D.cells, D.F.above, fun p hp => (hfs p hp).2.1⟩, ?_⟩
  · refine hideAll_get _ (D5.F.keep b o hb) fun hm => ?_
    rcases inAs _ hm with h | h | ⟨p, hp, h⟩
    · rw [h, q2] at hb; cases hb
    · rw [h, Heap.get?_none_of_le D.F.above] at hb; cases hb
    · rw [← h, (hfs p hp).2.1] at hb; cases hb
  · rcases List.mem_cons.mp hq with rfl | hq
    · refine ⟨hideAll_get _ eod fun hm => ?_, dxG⟩
      rcases inAs _ hm with h | h | ⟨p, hp, h⟩
      · exact absurd h (Nat.ne_of_gt (Nat.lt_of_lt_of_le (Heap.lt_size he3) dxge))
      · exact dxL h
      · exact (hfs p hp).2.2.2.1 h
    · have hq' : q ∈ own ++ (c.other ++ fo) := by rw [← List.append_assoc]; exact List.mem_append_left _ hq
      exact ⟨hideAll_get _ (Dn q hq').1 (offAs q hq), (D.N q hq').2.2⟩
  · exact fly5
  · rw [List.nodup_append]
    refine ⟨?_, ?_, ?_⟩
    · rw [List.nodup_cons]
      refine ⟨fun hm => ?_, ?_⟩
      · obtain ⟨p, hp, h⟩ := List.mem_map.mp hm
        exact (hfs p hp).2.2.2.2 h
      · rw [← foMap D.fo]; exact (List.nodup_append.mp ndc).2.1
    · rw [List.map_cons, List.nodup_cons]
      refine ⟨fun hm => ?_, (List.nodup_append.mp ndc).1⟩
      obtain ⟨q, hq, h⟩ := List.mem_map.mp hm
      have hq' : q ∈ own ++ (c.other ++ fo) := by rw [← List.append_assoc]; exact List.mem_append_left _ hq
      have h : q.1 = dx := h
      exact absurd h (Nat.ne_of_lt (Nat.lt_of_lt_of_le (Dn q hq').2 dxge))
    · intro a ha b hb z
      subst z
      obtain ⟨q, hq, rfl⟩ := List.mem_map.mp hb
      have hm : q.1 ∈ (e :: c.L :: c.fs.map (·.1)) := .tail _ ha
      rcases List.mem_cons.mp hq with rfl | hq
      · rcases inAs _ hm with h | h | ⟨p, hp, h⟩
        · exact absurd h (Nat.ne_of_gt (Nat.lt_of_lt_of_le (Heap.lt_size he3) dxge))
        · exact dxL h
        · exact (hfs p hp).2.2.2.1 h
      · exact offAs q hq hm
  · exact fly5
end Mine
end
section
open PySem PySem.W PyProof.Rows
set_option Elab.async false
namespace Mine
set_option maxRecDepth 100000
/-! the draw -/
theorem set_at {prog : Program} {w : World} {A : Around} {E : Value → Shared → Prop} {s : Shared} {h₀ : Heap} {L D : Addr} {m : Str → Option Value} {news news' : List (Addr × Obj)} {vs : List Value} {n : Nat} {k : Int} {t : Tok} {v : Value} {Q : Unit → Shared → Prop}
    (F : Fr h₀ L s.heap m) (N : News h₀ L s.heap news) (U : Upd D (listOf vs.toArray n) (listOf (vs.set k.toNat v).toArray n) news news') (h0 : 0 ≤ k) (h1 : k < vs.length) (hfit : k < 2 ^ 63) (h : ∀ h', Fr h₀ L h' m → News h₀ L h' news' → Q () { s with heap := h' }) :
    wpAny (model prog w) A (setItem (.ref D) (.int k t) v) Q E s := by
  obtain ⟨pre, post, rfl, rfl, a, b⟩ := U.split
  have z := N (D, listOf vs.toArray n) (List.mem_append.mpr (.inr (.head _)))
  have hs : vs.toArray.size = vs.length := List.size_toArray ..
  refine ki_setAt z.1 h0 hfit (by omega) (h _ (F.change (Heap.SameBut.update ..) z.2.1 z.2.2) (ki_turn _ N a b ?_ ?_))
  · show vs.toArray.setIfInBounds k.toNat v = (vs.set k.toNat v).toArray
    apply Array.toList_inj.mp
    simp
  · simp
noncomputable def f405 : FnI := ⟨405, "_law_draw", "_law_draw", 41, none, .none, "law_og0096_01", 743, 404⟩
theorem f405_mem : f405 ∈ fnL := List.mem_of_getElem? (i := 32) (by kernel_rfl)
noncomputable abbrev l405 (i : Nat) (k : Int) : Loc := [(("source" : Str), AV.ref i), (("limit" : Str), AV.int k)]
theorem f405_binds (i : Nat) (k : Int) : binds f405 [.ref i, .int k] = some (l405 i k) := by kernel_rfl
theorem f405_loc (i : Nat) (k : Int) : locOf f405.scope.names (l405 i k) = l405 i k := by kernel_rfl
theorem f405_cells (n : Nat) : cellsAt f405.scope.names n = [] := by kernel_rfl
noncomputable abbrev k405 (cs : List (Str × Nat)) (hd : Option Nat) : CC := ⟨fun x => klook x f405.scope.names, cs, hd⟩
theorem f405_source (cs : List (Str × Nat)) (hd : Option Nat) (i : Nat) (k : Int) (l : Loc) (H : AHeap) : evName (k405 cs hd) (l405 i k ++ l) "source" H = some (.ref i) := by kernel_rfl
theorem f405_limit (cs : List (Str × Nat)) (hd : Option Nat) (i : Nat) (k : Int) (l : Loc) (H : AHeap) : evName (k405 cs hd) (l405 i k ++ l) "limit" H = some (.int k) := by kernel_rfl
noncomputable abbrev c405 (c : Addr) : Str × AV := ("cells", .glob c)
noncomputable abbrev a405 (n : Int) : Str × AV := ("at", .int n)
theorem f405_cellsN (cs : List (Str × Nat)) (hd : Option Nat) (i : Nat) (k : Int) (c : Addr) (l : Loc) (H : AHeap) : evName (k405 cs hd) (l405 i k ++ c405 c :: l) "cells" H = some (.glob c) := by kernel_rfl
theorem f405_at (cs : List (Str × Nat)) (hd : Option Nat) (i : Nat) (k : Int) (c : Addr) (n : Int) (H : AHeap) : evName (k405 cs hd) (l405 i k ++ [c405 c, a405 n]) "at" H = some (.int n) := by kernel_rfl
theorem f405_len (cs : List (Str × Nat)) (hd : Option Nat) (l : Loc) (H : AHeap) : evName (k405 cs hd) l "len" H = some (.bi "len") := by kernel_rfl
theorem f405_isC (cs : List (Str × Nat)) (hd : Option Nat) : isLoc (k405 cs hd) "cells" = true := by kernel_rfl
theorem f405_isA (cs : List (Str × Nat)) (hd : Option Nat) : isLoc (k405 cs hd) "at" = true := by kernel_rfl
theorem f405_putC (i : Nat) (k : Int) (c : Addr) : fput "cells" (.glob c) (l405 i k) = l405 i k ++ [c405 c] := by kernel_rfl
theorem f405_putA (i : Nat) (k : Int) (c : Addr) (n : Int) : fput "at" (.int n) (l405 i k ++ [c405 c]) = l405 i k ++ [c405 c, a405 n] := by kernel_rfl
theorem ints_get : ∀ {is : List Int} {vs : List Value}, IntsV is vs → ∀ j, j < is.length → ∃ t, vs[j]? = some (.int (is.getD j 0) t)
  | _, _, .nil, j, h => absurd h (Nat.not_lt_zero _)
  | _, _, .cons (t := t) _, 0, _ => ⟨t, rfl⟩
  | _, _, .cons r, j + 1, h => let ⟨t, e⟩ := ints_get r j (Nat.lt_of_succ_lt_succ h); ⟨t, e⟩
theorem ints_len : ∀ {is : List Int} {vs : List Value}, IntsV is vs → vs.length = is.length
  | _, _, .nil => rfl
  | _, _, .cons r => by rw [List.length_cons, List.length_cons, ints_len r]
theorem storeI_sound {c : FC} {m : Str → Option Value} {loc : Loc} {ρ : List Addr} {hs : HS} {s : Shared} {Ar : Around} {E : Value → Shared → Prop} {own fo : List (Addr × Obj)} {v : AV} {u : Value} (O : c.Ok) (M : FM c) (D : DynI c m loc ρ hs s.heap own fo) {x : Str} (hx : isLoc c.cc x = true) (xv : VR ρ v u) {Q : Unit → Shared → Prop}
    (h : ∀ m' h' tk, DynI c m' (fput x v loc) ρ hs h' own fo → Q () { s with heap := h', toks := tk }) : wpAny (model pw c.w) Ar (storeName c.env x u) Q E s := by
  have hn : s.heap.Ns c.env.locals m := by rw [M.loc]; exact D.F.ns
  refine wpAny_storeName_local (isLoc_kind O hx) hn (fun h' hn' hs' => ?_) (by show (c.env.scope.kind == .class || (c.env.scope.kind == .module && c.env.locals != c.env.globals)) = false; rw [O.eK]; rfl)
  rw [M.loc] at hn' hs'
  exact h _ h' _ ⟨D.F.set hn' hs', D.N.set hs', D.nd, D.led, D.fo, D.n, .inl ⟨M.loc, (LR_of M D).put xv⟩, D.cells⟩
theorem fmod_nat (a b : Nat) : (a : Int).fmod (b : Int) = ((a % b : Nat) : Int) := by rw [Int.fmod_eq_emod_of_nonneg _ (Int.natCast_nonneg b)]; rfl
theorem fdiv_nat (a b : Nat) : (a : Int).fdiv (b : Int) = ((a / b : Nat) : Int) := by rw [Int.fdiv_eq_ediv_of_nonneg _ (Int.natCast_nonneg b)]; rfl
/-- len of a list, called by its name -/
theorem len_call {c : FC} {m : Str → Option Value} {loc : Loc} {ρ : List Addr} {hs : HS} {s : Shared} {Ar : Around} {E : Value → Shared → Prop} (O : c.Ok) (D : Dyn c m loc ρ hs s.heap) {x : Str} {p1 p2 p3 : Pos} {a : Addr} {vs : List Value} (h1 : evName c.cc loc "len" hs.H = some (.bi "len")) (h2 : evName c.cc loc x hs.H = some (.glob a))
    (hl : s.heap.IsList a vs.toArray) (hz : vs.length ≤ 1000) {Q : Value → Shared → Prop} (h : ∀ t tk, Q (.int (vs.length : Nat) t) { s with toks := tk }) : wpAny (model pw c.w) Ar (eval (.Call (.Name "len" p1) [.Name x p2] [] p3) c.env) Q E s := by
  refine Call_ (name_sound O D h1 fun u xu => ?_)
  cases xu
  have X : (KF c.w.params).In s.heap := by obtain ⟨_, _, D⟩ := D; exact O.top.X.keeps D.F.keep
  refine callWith_of (P := (KF c.w.params).In) (by rfl) (keep_bi c.w _ _) (Calls.evalArgs_plain (Calls.spliced_cons (name_sound O D h2 fun u xu => Calls.spliced_nil ⟨X, ?_⟩)))
  cases xu
  refine Calls.call_len_list hl (by rw [List.size_toArray]; omega) ?_
  rw [List.size_toArray]
  exact h _ _
theorem drawSnd : DrawSnd := by
  intro n c m loc ρ hs s Ar args us out O A e D xs Q E P
  unfold lawDraw at e
  split at e
  · rename_i i k
    split at e
    · rename_i k' v q hq
      split at e
      · rename_i hk
        have hk := beq_iff_eq.mp hk
        subst hk
        cases e
        cases xs with
        | cons xi xs =>
        cases xs with
        | cons xk xs =>
        cases xs
        cases xi with
        | ref hi =>
        cases xk with
        | int _ tk0 =>
        rename_i a
        obtain ⟨own, fo, D⟩ := D
        obtain ⟨a', l, pre, post, h1, ob, he, hr⟩ := D.led.get hq
        rw [hi] at h1; cases h1
        cases ob with
        | src i1 i2 i3 i4 i5 =>
        rename_i ca is vs at_ t n0 n1
        obtain ⟨j1, j2, j3⟩ := i5
        have ad := A.dp
        refine wpAny_call (fn_raw O f405_mem (by omega) (f405_binds i k) D (.cons (.ref hi) (.cons (.int _ _) .nil)) fun h1 tk1 m1 oL NL old ⟨cells, hce, hcm, D1⟩ => ?_)
        rw [f405_loc] at D1
        rw [f405_cells] at hce
        have hce : cells = [] := List.map_eq_nil_iff.mp hce
        subst hce
        rw [f405_cells, f405_cells] at D1
        simp only [List.map_nil, List.append_nil, List.length_nil, Nat.add_zero, cellHeap, List.nil_append] at D1
        have O1 : (c.call f405 m s.heap.objs.size hs.n).Ok := call_ok O (fn_ok f405_mem)
        have M1 : FM (c.call f405 m s.heap.objs.size hs.n) := ⟨rfl, rfl⟩
        have he' : own = pre ++ (a, listOf [Value.ref ca, .int (at_ : Nat) t].toArray n0) :: ((ca, listOf vs.toArray n1) :: post) := by rw [he]; simp
        have ma : (a, listOf [Value.ref ca, .int (at_ : Nat) t].toArray n0) ∈ own := by rw [he']; simp
        have mc : (ca, listOf vs.toArray n1) ∈ own := by rw [he']; simp
        have zl := ints_len i1
        have ip : 0 < is.length := List.length_pos_iff.mpr i2
        have i4 : at_ + (q.length + 1) ≤ 1000 := i4
        -- cells
        refine wpAny_execs_cons (wpAny_Assign_Name ?_ (noSwap (by rfl)))
        refine Subscript_ (name_sound (s := { s with heap := h1, toks := tk1 }) O1 D1.toks (f405_source _ _ i k [] _) fun u xu => ?_)
        cases xu with
        | ref hi' =>
        have := hi.symm.trans hi'
        cases this
        refine wpAny_Constant_int (item_litK (D1.N.isList (D1.mem ma)) (by decide) (by decide) (by rfl) ?_ (sub_plain rfl))
        refine storeI_sound (s := { s with heap := h1, toks := tk1 + 1 }) O1 M1 D1 (f405_isC _ _) (.glob ca) fun m2 h2 tk2 D2 => ?_
        rw [f405_putC] at D2
        -- at
        refine wpAny_execs_cons (wpAny_Assign_Name ?_ (noSwap (by rfl)))
        refine Subscript_ (name_sound (s := { s with heap := h2, toks := tk2 }) O1 D2.toks (f405_source _ _ i k [c405 ca] _) fun u xu => ?_)
        cases xu with
        | ref hi' =>
        have := hi.symm.trans hi'
        cases this
        refine wpAny_Constant_int (item_litK (D2.N.isList (D2.mem ma)) (by decide) (by decide) (by rfl) ?_ (sub_plain rfl))
        refine storeI_sound (s := { s with heap := h2, toks := tk2 + 1 }) O1 M1 D2 (f405_isA _ _) (.int (at_ : Nat) t) fun m3 h3 tk3 D3 => ?_
        rw [f405_putA] at D3
        -- the place goes on
        refine wpAny_execs_cons (wpAny_Assign_Subscript ?_ (noSwap (by rfl)))
        refine wpAny_BinOp (name_sound (s := { s with heap := h3, toks := tk3 }) O1 D3.toks (f405_at _ _ i k ca at_ _) fun u xu => ?_)
        cases xu
        refine wpAny_Constant_int (add_int ?_)
        refine name_sound (s := { s with heap := h3, toks := _ }) O1 D3.toks (f405_source _ _ i k [c405 ca, a405 at_] _) fun u xu => ?_
        cases xu with
        | ref hi' =>
        have := hi.symm.trans hi'
        cases this
        refine wpAny_Constant_int ?_
        refine set_at (s := { s with heap := h3, toks := _ }) D3.F D3.N (D3.updU he') (by decide) (by show (1 : Int) < ((2 : Nat) : Int); decide) (by decide) fun h4 F4 N4 => ?_
        have led4 : ∀ t', Led c.w.params ρ (hset i (.src q) hs.H) (pre ++ (a, listOf [Value.ref ca, .int ((at_ + 1 : Nat) : Int) t'].toArray n0) :: ((ca, listOf vs.toArray n1) :: post)) := fun t' => by
          have := hr (.src q) [(a, listOf [Value.ref ca, .int ((at_ + 1 : Nat) : Int) t'].toArray n0), (ca, listOf vs.toArray n1)] (.src i1 i2 i3 (by omega) j3)
          simpa using this
        have D4 : Dyn (c.call f405 m s.heap.objs.size hs.n) m3 (l405 i k ++ [c405 ca, a405 at_]) ρ ⟨hset i (.src q) hs.H, hs.n⟩ h4 := D3.updD he' F4 N4 (led4 _)
        have hl4 : h4.IsList ca vs.toArray := ⟨_, (N4 (ca, listOf vs.toArray n1) (by simp)).1, rfl, n1, rfl⟩
        have hz : vs.length ≤ 1000 := by omega
        have nz : ((vs.length : Nat) : Int) ≠ 0 := by omega
        -- the number
        refine wpAny_execs_cons (wpAny_Return_some ?_)
        refine wpAny_BinOp (wpAny_BinOp (Subscript_ (name_sound (s := { s with heap := h4, toks := _ }) O1 D4 (f405_cellsN _ _ i k ca [a405 at_] _) fun u xu => ?_)))
        cases xu
        refine wpAny_BinOp (name_sound (s := { s with heap := h4, toks := _ }) O1 D4 (f405_at _ _ i k ca at_ _) fun u xu => ?_)
        cases xu
        refine len_call (s := { s with heap := h4, toks := _ }) O1 D4 (f405_len _ _ _ _) (f405_cellsN _ _ i k ca [a405 at_] _) hl4 hz fun t5 tk5 => ?_
        refine mod_int nz ?_
        rw [fmod_nat]
        obtain ⟨t6, e6⟩ := ints_get i1 (at_ % vs.length) (by rw [zl]; exact Nat.mod_lt _ ip)
        refine item_litK hl4 (Int.natCast_nonneg _) (by have := Nat.mod_lt at_ (show 0 < vs.length by omega); omega) (by rw [Int.toNat_natCast]; exact e6) ?_ (sub_plain (by rfl))
        refine wpAny_BinOp (wpAny_Constant_int ?_)
        refine wpAny_BinOp (name_sound (s := { s with heap := h4, toks := _ }) O1 D4 (f405_at _ _ i k ca at_ _) fun u xu => ?_)
        cases xu
        refine len_call (s := { s with heap := h4, toks := _ }) O1 D4 (f405_len _ _ _ _) (f405_cellsN _ _ i k ca [a405 at_] _) hl4 hz fun t7 tk7 => ?_
        refine floordiv_int nz ?_ (.inl (PyProof.noPylong_small (by have : (((vs.length : Nat) : Int)).natAbs = vs.length := rfl; omega)))
        rw [fdiv_nat]
        refine PyProof.Rows.mul_int ?_ (IntMulOk.of_left (by decide))
        refine add_int ?_
        refine name_sound (s := { s with heap := h4, toks := _ }) O1 D4 (f405_limit _ _ i k [c405 ca, a405 at_] _) fun u xu => ?_
        cases xu
        refine mod_int (Int.ne_of_gt j1) ?_
        rw [Int.fmod_eq_emod_of_nonneg _ (Int.le_of_lt j1), zl, j2]
        exact P [] h4 _ _ (back_dyn D D4.here) (.int _ _)
      · cases e
    · cases e
  · cases e
end Mine
end
section
open PySem PySem.W PyProof.Rows
set_option Elab.async false
set_option genInjectivity false
set_option genSizeOf false
set_option genSizeOfSpec false
namespace Mine
set_option maxRecDepth 100000
/-! the law's own layer: moving objects between the two ledgers -/
theorem sound (n : Nat) : Snd (run n) n ∧ SndSs (run n) n := all_sound excAt raiseSnd drawSnd n
theorem below_lt {k i : Nat} (h : Nat.blt i k = true) : i < k := Nat.le_of_ble_eq_true h
theorem VR.cut {ρ l : List Addr} {v : AV} {u : Value} (x : VR (ρ ++ l) v u) (h : avBelow ρ.length v = true) : VR ρ v u := by
  cases x with
  | ref hi =>
    have := below_lt h
    rw [List.getElem?_append_left this] at hi
    exact .ref hi
  | none => exact .none
  | bool b => exact .bool b
  | int i t => exact .int i t
  | str s t => exact .str s t
  | bytes b t => exact .bytes b t
  | glob a => exact .glob a
  | bi s => exact .bi s
  | ty s => exact .ty s
theorem VRs.cut {ρ l : List Addr} {vs : List AV} {us : List Value} (x : VRs (ρ ++ l) vs us) (h : vs.all (avBelow ρ.length) = true) : VRs ρ vs us := by
  induction x with
  | nil => exact .nil
  | cons hv _ ih =>
    rw [List.all_cons, Bool.and_eq_true] at h
    exact .cons (hv.cut h.1) (ih h.2)
theorem FR.cut {P : Params} {ρ l : List Addr} {fs : List (Str × AV)} {es : List DictEntry} (x : FR P (ρ ++ l) fs es) (h : (fs.all fun p => avBelow ρ.length p.2) = true) : FR P ρ fs es := by
  induction x with
  | nil => exact .nil
  | cons hv _ ih =>
    rw [List.all_cons, Bool.and_eq_true] at h
    exact .cons (hv.cut h.1) (ih h.2)
theorem OR.cut {P : Params} {ρ l : List Addr} {ob : AObj} {a : Addr} {os : List (Addr × Obj)} (x : OR P (ρ ++ l) ob a os) (h : obBelow ρ.length ob = true) : OR P ρ ob a os := by
  cases x with
  | list hv => exact .list (hv.cut h)
  | tup hv => exact .tup (hv.cut h)
  | inst hv => exact .inst (hv.cut h)
  | dict hv => exact .dict (hv.cut h)
  | cellN hd => exact .cellN hd
  | cellS hv hd => exact .cellS (hv.cut h) hd
  | exc a1 a2 a3 a4 a5 => exact .exc a1 a2 a3 a4 a5
  | src a1 a2 a3 a4 a5 => exact .src a1 a2 a3 a4 a5
theorem Led.cut {P : Params} {ρ l : List Addr} {H : AHeap} {own : List (Addr × Obj)} (x : Led P (ρ ++ l) H own) (h : hBelow ρ.length H = true) : Led P ρ H own := by
  induction x with
  | nil => exact .nil
  | cons hi o _ ih =>
    have h : ((_ :: _ : AHeap).all fun p => Nat.blt p.1 ρ.length && obBelow ρ.length p.2) = true := h
    rw [List.all_cons, Bool.and_eq_true, Bool.and_eq_true] at h
    have := below_lt h.1.1
    rw [List.getElem?_append_left this] at hi
    exact .cons hi (o.cut h.1.2) (ih h.2)
theorem Led.split {P : Params} {ρ : List Addr} : ∀ {H1 H2 : AHeap} {own : List (Addr × Obj)}, Led P ρ (H1 ++ H2) own → ∃ o1 o2, own = o1 ++ o2 ∧ Led P ρ H1 o1 ∧ Led P ρ H2 o2
  | [], _, own, h => ⟨[], own, rfl, .nil, h⟩
  | (i, ob) :: r, H2, _, .cons (l := l) hi o h => by
    obtain ⟨o1, o2, e, a, b⟩ := Led.split (H1 := r) h
    exact ⟨l ++ o1, o2, by rw [e, List.append_assoc], .cons hi o a, b⟩
theorem Led.join {P : Params} {ρ : List Addr} {H1 H2 : AHeap} {o1 o2 : List (Addr × Obj)} (x : Led P ρ H1 o1) (y : Led P ρ H2 o2) : Led P ρ (H1 ++ H2) (o1 ++ o2) := by
  induction x with
  | nil => exact y
  | cons hi o _ ih => rw [List.append_assoc]; exact .cons hi o ih
noncomputable abbrev FC.ot (c : FC) (O : List (Addr × Obj)) : FC := { c with other := O }
theorem FC.Ok.ot {c : FC} (O : c.Ok) (l : List (Addr × Obj)) : (c.ot l).Ok := ⟨O.top, O.fL, O.fK, O.out, O.eK, O.eG, O.eB, O.kind⟩
theorem ArOk.ot {c : FC} {ρ ρ' : List Addr} {Ar : Around} {k : Nat} (A : ArOk c ρ Ar k) (hh : c.cc.hand = none) (l : List (Addr × Obj)) : ArOk (c.ot l) ρ' Ar k := ⟨A.fr, A.dp, A.un, by
  have := A.hd
  unfold HandOk at this ⊢
  rw [hh] at this
  rw [show (c.ot l).cc.hand = none from hh]
  exact this⟩
/-- what the frame's names hold, whatever the ledger -/
structure LocS (c : FC) (m : Str → Option Value) (loc : Loc) (ρ : List Addr) : Prop where
  eq : c.env.locals = c.L
  lr : LR ρ loc m
theorem LocS.ok {c : FC} {m : Str → Option Value} {loc : Loc} {ρ : List Addr} (x : LocS c m loc ρ) : LocOk c m loc ρ := .inl ⟨x.eq, x.lr⟩
theorem LocS.okO {c : FC} {m : Str → Option Value} {loc : Loc} {ρ : List Addr} (x : LocS c m loc ρ) (O : List (Addr × Obj)) : LocOk (c.ot O) m loc ρ := .inl ⟨x.eq, x.lr⟩
theorem cells_nil {c : FC} (h : c.cc.cells = []) (ρ : List Addr) : CellsOk c ρ := fun x i e => by rw [h] at e; cases e
open Classical in
theorem perm_count {l₁ l₂ : List (Addr × Obj)} (h : ∀ a, l₁.count a = l₂.count a) : l₁.Perm l₂ := List.perm_iff_count.mpr h
section
variable {c : FC} {m : Str → Option Value} {loc loc' : Loc} {ρ ρ' : List Addr} {hs hs' : HS} {h : Heap} {own own' fo O1 O2 rest : List (Addr × Obj)}
theorem DynI.regroup (D : DynI (c.ot O1) m loc ρ hs h own fo) (pm : ((own' ++ O2) ++ rest).Perm (own ++ O1)) (led : Led c.w.params ρ' hs'.H own') (n : ρ'.length = hs'.n) (L : LocOk (c.ot O2) m loc' ρ') (K : CellsOk (c.ot O2) ρ') : DynI (c.ot O2) m loc' ρ' hs' h own' fo := by
  have nd : ((own ++ (O1 ++ fo)).map (·.1)).Nodup := D.nd
  have N : News c.G c.L h (own ++ (O1 ++ fo)) := D.N
  have pm2 : (own' ++ (O2 ++ fo) ++ rest).Perm (own ++ (O1 ++ fo)) := by
    have e1 : (own' ++ (O2 ++ fo) ++ rest).Perm (((own' ++ O2) ++ rest) ++ fo) := by
      simp only [List.append_assoc]
      exact ((List.perm_append_comm (l₁ := fo) (l₂ := rest)).append_left O2).append_left own'
    have e2 : (own ++ (O1 ++ fo)) = (own ++ O1) ++ fo := by rw [List.append_assoc]
    rw [e2]
    exact e1.trans (pm.append_right fo)
  refine ⟨D.F, fun p hp => N p (pm2.subset (List.mem_append_left _ hp)), ?_, led, D.fo, n, L, K⟩
  have := (pm2.map (·.1)).nodup_iff.mpr nd
  rw [List.map_append] at this
  exact (List.nodup_append.mp this).1
end
/-- back in the calling frame, whatever the ledger -/
theorem back2 {c : FC} {m m' : Str → Option Value} {loc loc' : Loc} {ρ : List Addr} {hs : HS} {h : Heap} {own fo : List (Addr × Obj)} {f : FnI} {L : Addr} {k : Nat} (ab : c.G.objs.size ≤ c.L) (Lk : LocOk c m loc ρ) (K : CellsOk c ρ) (D' : DynI (c.call f m L k) m' loc' ρ hs h own fo) : ∃ fo', DynI c m loc ρ hs h own fo' := by
  have hfo : FoR ((c.L, m) :: c.fs) fo := D'.fo
  cases hfo with
  | cons hN hr =>
    rename_i o fo
    have N : News c.G L h (own ++ (c.other ++ (c.L, o) :: fo)) := D'.N
    have nd : ((own ++ (c.other ++ (c.L, o) :: fo)).map (·.1)).Nodup := D'.nd
    have hm := N (c.L, o) (by simp)
    have nd' : (((own ++ c.other) ++ (c.L, o) :: fo).map (·.1)).Nodup := by simpa using nd
    rw [List.map_append, List.map_cons, List.nodup_append, List.nodup_cons] at nd'
    obtain ⟨n1, ⟨n2, n3⟩, n4⟩ := nd'
    refine ⟨fo, ⟨hN.ns hm.1, D'.F.keep, ab⟩, fun p hp => ?_, ?_, D'.led, hr, D'.n, Lk, K⟩
    · have hp' : p ∈ own ++ (c.other ++ (c.L, o) :: fo) := by
        rcases List.mem_append.mp hp with hp | hp
        · exact List.mem_append_left _ hp
        · rcases List.mem_append.mp hp with hp | hp
          · exact List.mem_append_right _ (List.mem_append_left _ hp)
          · exact List.mem_append_right _ (List.mem_append_right _ (.tail _ hp))
      have := N p hp'
      refine ⟨this.1, fun q => ?_, this.2.2⟩
      rw [← List.append_assoc] at hp
      rcases List.mem_append.mp hp with hp | hp
      · exact n4 p.1 (List.mem_map.mpr ⟨p, hp, rfl⟩) c.L (.head _) q
      · exact n2 (q ▸ List.mem_map.mpr ⟨p, hp, rfl⟩)
    · exact nd.sublist (List.Sublist.map _ (List.Sublist.append_left (List.Sublist.append_left (List.sublist_cons_self _ _) _) _))
/-! conditions, what is told of them -/
inductive Cnd where
  | leaf (l : Lf)
  | not (C : Cnd)
  | bin (b : Bool) (C1 C2 : Cnd)
noncomputable def Cnd.ht : Cnd → Nat
  | .leaf _ => 0
  | .not C => C.ht + 1
  | .bin _ C1 C2 => max C1.ht C2.ht + 1
noncomputable def Cnd.names : Cnd → List Str
  | .leaf l => l.names
  | .not C => C.names
  | .bin _ C1 C2 => C1.names ++ C2.names
noncomputable def bword (b : Bool) : Str := match b with
  | true => "and"
  | false => "or"
inductive CondAt (P : Params) (ρD : List Addr) : List (Addr × Obj) → Value → Cnd → Prop
  | leaf {lf l o a} : lf ∈ lfs → (ρD ++ l).length = lf.n → Led P (ρD ++ l) (pick lf.ids lf.L) o → (ρD ++ l)[lf.c]? = some a → CondAt P ρD o (.ref a) (.leaf lf)
  | not {S a t u n C} : CondAt P ρD S u C → CondAt P ρD ((a, tupOf [.str "not" t, u] n) :: S) (.ref a) (.not C)
  | bin {S1 S2 a t u1 u2 n b C1 C2} : CondAt P ρD S1 u1 C1 → CondAt P ρD S2 u2 C2 → CondAt P ρD ((a, tupOf [.str (bword b) t, u1, u2] n) :: (S1 ++ S2)) (.ref a) (.bin b C1 C2)
/-- a list of faults: their second words -/
inductive FaultsAre (X : List (Addr × Obj)) : List Value → List Str → Prop
  | nil : FaultsAre X [] []
  | cons {t k s its ns tm tn n} : (t, tupOf [.str k tm, .str s tn] n) ∈ X → FaultsAre X its ns → FaultsAre X (.ref t :: its) (s :: ns)
noncomputable def FaultsAt (X : List (Addr × Obj)) (u : Value) (ns : List Str) : Prop := ∃ l its n, u = .ref l ∧ (l, listOf its.toArray n) ∈ X ∧ FaultsAre X its ns
theorem FaultsAre.mono {X Y : List (Addr × Obj)} (h : ∀ p ∈ X, p ∈ Y) {its ns} (x : FaultsAre X its ns) : FaultsAre Y its ns := by
  induction x with
  | nil => exact .nil
  | cons hm _ ih => exact .cons (h _ hm) ih
theorem FaultsAre.len {X : List (Addr × Obj)} {its ns} (x : FaultsAre X its ns) : its.length = ns.length := by
  induction x with
  | nil => rfl
  | cons _ _ ih => rw [List.length_cons, List.length_cons, ih]
theorem FaultsAre.app {X : List (Addr × Obj)} {i1 n1 i2 n2} (x : FaultsAre X i1 n1) (y : FaultsAre X i2 n2) : FaultsAre X (i1 ++ i2) (n1 ++ n2) := by
  induction x with
  | nil => exact y
  | cons hm _ ih => exact .cons hm ih
theorem eqS_of : ∀ {a b : List Str}, eqS a b = true → a = b
  | [], [], _ => rfl
  | x :: r, y :: s, h => by
    have h : (sq x y && eqS r s) = true := h
    rw [Bool.and_eq_true] at h
    rw [sq_iff.mp h.1, eqS_of h.2]
theorem Led.at {P : Params} {ρ : List Addr} {H : AHeap} {own : List (Addr × Obj)} {i : Nat} {ob : AObj} (L : Led P ρ H own) (e : hget i H = some ob) : ∃ a l, ρ[i]? = some a ∧ OR P ρ ob a l ∧ ∀ p ∈ l, p ∈ own := by
  obtain ⟨a, l, pre, post, h1, o, he, _⟩ := L.get e
  exact ⟨a, l, h1, o, fun p hp => by rw [he]; exact List.mem_append_left _ (List.mem_append_right _ hp)⟩
theorem faults_of {P : Params} {ρ : List Addr} {H : AHeap} {own : List (Addr × Obj)} (L : Led P ρ H own) : ∀ {xs : List AV} {its : List Value} {ns : List Str}, VRs ρ xs its → namesOf H xs = some ns → FaultsAre own its ns
  | [], _, _, .nil, e => by cases e; exact .nil
  | x :: r, _, ns, .cons (u := u) hv hr, e => by
    cases hv <;> first | cases e | skip
    rename_i hi
    rw [namesOf] at e
    split at e
    · rename_i k s q
      cases q2 : namesOf H r with
      | none => rw [q2] at e; cases e
      | some l =>
        rw [q2] at e; cases e
        obtain ⟨a, os, h1, o, hm⟩ := L.at q
        rw [hi] at h1; cases h1
        cases o with
        | tup hv =>
          cases hv with
          | cons h1 hr1 =>
            cases hr1 with
            | cons h2 hr2 =>
              cases hr2
              cases h1
              cases h2
              exact .cons (hm _ (.head _)) (faults_of L hr q2)
    · cases e
end Mine
end
section
open PySem PySem.W PyProof.Rows
set_option Elab.async false
namespace Mine
set_option maxRecDepth 100000
/-! cond_faults by induction over the condition -/
noncomputable def f362 : FnI := ⟨362, "cond_faults", "cond_faults", 37, none, .none, "ledgerspeak.checker", 557, 361⟩
theorem f362_mem : f362 ∈ fnL := List.mem_of_getElem? (i := 30) (by kernel_rfl)
noncomputable abbrev l362 (v w : AV) : Loc := [(("data" : Str), v), (("cond" : Str), w)]
theorem f362_binds (v w : AV) : binds f362 [v, w] = some (l362 v w) := by kernel_rfl
theorem f362_loc (v w : AV) : locOf f362.scope.names (l362 v w) = l362 v w := by kernel_rfl
theorem f362_cells (n : Nat) : cellsAt f362.scope.names n = [] := by kernel_rfl
theorem keep362 (w : World) : Keepable w (.ref 362) := callable_keep (ρ := []) (v := .glob 362) (by kernel_rfl) (.glob 362)
section
variable {c : FC} {m : Str → Option Value} {loc loc' : Loc} {ρD l : List Addr} {h : Heap} {own fo O1 : List (Addr × Obj)} {a : Addr} {xs : List AV} {G : AHeap} {k : Nat}
/-- the tuple at 89 is set beside -/
theorem stow (hρ : ρD.length = 89) (hx : xs.all (avBelow 89) = true) (hc : c.cc.cells = []) (L : LocS c m loc' ρD) (D : Dyn (c.ot O1) m loc (ρD ++ ([a] ++ l)) ⟨G ++ ((89, .tup xs) :: HD), k⟩ h) :
    ∃ its n own' fo', VRs ρD xs its ∧ DynI (c.ot ((a, tupOf its n) :: O1)) m loc' ρD ⟨HD, 89⟩ h own' fo' := by
  obtain ⟨own, fo, D⟩ := D
  obtain ⟨o1, o2, e, L1, L2⟩ := Led.split D.led
  cases L2 with
  | cons hi o Lr =>
    rename_i a' l' own'
    have : (ρD ++ ([a] ++ l))[89]? = some a := by rw [List.getElem?_append_right (by omega)]; simp [hρ]
    rw [this] at hi; cases hi
    cases o with
    | tup hv =>
      rename_i its n
      refine ⟨its, n, own', fo, hv.cut (by rw [hρ]; exact hx), D.regroup (rest := o1) ?_ (Lr.cut (by rw [hρ]; exact hd_below)) hρ (L.okO _) (cells_nil hc _)⟩
      rw [e]
      refine perm_count fun p => ?_
      simp only [List.count_append, List.count_cons, List.count_nil]
      omega
theorem unstow {its : List Value} {n : Nat} (hρ : ρD.length = 89) (hc : c.cc.cells = []) (L : LocS c m loc' (ρD ++ [a])) (hv : VRs ρD xs its) (D : DynI (c.ot ((a, tupOf its n) :: O1)) m loc ρD ⟨HD, 89⟩ h own fo) :
    DynI (c.ot O1) m loc' (ρD ++ [a]) ⟨(89, .tup xs) :: HD, 90⟩ h ((a, tupOf its n) :: own) fo := by
  refine D.regroup (rest := []) ?_ (.cons (l := [(a, tupOf its n)]) (by rw [List.getElem?_append_right (by omega)]; simp [hρ]) (.tup (hv.ext _)) (D.led.ext _)) (by rw [List.length_append, hρ]; rfl) (L.okO _) (cells_nil hc _)
  refine perm_count fun p => ?_
  simp only [List.count_append, List.count_cons, List.count_nil]
  omega
end
theorem CondAt.isRef {P : Params} {ρD : List Addr} {S : List (Addr × Obj)} {u : Value} {C : Cnd} (x : CondAt P ρD S u C) : ∃ a, u = .ref a := by
  cases x with
  | leaf => exact ⟨_, rfl⟩
  | not => exact ⟨_, rfl⟩
  | bin => exact ⟨_, rfl⟩
/-- the two names, read under one ledger and the other -/
theorem two_names {m : Str → Option Value} {ρ : List Addr} {v w : AV} {more : Loc} (h : LR ρ (l362 v w ++ more) m) : ∃ x y, m "data" = some x ∧ m "cond" = some y ∧ VR ρ v x ∧ VR ρ w y := by
  obtain ⟨x, a, b⟩ := h "data" v (by kernel_rfl)
  obtain ⟨y, d, e⟩ := h "cond" w (by kernel_rfl)
  exact ⟨x, y, a, d, b, e⟩
theorem two_lr {m : Str → Option Value} {ρ : List Addr} {v w : AV} {x y : Value} (a : m "data" = some x) (b : m "cond" = some y) (d : VR ρ v x) (e : VR ρ w y) : LR ρ (l362 v w) m := by
  intro z u h
  rw [fget_cons] at h
  cases q : sq "data" z with
  | true => rw [q] at h; cases h; rw [← sq_iff.mp q]; exact ⟨x, a, d⟩
  | false =>
    rw [q] at h
    dsimp only at h
    rw [fget_cons] at h
    cases q2 : sq "cond" z with
    | true => rw [q2] at h; cases h; rw [← sq_iff.mp q2]; exact ⟨y, b, e⟩
    | false => rw [q2] at h; cases h
/-- what a call of it gives -/
noncomputable def CfPost (c : FC) (m : Str → Option Value) (loc : Loc) (ρD : List Addr) (O : List (Addr × Obj)) (u : Value) (C : Cnd) (s : Shared) (Q : Value → Shared → Prop) : Prop :=
  ∀ h' tk u' X S' own' fo', DynI (c.ot (X ++ (S' ++ O))) m loc ρD ⟨HD, 89⟩ h' own' fo' → CondAt c.w.params ρD S' u C → FaultsAt X u' C.names → Q u' { s with heap := h', toks := tk }
noncomputable def CfSnd (ρD : List Addr) (d : Addr) (C : Cnd) : Prop := ∀ {c : FC} {m loc s Ar own fo O S u} {Q : Value → Shared → Prop} {E : Value → Shared → Prop}, c.Ok → ArOk c ρD Ar (201 + C.ht) → c.cc.hand = none → c.cc.cells = [] → LocS c m loc ρD →
  DynI (c.ot (S ++ O)) m loc ρD ⟨HD, 89⟩ s.heap own fo → CondAt c.w.params ρD S u C → CfPost c m loc ρD O u C s Q → wpAny (model pw c.w) Ar (call (.ref 362) [.ref d, u]) Q E s
theorem lf_parts {lf : Lf} (h : lfChk lf = true) : hget lf.p lf.L = some (.tup [.ref lf.c, .ref lf.d]) ∧ (∃ xs, hget lf.d lf.L = some (.list xs) ∧ strsOf xs = some lf.names) ∧ (∃ xs, hget lf.r lf.F = some (.list xs) ∧ namesOf lf.F xs = some lf.names) ∧ lf.names.length ≤ 3 ∧ lf.n ≤ 500 ∧ memN lf.c lf.ids = true ∧ 90 ≤ lf.n ∧ hBelow lf.n (pick lf.ids lf.L) = true := by
  unfold lfChk at h
  simp only [Bool.and_eq_true] at h
  obtain ⟨h1, h2, h3, h4, h5, h6, h7, h8⟩ := h
  refine ⟨?_, ?_, ?_, ble_le h4, ble_le h5, h6, ble_le h7, h8⟩
  · split at h1
    · rename_i c d q
      rw [Bool.and_eq_true] at h1
      rw [q, Nat.eq_of_beq_eq_true h1.1, Nat.eq_of_beq_eq_true h1.2]
    · cases h1
  · split at h2
    · rename_i xs q
      split at h2
      · rename_i ns q2
        exact ⟨xs, q, by rw [q2, eqS_of h2]⟩
      · cases h2
    · cases h2
  · split at h3
    · rename_i xs q
      split at h3
      · rename_i ns q2
        exact ⟨xs, q, by rw [q2, eqS_of h3]⟩
      · cases h3
    · cases h3
theorem cf_leaf {ρD : List Addr} {d : Addr} (hρ : ρD.length = 89) (hd : ρD[0]? = some d) (lf : Lf) : CfSnd ρD d (.leaf lf) := by
  intro c m loc s Ar own fo O S u Q E Oc A hh hc L D x K
  cases x with
  | leaf hlf hn Lo ha =>
    rename_i l a
    have ok := lfs_ok lf hlf
    obtain ⟨p1, ⟨xs, p2, p2'⟩, ⟨ys, p3, p3'⟩, _, p5, _, p7, p8⟩ := lf_parts ok.k
    have D1 : DynI (c.ot O) m loc (ρD ++ l) ⟨pick lf.ids lf.L ++ HD, lf.n⟩ s.heap (S ++ own) fo := D.regroup (rest := []) (by
      refine perm_count fun p => ?_
      simp only [List.count_append, List.count_nil]
      omega) (Lo.join (D.led.ext l)) hn ((L.okO O).ext l) (cells_nil hc _)
    refine (sound 200).1.call (c := c.ot O) (out := .ok (.ref lf.r) ⟨lf.F ++ (pick lf.ids lf.L ++ HD), lf.n2⟩) (Oc.ot O) ((A.le (Nat.le_trans (by omega) (Nat.le_add_right 201 _))).ot hh O) (by rw [show (c.ot O).cc.hand = none from hh]; exact ok.f) D1.toks (.glob 362) (.cons (.ref (getx hd)) (.cons (.ref ha) .nil)) _ _ fun l2 h' tk b D2 x2 => ?_
    obtain ⟨own2, fo2, D2⟩ := D2
    obtain ⟨oF, oR, e, LF, LR⟩ := Led.split D2.led
    obtain ⟨o', oD, e', LO, LD⟩ := Led.split LR
    rw [List.append_assoc] at LD
    have LD := LD.cut (by rw [hρ]; exact hd_below)
    refine K h' tk b oF o' oD fo2 (D2.regroup (rest := []) ?_ LD hρ (L.okO _) (cells_nil hc _)) ?_ ?_
    · rw [e, e']
      refine perm_count fun p => ?_
      simp only [List.count_append, List.count_nil]
      omega
    · exact .leaf hlf hn (LO.cut (by rw [hn]; exact p8)) ha
    · obtain ⟨al, ol, q1, q2, q3⟩ := LF.at p3
      cases q2 with
      | list hv =>
        rename_i its n
        cases x2 with
        | ref hx =>
          rw [q1] at hx; cases hx
          exact ⟨_, its, n, rfl, q3 _ (.head _), faults_of LF hv p3'⟩
end Mine
end
section
open PySem PySem.W PyProof.Rows
set_option Elab.async false
namespace Mine
set_option maxRecDepth 100000
/-! cond_faults: the frame of an inner condition -/
theorem evStep {n : Nat} : (∀ j, j ≤ n → Snd (run j) j) ∧ (∀ j, j ≤ n → SndSs (run j) j) := ⟨fun j _ => (sound j).1, fun j _ => (sound j).2⟩
section
variable {c : FC} {m : Str → Option Value} {loc : Loc} {ρ : List Addr} {hs hs' : HS} {s : Shared} {Ar : Around} {E : Value → Shared → Prop} {n : Nat}
theorem runS {st : Stmt} {fl : Fl} {loc' : Loc} {Q : Flow → Shared → Prop} (O : c.Ok) (M : FM c) (A : ArOk c ρ Ar n) (h : stepS (run n) c.cc loc st hs = some (.ok (fl, loc') hs')) (D : Dyn c m loc ρ hs s.heap)
    (K : ∀ m' l h' tk f, Dyn c m' loc' (ρ ++ l) hs' h' → FlR (ρ ++ l) fl f → Q f { s with heap := h', toks := tk }) : wpAny (model pw c.w) Ar (exec st c.env) Q E s :=
  stepS_sound raiseSnd evStep.1 evStep.2 O M A h D _ _ K
theorem runE {e : Expr} {v : AV} {Q : Value → Shared → Prop} (O : c.Ok) (A : ArOk c ρ Ar n) (h : (run n).e c.cc loc e hs = some (.ok v hs')) (D : Dyn c m loc ρ hs s.heap)
    (K : ∀ l h' tk b, Dyn c m loc (ρ ++ l) hs' h' → VR (ρ ++ l) v b → Q b { s with heap := h', toks := tk }) : wpAny (model pw c.w) Ar (eval e c.env) Q E s :=
  (sound n).1.e O A h D _ _ K
theorem runT {e : Expr} {b : Bool} {Q : Bool → Shared → Prop} (O : c.Ok) (A : ArOk c ρ Ar n) (h : (run n).t c.cc loc e hs = some (.ok b hs')) (D : Dyn c m loc ρ hs s.heap)
    (K : ∀ l h' tk, Dyn c m loc (ρ ++ l) hs' h' → Q b { s with heap := h', toks := tk }) : wpAny (model pw c.w) Ar (isTrue e c.env (eval e c.env)) Q E s :=
  (sound n).1.t O A h D _ _ fun l h' tk b' D' x => by cases x; exact K l h' tk D'
end
noncomputable abbrev cc362 (cs : List (Str × Nat)) : CC := ⟨fun x => klook x f362.scope.names, cs, none⟩
noncomputable abbrev k362 (w : Str) : Str × AV := ("kind", .str w)
noncomputable def st362 (k : Nat) : Stmt := f362.body.getD k (.Pass default)
noncomputable def if362 (k : Nat) : Expr := match st362 k with | .If t _ _ _ => t | _ => .Constant .none 0 default
theorem body362 : f362.body = [st362 0, st362 1, st362 2, st362 3, st362 4, st362 5, st362 6] := by kernel_rfl
theorem name362 (cs : List (Str × Nat)) (l : Loc) (H : AHeap) : evName (cc362 cs) l "cond_faults" H = some (.glob 362) := by kernel_rfl
theorem data362 (cs : List (Str × Nat)) (v w : AV) (l : Loc) (H : AHeap) : evName (cc362 cs) (l362 v w ++ l) "data" H = some v := by kernel_rfl
-- the kind is read
theorem s0_not (cs : List (Str × Nat)) (a1 : Addr) : stepS (run 20) (cc362 cs) (l362 (.ref 0) (.ref 89)) (st362 0) ⟨(89, .tup [.str "not", .glob a1]) :: HD, 90⟩ = some (.ok (.next, l362 (.ref 0) (.ref 89) ++ [k362 "not"]) ⟨(89, .tup [.str "not", .glob a1]) :: HD, 90⟩) := by kernel_rfl
theorem s0_bin (cs : List (Str × Nat)) (b : Bool) (a1 a2 : Addr) : stepS (run 20) (cc362 cs) (l362 (.ref 0) (.ref 89)) (st362 0) ⟨(89, .tup [.str (bword b), .glob a1, .glob a2]) :: HD, 90⟩ = some (.ok (.next, l362 (.ref 0) (.ref 89) ++ [k362 (bword b)]) ⟨(89, .tup [.str (bword b), .glob a1, .glob a2]) :: HD, 90⟩) := by cases b <;> kernel_rfl
-- the tests
theorem t1_not (cs : List (Str × Nat)) (a1 : Addr) : (run 20).t (cc362 cs) (l362 (.ref 0) (.ref 89) ++ [k362 "not"]) (if362 1) ⟨(89, .tup [.str "not", .glob a1]) :: HD, 90⟩ = some (.ok true ⟨(89, .tup [.str "not", .glob a1]) :: HD, 90⟩) := by kernel_rfl
theorem t1_bin (cs : List (Str × Nat)) (b : Bool) (a1 a2 : Addr) : stepS (run 20) (cc362 cs) (l362 (.ref 0) (.ref 89) ++ [k362 (bword b)]) (st362 1) ⟨(89, .tup [.str (bword b), .glob a1, .glob a2]) :: HD, 90⟩ = some (.ok (.next, l362 (.ref 0) (.ref 89) ++ [k362 (bword b)]) ⟨(89, .tup [.str (bword b), .glob a1, .glob a2]) :: HD, 90⟩) := by cases b <;> kernel_rfl
theorem t2_bin (cs : List (Str × Nat)) (b : Bool) (a1 a2 : Addr) : (run 20).t (cc362 cs) (l362 (.ref 0) (.ref 89) ++ [k362 (bword b)]) (if362 2) ⟨(89, .tup [.str (bword b), .glob a1, .glob a2]) :: HD, 90⟩ = some (.ok true ⟨[(90, .tup [.str "and", .str "or"])] ++ (89, .tup [.str (bword b), .glob a1, .glob a2]) :: HD, 91⟩) := by cases b <;> kernel_rfl
theorem getx89 {ρD : List Addr} {a : Addr} (hρ : ρD.length = 89) : (ρD ++ [a])[89]? = some a := by rw [List.getElem?_append_right (by omega)]; simp [hρ]
theorem enter_ar {c : FC} {ρ : List Addr} {Ar : Around} {k : Nat} (A : ArOk c ρ Ar (k + 1)) (hh : c.cc.hand = none) {f : FnI} {m : Str → Option Value} {L : Addr} {j : Nat} {ρ' : List Addr} : ArOk (c.call f m L j) ρ' (Ar.deeper (envOfC f.qual f.scope L f.at_ (.ref f.code))) k := by
  refine ⟨Around.frames_deeper A.fr, ?_, ?_, ?_⟩
  · have := A.dp; show Ar.depth + 1 + k < 990; omega
  · have := A.un; show Ar.units + 3 + 20 * k < 9800; omega
  · have := A.hd
    unfold HandOk at this ⊢
    rw [hh] at this
    rw [show (c.call f m L j).cc.hand = none from hh]
    exact this
theorem cc362_of {c : FC} (hh : c.cc.hand = none) {m : Str → Option Value} {L : Addr} {j : Nat} : (c.call f362 m L j).cc = cc362 (cellsAt f362.scope.names j) := by
  show (⟨_, _, c.cc.hand⟩ : CC) = _
  rw [hh]
theorem call_cells {c : FC} {f : FnI} {m : Str → Option Value} {L : Addr} {j : Nat} (h : cellsAt f.scope.names j = []) : (c.call f m L j).cc.cells = [] := h
theorem DynI.perm {c : FC} {m : Str → Option Value} {loc : Loc} {ρ : List Addr} {hs : HS} {h : Heap} {own fo O1 O2 : List (Addr × Obj)} (D : DynI (c.ot O1) m loc ρ hs h own fo) (pm : O2.Perm O1) : DynI (c.ot O2) m loc ρ hs h own fo := by
  refine D.regroup (rest := []) ?_ D.led D.n ?_ D.cells
  · rw [List.append_nil]; exact pm.append_left own
  · rcases D.loc with ⟨a, b⟩ | ⟨o, mC, a, b, d⟩
    · exact .inl ⟨a, b⟩
    · exact .inr ⟨o, mC, pm.symm.subset a, b, d⟩
/-- from the frame's names under the tuple's ledger to those under the data's alone -/
theorem down_names {c : FC} {m : Str → Option Value} {ρD l : List Addr} {a d : Addr} {more : Loc} {own fo : List (Addr × Obj)} {hs : HS} {h : Heap} (hρ : ρD.length = 89) (hd : ρD[0]? = some d) (M : FM c) (D : DynI c m (l362 (.ref 0) (.ref 89) ++ more) (ρD ++ ([a] ++ l)) hs h own fo) :
    m "data" = some (.ref d) ∧ m "cond" = some (.ref a) ∧ LocS c m (l362 (.glob d) (.glob a)) ρD := by
  obtain ⟨x, y, q1, q2, q3, q4⟩ := two_names (LR_of M D)
  cases q3 with
  | ref h1 =>
    cases q4 with
    | ref h2 =>
      rw [getx hd] at h1; cases h1
      have : (ρD ++ ([a] ++ l))[89]? = some a := by rw [List.getElem?_append_right (by omega)]; simp [hρ]
      rw [this] at h2; cases h2
      exact ⟨q1, q2, M.loc, two_lr q1 q2 (.glob _) (.glob _)⟩
theorem two_its {ρ : List Addr} {w : Str} {a : Addr} {its : List Value} (h : VRs ρ [.str w, .glob a] its) : ∃ t, its = [.str w t, .ref a] := by
  cases h with
  | cons h1 r => cases r with
    | cons h2 r => cases r; cases h1; cases h2; exact ⟨_, rfl⟩
theorem three_its {ρ : List Addr} {w : Str} {a b : Addr} {its : List Value} (h : VRs ρ [.str w, .glob a, .glob b] its) : ∃ t, its = [.str w t, .ref a, .ref b] := by
  cases h with
  | cons h1 r => cases r with
    | cons h2 r => cases r with
      | cons h3 r => cases r; cases h1; cases h2; cases h3; exact ⟨_, rfl⟩
theorem up_names {c : FC} {m : Str → Option Value} {ρD : List Addr} {a d : Addr} (hρ : ρD.length = 89) (hd : ρD[0]? = some d) (M : FM c) (h1 : m "data" = some (.ref d)) (h2 : m "cond" = some (.ref a)) : LocS c m (l362 (.ref 0) (.ref 89)) (ρD ++ [a]) :=
  ⟨M.loc, two_lr h1 h2 (.ref (getx hd)) (.ref (getx89 hρ))⟩
theorem Dyn.cast {c : FC} {m : Str → Option Value} {loc : Loc} {ρ ρ' : List Addr} {hs : HS} {h : Heap} (e : ρ' = ρ) (D : Dyn c m loc ρ hs h) : Dyn c m loc ρ' hs h := e ▸ D
/-- cond_faults of an item of the tuple, called in the frame -/
theorem cf_inner {ρD : List Addr} {d : Addr} (hρ : ρD.length = 89) (hd : ρD[0]? = some d) {C : Cnd} (IH : CfSnd ρD d C) {c : FC} {cs : List (Str × Nat)} {m : Str → Option Value} {loc : Loc} {s : Shared} {Ar : Around} {own fo O S : List (Addr × Obj)} {a a1 : Addr} {xs : List AV} {its : List Value} {n kn : Nat} {k : Int} {p1 p2 p3 p4 p5 p6 : Pos} {Q : Value → Shared → Prop} {E : Value → Shared → Prop}
    (Oc : c.Ok) (M : FM c) (A : ArOk c ρD Ar (201 + C.ht)) (hcc : c.cc = cc362 cs) (hc : c.cc.cells = []) (w1 : m "data" = some (.ref d)) (w2 : m "cond" = some (.ref a)) (hx : xs.all (avBelow 89) = true)
    (e1 : (run 20).e (cc362 cs) (l362 (.ref 0) (.ref 89)) (.Subscript (.Name "cond" p4) (.Constant (.int k) kn p5) p6) ⟨(89, .tup xs) :: HD, 90⟩ = some (.ok (.glob a1) ⟨(89, .tup xs) :: HD, 90⟩)) (hv : VRs ρD xs its)
    (D : DynI (c.ot ((a, tupOf its n) :: (S ++ O))) m loc ρD ⟨HD, 89⟩ s.heap own fo) (x1 : CondAt c.w.params ρD S (.ref a1) C)
    (K : ∀ h' tk u' X S' own' fo' its' n', VRs ρD xs its' → DynI (c.ot ((a, tupOf its' n') :: (X ++ (S' ++ O)))) m (l362 (.glob d) (.glob a)) ρD ⟨HD, 89⟩ h' own' fo' → CondAt c.w.params ρD S' (.ref a1) C → FaultsAt X u' C.names → Q u' { s with heap := h', toks := tk }) :
    wpAny (model pw c.w) Ar (eval (.Call (.Name "cond_faults" p1) [.Name "data" p2, .Subscript (.Name "cond" p4) (.Constant (.int k) kn p5) p6] [] p3) c.env) Q E s := by
  have hh : c.cc.hand = none := by rw [hcc]
  have hcc2 : ∀ O', (c.ot O').cc = cc362 cs := fun _ => hcc
  have M2 : ∀ O', FM (c.ot O') := fun _ => ⟨M.1, M.2⟩
  have w3 : LocS c m (l362 (.glob d) (.glob a)) ρD := ⟨M.loc, two_lr w1 w2 (.glob _) (.glob _)⟩
  have D5 := unstow hρ hc (up_names hρ hd M w1 w2) hv D
  refine Call_ (name_sound (c := c.ot (S ++ O)) (Oc.ot _) D5.toks (by rw [hcc2]; exact name362 _ _ _) fun u xu => ?_)
  cases xu
  refine callWith_of (P := (KF c.w.params).In) (by rfl) (keep362 c.w _) (Calls.evalArgs_plain (Calls.spliced_cons (name_sound (c := c.ot (S ++ O)) (Oc.ot _) D5.toks (by rw [hcc2]; exact data362 _ _ _ [] _) fun u xu => Calls.spliced_cons (runE (c := c.ot (S ++ O)) (n := 20) (v := .glob a1) (hs' := ⟨(89, .tup xs) :: HD, 90⟩) (Oc.ot _) ((A.le (by omega)).ot hh _) (by rw [hcc2]; exact e1) D5.toks fun l5 h5 tk5 bb D5 x5 => Calls.spliced_nil ⟨?_, ?_⟩))))
  · obtain ⟨_, _, D5⟩ := D5; exact Oc.top.X.keeps D5.F.keep
  cases xu with
  | ref hu =>
  rw [getx hd] at hu; cases hu
  cases x5
  have D5 := Dyn.cast (ρ' := ρD ++ ([a] ++ l5)) (by simp only [List.append_assoc]) D5
  obtain ⟨its, n5, own6, fo6, hv6, D6⟩ := stow (c := c) (O1 := S ++ O) (G := []) hρ hx hc w3 D5
  refine IH (s := { s with heap := h5, toks := tk5 }) (O := (a, tupOf its n5) :: O) (S := S) Oc A hh hc w3 (D6.perm List.perm_middle) x1 fun h7 tk7 u7 X7 S7 own7 fo7 D7 y7 f7 => ?_
  exact K h7 tk7 u7 X7 S7 own7 fo7 its n5 hv6 (D7.perm (by
    refine perm_count fun p => ?_
    simp only [List.count_append, List.count_cons]
    omega)) y7 f7
theorem cf_not {ρD : List Addr} {d : Addr} (hρ : ρD.length = 89) (hd : ρD[0]? = some d) (C : Cnd) (IH : CfSnd ρD d C) : CfSnd ρD d (.not C) := by
  intro c m loc s Ar own fo O S u Q E Oc A hh hc L D x K
  cases x with
  | not x1 =>
    rename_i S1 a t u1 n
    obtain ⟨a1, rfl⟩ := x1.isRef
    have A : ArOk c ρD Ar ((201 + C.ht) + 1) := A
    have hv : VRs ρD [.str "not", .glob a1] [.str "not" t, .ref a1] := .cons (.str _ _) (.cons (.glob _) .nil)
    have D0 : DynI (c.ot (S1 ++ O)) m loc (ρD ++ [a]) ⟨(89, .tup [.str "not", .glob a1]) :: HD, 90⟩ s.heap ((a, tupOf [.str "not" t, .ref a1] n) :: own) fo := unstow hρ hc ⟨L.eq, L.lr.ext _⟩ hv D
    have ab : c.G.objs.size ≤ c.L := D.F.above
    have ad := A.dp
    refine wpAny_call (fn_raw (c := c.ot (S1 ++ O)) (Oc.ot _) f362_mem (by omega) (f362_binds (.ref 0) (.ref 89)) D0 (.cons (.ref (getx hd)) (.cons (.ref (getx89 hρ)) .nil)) fun h1 tk1 m1 oL NL old ⟨cells, hce, hcm, D1⟩ => ?_)
    rw [f362_loc, f362_cells, f362_cells] at D1
    rw [f362_cells] at hce
    obtain rfl : cells = [] := List.map_eq_nil_iff.mp hce
    simp only [List.map_nil, List.append_nil, List.length_nil, Nat.add_zero, cellHeap, List.nil_append] at D1
    have O1 : ((c.ot (S1 ++ O)).call f362 m s.heap.objs.size 90).Ok := call_ok (Oc.ot _) (fn_ok f362_mem)
    have M1 : FM ((c.ot (S1 ++ O)).call f362 m s.heap.objs.size 90) := ⟨rfl, rfl⟩
    have A1 : ∀ ρ', ArOk ((c.ot (S1 ++ O)).call f362 m s.heap.objs.size 90) ρ' (Ar.deeper (envOfC f362.qual f362.scope s.heap.objs.size f362.at_ (.ref f362.code))) (201 + C.ht) := fun ρ' => enter_ar (c := c.ot (S1 ++ O)) (A.ot (ρ' := ρD) hh _) hh
    have A20 : ∀ ρ', ArOk ((c.ot (S1 ++ O)).call f362 m s.heap.objs.size 90) ρ' (Ar.deeper (envOfC f362.qual f362.scope s.heap.objs.size f362.at_ (.ref f362.code))) 20 := fun ρ' => (A1 ρ').le (by omega)
    have hcc := cc362_of (c := c.ot (S1 ++ O)) hh (m := m) (L := s.heap.objs.size) (j := 90)
    have hc1 : ((c.ot (S1 ++ O)).call f362 m s.heap.objs.size 90).cc.cells = [] := call_cells (f362_cells 90)
    rw [body362]
    refine wpAny_execs_cons (runS (s := { s with heap := h1, toks := tk1 }) O1 M1 (A20 _) (by rw [hcc]; exact s0_not _ a1) D1.toks fun m2 l2 h2 tk2 fl D2 x2 => ?_)
    cases x2
    refine wpAny_execs_cons (wpAny_If ?_)
    refine runT (s := { s with heap := h2, toks := tk2 }) O1 (A20 _) (by rw [hcc]; exact t1_not _ a1) D2 fun l3 h3 tk3 D3 => ?_
    rw [if_pos rfl]
    refine wpAny_execs_cons (wpAny_Return_some ?_)
    have D3 := Dyn.cast (ρ' := ρD ++ ([a] ++ (l2 ++ l3))) (by simp only [List.append_assoc]) D3
    obtain ⟨own3, fo3, D3'⟩ := id D3
    obtain ⟨w1, w2, w3⟩ := down_names hρ hd M1 D3'
    obtain ⟨its, n', own4, fo4, hv4, D4⟩ := stow (c := (c.ot (S1 ++ O)).call f362 m s.heap.objs.size 90) (O1 := S1 ++ O) (G := []) hρ (by rfl) hc1 w3 D3
    refine cf_inner (c := (c.ot (S1 ++ O)).call f362 m s.heap.objs.size 90) (s := { s with heap := h3, toks := tk3 }) hρ hd IH O1 M1 (A1 ρD) hcc hc1 w1 w2 (by rfl) (by kernel_rfl) hv4 D4 x1 fun h6 tk6 u6 X6 S6 own6 fo6 its6 n6 hv6 D6 y6 f6 => ?_
    obtain ⟨t', rfl⟩ := two_its hv6
    obtain ⟨fo7, D7⟩ := back2 (c := c.ot ((a, tupOf [.str "not" t', .ref a1] n6) :: (X6 ++ (S6 ++ O)))) (m := m) (loc := loc) ab (L.okO _) (cells_nil hc _) D6
    exact K h6 tk6 u6 X6 ((a, tupOf [.str "not" t', .ref a1] n6) :: S6) own6 fo7 (D7.perm (by
      refine perm_count fun p => ?_
      simp only [List.count_append, List.count_cons]
      omega)) (.not y6) f6
end Mine
end
section
open PySem PySem.W PyProof.Rows
set_option Elab.async false
namespace Mine
set_option maxRecDepth 100000
/-! cond_faults of an and, an or -/
theorem cf_bin {ρD : List Addr} {d : Addr} (hρ : ρD.length = 89) (hd : ρD[0]? = some d) (b : Bool) (C1 C2 : Cnd) (hz : C1.names.length + C2.names.length ≤ 1000) (IH1 : CfSnd ρD d C1) (IH2 : CfSnd ρD d C2) : CfSnd ρD d (.bin b C1 C2) := by
  intro c m loc s Ar own fo O S u Q E Oc A hh hc L D x K
  cases x with
  | bin x1 x2 =>
    rename_i S1 S2 a t u1 u2 n
    obtain ⟨a1, rfl⟩ := x1.isRef
    obtain ⟨a2, rfl⟩ := x2.isRef
    have A : ArOk c ρD Ar ((201 + max C1.ht C2.ht) + 1) := A
    have hv : VRs ρD [.str (bword b), .glob a1, .glob a2] [.str (bword b) t, .ref a1, .ref a2] := .cons (.str _ _) (.cons (.glob _) (.cons (.glob _) .nil))
    have D0 : DynI (c.ot ((S1 ++ S2) ++ O)) m loc (ρD ++ [a]) ⟨(89, .tup [.str (bword b), .glob a1, .glob a2]) :: HD, 90⟩ s.heap ((a, tupOf [.str (bword b) t, .ref a1, .ref a2] n) :: own) fo := unstow hρ hc ⟨L.eq, L.lr.ext _⟩ hv D
    have ab : c.G.objs.size ≤ c.L := D.F.above
    have ad := A.dp
    refine wpAny_call (fn_raw (c := c.ot ((S1 ++ S2) ++ O)) (Oc.ot _) f362_mem (by omega) (f362_binds (.ref 0) (.ref 89)) D0 (.cons (.ref (getx hd)) (.cons (.ref (getx89 hρ)) .nil)) fun h1 tk1 m1 oL NL old ⟨cells, hce, hcm, D1⟩ => ?_)
    rw [f362_loc, f362_cells, f362_cells] at D1
    rw [f362_cells] at hce
    obtain rfl : cells = [] := List.map_eq_nil_iff.mp hce
    simp only [List.map_nil, List.append_nil, List.length_nil, Nat.add_zero, cellHeap, List.nil_append] at D1
    have O1 : ∀ O', ((c.ot O').call f362 m s.heap.objs.size 90).Ok := fun O' => call_ok (Oc.ot _) (fn_ok f362_mem)
    have M1 : ∀ O', FM ((c.ot O').call f362 m s.heap.objs.size 90) := fun O' => ⟨rfl, rfl⟩
    have A1 : ∀ O' ρ', ArOk ((c.ot O').call f362 m s.heap.objs.size 90) ρ' (Ar.deeper (envOfC f362.qual f362.scope s.heap.objs.size f362.at_ (.ref f362.code))) (201 + max C1.ht C2.ht) := fun O' ρ' => enter_ar (c := c.ot O') (A.ot (ρ' := ρD) hh _) hh
    have A20 : ∀ O' ρ', ArOk ((c.ot O').call f362 m s.heap.objs.size 90) ρ' (Ar.deeper (envOfC f362.qual f362.scope s.heap.objs.size f362.at_ (.ref f362.code))) 20 := fun O' ρ' => (A1 O' ρ').le (by omega)
    have hcc : ∀ O', ((c.ot O').call f362 m s.heap.objs.size 90).cc = cc362 (cellsAt f362.scope.names 90) := fun O' => cc362_of (c := c.ot O') hh (m := m) (L := s.heap.objs.size) (j := 90)
    have hc1 : ∀ O', ((c.ot O').call f362 m s.heap.objs.size 90).cc.cells = [] := fun O' => call_cells (f362_cells 90)
    rw [body362]
    refine wpAny_execs_cons (runS (c := (c.ot ((S1 ++ S2) ++ O)).call f362 m s.heap.objs.size 90) (s := { s with heap := h1, toks := tk1 }) (O1 _) (M1 _) (A20 _ _) (by rw [hcc]; exact s0_bin _ b a1 a2) D1.toks fun m2 l2 h2 tk2 fl D2 x2' => ?_)
    cases x2'
    refine wpAny_execs_cons (runS (c := (c.ot ((S1 ++ S2) ++ O)).call f362 m s.heap.objs.size 90) (s := { s with heap := h2, toks := tk2 }) (O1 _) (M1 _) (A20 _ _) (by rw [hcc]; exact t1_bin _ b a1 a2) D2 fun m2 l2' h2 tk2 fl D2 x2' => ?_)
    cases x2'
    refine wpAny_execs_cons (wpAny_If ?_)
    refine runT (c := (c.ot ((S1 ++ S2) ++ O)).call f362 m s.heap.objs.size 90) (s := { s with heap := h2, toks := tk2 }) (O1 _) (A20 _ _) (by rw [hcc]; exact t2_bin _ b a1 a2) D2 fun l3 h3 tk3 D3 => ?_
    rw [if_pos rfl]
    refine wpAny_execs_cons (wpAny_Return_some ?_)
    refine wpAny_BinOp ?_
    -- the left call
    have D3 := Dyn.cast (ρ' := ρD ++ ([a] ++ (l2 ++ (l2' ++ l3)))) (by simp only [List.append_assoc]) D3
    obtain ⟨own3, fo3, D3'⟩ := id D3
    obtain ⟨w1, w2, w3⟩ := down_names hρ hd (M1 _) D3'
    obtain ⟨its, n', own4, fo4, hv4, D4⟩ := stow (c := (c.ot ((S1 ++ S2) ++ O)).call f362 m s.heap.objs.size 90) (O1 := (S1 ++ S2) ++ O) hρ (by cases b <;> rfl) (hc1 _) w3 D3
    obtain ⟨t4, rfl⟩ := three_its hv4
    have w4 : ∀ O', LocS ((c.ot O').call f362 m s.heap.objs.size 90) m2 (l362 (.glob d) (.glob a)) ρD := fun O' => ⟨w3.eq, w3.lr⟩
    refine cf_inner (c := (c.ot ((S1 ++ S2) ++ O)).call f362 m s.heap.objs.size 90) (s := { s with heap := h3, toks := tk3 }) (S := S1) (O := S2 ++ O) (a := a) (a1 := a1) (n := n') hρ hd IH1 (O1 _) (M1 _) ((A1 _ ρD).le (by omega)) (hcc _) (hc1 _) w1 w2 (by cases b <;> rfl) (by cases b <;> kernel_rfl) hv4 (D4.perm (by
      refine perm_count fun p => ?_
      simp only [List.count_append, List.count_cons]
      omega)) x1 fun h7 tk7 u7 X7 S7 own7 fo7 its7 n7 hv7 D7 y7 f7 => ?_
    -- the right call
    refine cf_inner (c := (c.ot ((S1 ++ S2) ++ O)).call f362 m s.heap.objs.size 90) (s := { s with heap := h7, toks := tk7 }) (S := S2) (O := X7 ++ (S7 ++ O)) (a := a) (a1 := a2) (n := n7) hρ hd IH2 (O1 _) (M1 _) ((A1 _ ρD).le (by omega)) (hcc _) (hc1 _) w1 w2 (by cases b <;> rfl) (by cases b <;> kernel_rfl) hv7 (D7.perm (by
      refine perm_count fun p => ?_
      simp only [List.count_append, List.count_cons]
      omega)) x2 fun h10 tk10 u10 X10 S10 own10 fo10 its8 n8 hv9 D10 y10 f10 => ?_
    obtain ⟨t9, rfl⟩ := three_its hv9
    -- the sum
    obtain ⟨k1, i1, n1, rfl, mem1, are1⟩ := f7
    obtain ⟨k2, i2, n2, rfl, mem2, are2⟩ := f10
    have in1 : (k1, listOf i1.toArray n1) ∈ own10 ++ (((a, tupOf [.str (bword b) t9, .ref a1, .ref a2] n8) :: (X10 ++ (S10 ++ (X7 ++ (S7 ++ O))))) ++ fo10) := by simp [mem1]
    have in2 : (k2, listOf i2.toArray n2) ∈ own10 ++ (((a, tupOf [.str (bword b) t9, .ref a1, .ref a2] n8) :: (X10 ++ (S10 ++ (X7 ++ (S7 ++ O))))) ++ fo10) := by simp [mem2]
    have z1 := are1.len
    have z2 := are2.len
    refine add_arrays (s := { s with heap := h10, toks := tk10 }) D10.F D10.N (D10.N.isList in1) (D10.N.isList in2) (fun h11 F N => ?_) (by rw [sizeLine_eq, List.size_toArray, List.size_toArray]; omega)
    have D11 := D10.beside F N (fun p hp => Nat.ne_of_lt (Heap.lt_size (D10.N p hp).1))
    obtain ⟨fo12, D12⟩ := back2 (c := c.ot ((h10.objs.size, listOf (i1 ++ i2).toArray 0) :: (a, tupOf [.str (bword b) t9, .ref a1, .ref a2] n8) :: (X10 ++ (S10 ++ (X7 ++ (S7 ++ O)))))) (m := m) (loc := loc) ab (L.okO _) (cells_nil hc _) D11
    refine K h11 tk10 _ ((h10.objs.size, listOf (i1 ++ i2).toArray 0) :: (X10 ++ X7)) ((a, tupOf [.str (bword b) t9, .ref a1, .ref a2] n8) :: (S7 ++ S10)) own10 fo12 (D12.perm (by
      refine perm_count fun p => ?_
      simp only [List.count_append, List.count_cons]
      omega)) (.bin y7 y10) ⟨_, _, _, rfl, .head _, FaultsAre.app (are1.mono fun p hp => .tail _ (List.mem_append_right _ hp)) (are2.mono fun p hp => .tail _ (List.mem_append_left _ hp))⟩
theorem cf_sound {ρD : List Addr} {d : Addr} (hρ : ρD.length = 89) (hd : ρD[0]? = some d) : ∀ C : Cnd, C.names.length ≤ 1000 → CfSnd ρD d C
  | .leaf lf, _ => cf_leaf hρ hd lf
  | .not C, h => cf_not hρ hd C (cf_sound hρ hd C h)
  | .bin b C1 C2, h => by
    have h : (C1.names ++ C2.names).length ≤ 1000 := h
    rw [List.length_append] at h
    exact cf_bin hρ hd b C1 C2 h (cf_sound hρ hd C1 (by omega)) (cf_sound hρ hd C2 (by omega))
end Mine
end
section
open PySem PySem.W PyProof.Rows
set_option Elab.async false
namespace Mine
set_option maxRecDepth 100000
/-! the draws of the law -/
theorem draws_app {is : List Int} : ∀ {q1 q2 : List (Int × Int)} {n : Nat}, DrawsOk is n q1 → DrawsOk is (n + q1.length) q2 → DrawsOk is n (q1 ++ q2)
  | [], _, _, _, h => h
  | (k, v) :: q, q2, n, ⟨a, b, d⟩, h => ⟨a, b, draws_app (q1 := q) (n := n + 1) d (by rw [List.length_cons] at h; rw [show n + 1 + q.length = n + (q.length + 1) by omega]; exact h)⟩
theorem draws_dummy {is : List Int} : ∀ (B n : Nat), DrawsOk is n (List.replicate B (1, 0))
  | 0, _ => trivial
  | B + 1, n => ⟨by decide, Int.emod_one _, draws_dummy B (n + 1)⟩
noncomputable def drw (is : List Int) (n k : Nat) : Nat := ((is.getD (n % is.length) 0 + 11 * ((n / is.length : Nat) : Int)) % (k : Int)).toNat
theorem drw_lt (is : List Int) (n : Nat) {k : Nat} (h : 0 < k) : drw is n k < k := by
  unfold drw
  have a := Int.emod_lt_of_pos (is.getD (n % is.length) 0 + 11 * ((n / is.length : Nat) : Int)) (show (0 : Int) < k by omega)
  have b := Int.emod_nonneg (is.getD (n % is.length) 0 + 11 * ((n / is.length : Nat) : Int)) (show (k : Int) ≠ 0 by omega)
  omega
theorem drw_eq (is : List Int) (n : Nat) {k : Nat} (h : 0 < k) : (is.getD (n % is.length) 0 + 11 * ((n / is.length : Nat) : Int)) % (k : Int) = (drw is n k : Nat) := by
  unfold drw
  have b := Int.emod_nonneg (is.getD (n % is.length) 0 + 11 * ((n / is.length : Nat) : Int)) (show (k : Int) ≠ 0 by omega)
  omega
section
variable {P P' : Params} {ρ ρ' : List Addr} {a : Addr} {S : List (Addr × Obj)}
theorem OR.any {q : List (Int × Int)} (h : OR P ρ (.src q) a S) : OR P' ρ' (.src q) a S := by
  cases h with
  | src h1 h2 h3 h4 h5 => exact .src h1 h2 h3 h4 h5
theorem src_le {B B' : Nat} (hB : B ≤ B') (h : OR P ρ (.src (List.replicate B' (1, 0))) a S) : OR P' ρ' (.src (List.replicate B (1, 0))) a S := by
  cases h with
  | src h1 h2 h3 h4 h5 =>
    rw [List.length_replicate] at h4
    exact .src h1 h2 h3 (by rw [List.length_replicate]; omega) (draws_dummy _ _)
theorem node_draw {B : Nat} (h : OR P ρ (.src (List.replicate (1 + B) (1, 0))) a S) : ∃ r : Nat, r < 5 ∧ OR P' ρ' (.src ((5, (r : Int)) :: List.replicate B (1, 0))) a S := by
  cases h with
  | src h1 h2 h3 h4 h5 =>
    rename_i ca is vs at_ t n n'
    rw [List.length_replicate] at h4
    exact ⟨drw is at_ 5, drw_lt is at_ (by decide), .src h1 h2 h3 (by rw [List.length_cons, List.length_replicate]; omega) ⟨by decide, drw_eq is at_ (by decide), draws_dummy _ _⟩⟩
noncomputable def isN (v : Int) (k : Nat) : Bool := match v with
  | .ofNat n => Nat.beq n k
  | _ => false
theorem isN_eq {v : Int} {k : Nat} (h : isN v k = true) : v = (k : Nat) := by
  cases v with
  | ofNat n => rw [Nat.eq_of_beq_eq_true h]; rfl
  | negSucc n => cases h
noncomputable def okQ (a b b' d : Nat) : List (Int × Int) → Bool
  | (k0, v0) :: r => isN k0 8 && (isN v0 a && match r with
    | [] => true
    | (k1, v1) :: r => ((isN k1 4 && isN v1 b) || (isN k1 3 && isN v1 b')) && match r with
      | [] => true
      | [(k2, v2)] => isN k2 3 && isN v2 d
      | _ => false)
  | [] => false
theorem lfs_all : ((List.range 8).all fun a => (List.range 4).all fun b => (List.range 3).all fun b' => (List.range 3).all fun d => lfs.any fun l => okQ a b b' d l.q) = true := by kernel_rfl
theorem okQ_draws {is : List Int} {n : Nat} {q : List (Int × Int)} (h : okQ (drw is n 8) (drw is (n + 1) 4) (drw is (n + 1) 3) (drw is (n + 2) 3) q = true) : DrawsOk is n q ∧ q.length ≤ 3 := by
  have one : ∀ {k v : Int} {m K : Nat}, isN k K = true → isN v (drw is m K) = true → 0 < K → ∀ {r}, DrawsOk is (m + 1) r → DrawsOk is m ((k, v) :: r) := by
    intro k v m K h1 h2 h3 r hr
    rw [isN_eq h1, isN_eq h2]
    exact ⟨by omega, drw_eq is m h3, hr⟩
  unfold okQ at h
  split at h
  · rw [Bool.and_eq_true, Bool.and_eq_true] at h
    obtain ⟨h1, h2, h⟩ := h
    split at h
    · exact ⟨one h1 h2 (by decide) trivial, by simp⟩
    · rw [Bool.and_eq_true, Bool.or_eq_true, Bool.and_eq_true, Bool.and_eq_true] at h
      obtain ⟨h3, h⟩ := h
      split at h
      · refine ⟨one h1 h2 (by decide) ?_, by simp⟩
        rcases h3 with ⟨a, b⟩ | ⟨a, b⟩
        · exact one a b (by decide) trivial
        · exact one a b (by decide) trivial
      · rw [Bool.and_eq_true] at h
        refine ⟨one h1 h2 (by decide) ?_, by simp⟩
        have := one (m := n + 2) h.1 h.2 (by decide) (r := []) trivial
        rcases h3 with ⟨a, b⟩ | ⟨a, b⟩
        · exact one a b (by decide) this
        · exact one a b (by decide) this
      · cases h
  · cases h
theorem leaf_draw {B : Nat} (h : OR P ρ (.src (List.replicate (3 + B) (1, 0))) a S) : ∃ lf ∈ lfs, ∀ P' ρ', OR P' ρ' (.src (lf.q ++ List.replicate B (1, 0))) a S := by
  cases h with
  | src h1 h2 h3 h4 h5 =>
    rename_i ca is vs at_ t n n'
    rw [List.length_replicate] at h4
    have x := List.all_eq_true.mp lfs_all _ (List.mem_range.mpr (drw_lt is at_ (k := 8) (by decide)))
    have x := List.all_eq_true.mp x _ (List.mem_range.mpr (drw_lt is (at_ + 1) (k := 4) (by decide)))
    have x := List.all_eq_true.mp x _ (List.mem_range.mpr (drw_lt is (at_ + 1) (k := 3) (by decide)))
    have x := List.all_eq_true.mp x _ (List.mem_range.mpr (drw_lt is (at_ + 2) (k := 3) (by decide)))
    obtain ⟨lf, m, x⟩ := List.any_eq_true.mp x
    obtain ⟨y, z⟩ := okQ_draws x
    exact ⟨lf, m, fun P' ρ' => .src h1 h2 h3 (by rw [List.length_append, List.length_replicate]; omega) (draws_app y (draws_dummy _ _))⟩
end
/-! an answer of the leaf, cut in two -/
noncomputable def pickN (ks : List Nat) : AHeap → AHeap
  | [] => []
  | (i, ob) :: r => match memN i ks with
    | true => pickN ks r
    | false => (i, ob) :: pickN ks r
theorem pick_two {P : Params} {ρ : List Addr} (ks : List Nat) : ∀ {H : AHeap} {own : List (Addr × Obj)}, Led P ρ H own → ∃ o1 o2, Led P ρ (pick ks H) o1 ∧ Led P ρ (pickN ks H) o2 ∧ (o1 ++ o2).Perm own
  | _, _, .nil => ⟨[], [], .nil, .nil, .refl _⟩
  | (i, ob) :: r, _, .cons (l := l) (own := own) hi o h => by
    obtain ⟨o1, o2, a, b, e⟩ := pick_two ks h
    cases q : memN i ks with
    | true =>
      rw [pick, pickN, q]
      exact ⟨l ++ o1, o2, .cons hi o a, b, by rw [List.append_assoc]; exact e.append_left l⟩
    | false =>
      rw [pick, pickN, q]
      refine ⟨o1, l ++ o2, a, .cons hi o b, ?_⟩
      refine List.Perm.trans ?_ (e.append_left l)
      rw [← List.append_assoc, ← List.append_assoc]
      exact (List.perm_append_comm).append_right o2
theorem pickN_get {ks : List Nat} {i : Nat} {ob : AObj} (hk : memN i ks = false) : ∀ {H : AHeap}, hget i H = some ob → hget i (pickN ks H) = some ob
  | (j, ob') :: r, h => by
    rw [hget_cons] at h
    rw [pickN]
    cases q : Nat.beq j i with
    | true =>
      rw [q] at h
      rw [Nat.eq_of_beq_eq_true q, hk]
      show hget i ((i, ob') :: _) = _
      rw [hget_cons, show Nat.beq i i = true from Nat.beq_refl i]
      exact h
    | false =>
      rw [q] at h
      have ih := pickN_get hk (H := r) h
      split
      · exact ih
      · rw [hget_cons, q]; exact ih
theorem lfs_apart : (lfs.all fun l => !memN l.p l.ids && !memN l.d l.ids) = true := by kernel_rfl
/-- a list of words -/
noncomputable def NamesAt (X : List (Addr × Obj)) (u : Value) (ns : List Str) : Prop := ∃ l its n, u = .ref l ∧ (l, listOf its.toArray n) ∈ X ∧ StrsAre its ns
theorem strs_of {ρ : List Addr} : ∀ {xs : List AV} {its : List Value} {ns : List Str}, VRs ρ xs its → strsOf xs = some ns → StrsAre its ns
  | [], _, _, .nil, e => by cases e; exact .nil
  | x :: r, _, ns, .cons (u := u) hv hr, e => by
    cases hv <;> first | cases e | skip
    rename_i s t
    rw [strsOf] at e
    cases q2 : strsOf r with
    | none => rw [q2] at e; cases e
    | some l =>
      rw [q2] at e; cases e
      exact .cons _ _ (strs_of hr q2)
theorem LR.cut {ρ l : List Addr} {loc : Loc} {m : Str → Option Value} (h : LR (ρ ++ l) loc m) (b : (loc.all fun p => avBelow ρ.length p.2) = true) : LR ρ loc m := by
  intro x v e
  obtain ⟨u, a, d⟩ := h x v e
  refine ⟨u, a, d.cut ?_⟩
  have : ∃ p ∈ loc, p.2 = v := by
    clear h a d b
    induction loc with
    | nil => cases e
    | cons p r ih =>
      rw [fget_cons] at e
      cases q : sq p.1 x with
      | true => rw [q] at e; cases e; exact ⟨p, .head _, rfl⟩
      | false => rw [q] at e; obtain ⟨p', h1, h2⟩ := ih e; exact ⟨p', .tail _ h1, h2⟩
  obtain ⟨p, hp, rfl⟩ := this
  exact List.all_eq_true.mp b p hp
end Mine
end
section
open PySem PySem.W PyProof.Rows
set_option Elab.async false
namespace Mine
set_option maxRecDepth 100000
/-! _law_cond -/
noncomputable def f451 : FnI := ⟨451, "_law_cond", "_law_cond", 47, none, .none, "law_og0096_01", 743, 450⟩
theorem f451_mem : f451 ∈ fnL := List.mem_of_getElem? (i := 38) (by kernel_rfl)
noncomputable abbrev l451 (v : AV) (d : Int) : Loc := [(("source" : Str), v), (("depth" : Str), .int d)]
noncomputable abbrev w451 (v : AV) (d r : Int) : Loc := [(("source" : Str), v), (("depth" : Str), .int d), (("way" : Str), .int r)]
theorem f451_binds (v : AV) (d : Int) : binds f451 [v, .int d] = some (l451 v d) := by kernel_rfl
theorem f451_loc (v : AV) (d : Int) : locOf f451.scope.names (l451 v d) = l451 v d := by kernel_rfl
theorem f451_cells (n : Nat) : cellsAt f451.scope.names n = [] := by kernel_rfl
noncomputable abbrev cc451 (cs : List (Str × Nat)) : CC := ⟨fun x => klook x f451.scope.names, cs, none⟩
noncomputable def st451 (k : Nat) : Stmt := f451.body.getD k (.Pass default)
noncomputable def if451 (k : Nat) : Expr := match st451 k with | .If t _ _ _ => t | _ => .Constant .none 0 default
theorem body451 : f451.body = [st451 0, st451 1, st451 2, st451 3, st451 4, st451 5] := by kernel_rfl
theorem s0_zero (cs : List (Str × Nat)) (H : HS) : stepS (run 20) (cc451 cs) (l451 (.ref 89) 0) (st451 0) H = some (.ok (.next, w451 (.ref 89) 0 0) H) := by kernel_rfl
theorem s0_one (cs : List (Str × Nat)) (d : Nat) (hd : d < 3) (r : Nat) (q : List (Int × Int)) : stepS (run 20) (cc451 cs) (l451 (.ref 89) ((d + 1 : Nat) : Int)) (st451 0) ⟨(89, .src ((5, (r : Int)) :: q)) :: HD, 90⟩ = some (.ok (.next, w451 (.ref 89) ((d + 1 : Nat) : Int) r) ⟨(89, .src q) :: HD, 90⟩) :=
  match d, hd with
  | 0, _ => by kernel_rfl
  | 1, _ => by kernel_rfl
  | 2, _ => by kernel_rfl
theorem t1_lt (cs : List (Str × Nat)) (v : AV) (d : Int) (H : HS) (r : Nat) (hr : r < 2) : (run 20).t (cc451 cs) (w451 v d r) (if451 1) H = some (.ok true H) :=
  match r, hr with
  | 0, _ => by kernel_rfl
  | 1, _ => by kernel_rfl
theorem s1_ge (cs : List (Str × Nat)) (v : AV) (d : Int) (H : HS) (r : Nat) (hr : r < 3) : stepS (run 20) (cc451 cs) (w451 v d ((r + 2 : Nat) : Int)) (st451 1) H = some (.ok (.next, w451 v d ((r + 2 : Nat) : Int)) H) :=
  match r, hr with
  | 0, _ => by kernel_rfl
  | 1, _ => by kernel_rfl
  | 2, _ => by kernel_rfl
theorem n451_simple (cs : List (Str × Nat)) (l : Loc) (H : AHeap) : evName (cc451 cs) l "_law_simple" H = some (.glob 444) := by kernel_rfl
theorem n451_cond (cs : List (Str × Nat)) (l : Loc) (H : AHeap) : evName (cc451 cs) l "_law_cond" H = some (.glob 451) := by kernel_rfl
theorem n451_source (cs : List (Str × Nat)) (v : AV) (l : Loc) (H : AHeap) : evName (cc451 cs) ((("source" : Str), v) :: l) "source" H = some v := by kernel_rfl
theorem keep444 (w : World) : Keepable w (.ref 444) := callable_keep (ρ := []) (v := .glob 444) (by kernel_rfl) (.glob 444)
theorem keep451 (w : World) : Keepable w (.ref 451) := callable_keep (ρ := []) (v := .glob 451) (by kernel_rfl) (.glob 451)
noncomputable def need (d : Nat) : Nat := Nat.rec 3 (fun _ n => 1 + 2 * n) d
theorem need_s (d : Nat) : need (d + 1) = 1 + 2 * need d := rfl
theorem need_ge : ∀ d, 3 ≤ need d
  | 0 => Nat.le_refl _
  | d + 1 => by have := need_ge d; rw [need_s]; omega
noncomputable abbrev dum (B : Nat) : AObj := .src (List.replicate B (1, 0))
/-- what a call of it gives -/
noncomputable def LcPost (c : FC) (m : Str → Option Value) (loc : Loc) (ρD : List Addr) (d B : Nat) (O : List (Addr × Obj)) (aS : Addr) (s : Shared) (Q : Value → Shared → Prop) : Prop :=
  ∀ h' tk p uc ud np C X S' Sr own' fo', DynI (c.ot ((p, tupOf [uc, ud] np) :: (X ++ (S' ++ (Sr ++ O))))) m loc ρD ⟨HD, 89⟩ h' own' fo' → CondAt c.w.params ρD S' uc C → NamesAt ((p, tupOf [uc, ud] np) :: X) ud C.names → C.ht ≤ d → C.names.length ≤ 3 * 2 ^ d →
    OR c.w.params [] (dum B) aS Sr → Q (.ref p) { s with heap := h', toks := tk }
noncomputable def LcSnd (ρD : List Addr) (d : Nat) : Prop := ∀ {c : FC} {m loc s Ar own fo O S B aS td} {Q : Value → Shared → Prop} {E : Value → Shared → Prop}, c.Ok → ArOk c ρD Ar (201 + d) → c.cc.hand = none → c.cc.cells = [] → LocS c m loc ρD →
  DynI (c.ot (S ++ O)) m loc ρD ⟨HD, 89⟩ s.heap own fo → OR c.w.params [] (dum (need d + B)) aS S → LcPost c m loc ρD d B O aS s Q → wpAny (model pw c.w) Ar (call (.ref 451) [.ref aS, .int (d : Nat) td]) Q E s
section
variable {c : FC} {m : Str → Option Value} {loc loc' : Loc} {ρD l : List Addr} {h : Heap} {own fo O1 S : List (Addr × Obj)} {a : Addr} {xs : List AV} {G : AHeap} {k : Nat} {q : List (Int × Int)}
/-- the source is set beside, with what else there is -/
theorem stowS (hρ : ρD.length = 89) (hc : c.cc.cells = []) (L : LocS c m loc' ρD) (D : Dyn (c.ot O1) m loc (ρD ++ ([a] ++ l)) ⟨(89, .src q) :: HD, k⟩ h) :
    ∃ S own' fo', OR c.w.params [] (.src q) a S ∧ DynI (c.ot (S ++ O1)) m loc' ρD ⟨HD, 89⟩ h own' fo' := by
  obtain ⟨own, fo, D⟩ := D
  cases D.led with
  | cons hi o Lr =>
    rename_i a' l' own'
    have : (ρD ++ ([a] ++ l))[89]? = some a := by rw [List.getElem?_append_right (by omega)]; simp [hρ]
    rw [this] at hi; cases hi
    refine ⟨l', own', fo, o.any, D.regroup (rest := []) ?_ (Lr.cut (by rw [hρ]; exact hd_below)) hρ (L.okO _) (cells_nil hc _)⟩
    refine perm_count fun p => ?_
    simp only [List.count_append, List.count_nil]
    omega
theorem unstowS (hρ : ρD.length = 89) (hc : c.cc.cells = []) (L : LocS c m loc' (ρD ++ [a])) (o : OR c.w.params [] (.src q) a S) (D : DynI (c.ot (S ++ O1)) m loc ρD ⟨HD, 89⟩ h own fo) :
    DynI (c.ot O1) m loc' (ρD ++ [a]) ⟨(89, .src q) :: HD, 90⟩ h (S ++ own) fo := by
  refine D.regroup (rest := []) ?_ (.cons (l := S) (by rw [List.getElem?_append_right (by omega)]; simp [hρ]) o.any (D.led.ext _)) (by rw [List.length_append, hρ]; rfl) (L.okO _) (cells_nil hc _)
  refine perm_count fun p => ?_
  simp only [List.count_append, List.count_nil]
  omega
end
open Classical in
theorem count_of {l₁ l₂ : List (Addr × Obj)} (h : l₁.Perm l₂) (p : Addr × Obj) : l₁.count p = l₂.count p := h.count_eq p
/-- _law_simple, called -/
theorem simple_call {ρD : List Addr} (hρ : ρD.length = 89) {c : FC} {m : Str → Option Value} {loc : Loc} {s : Shared} {Ar : Around} {own fo O S : List (Addr × Obj)} {B : Nat} {aS : Addr} {Q : Value → Shared → Prop} {E : Value → Shared → Prop} (Oc : c.Ok) (A : ArOk c ρD Ar 200) (hh : c.cc.hand = none) (hc : c.cc.cells = []) (L : LocS c m loc ρD)
    (D : DynI (c.ot (S ++ O)) m loc ρD ⟨HD, 89⟩ s.heap own fo) (o : OR c.w.params [] (dum (3 + B)) aS S) (K : LcPost c m loc ρD 0 B O aS s Q) : wpAny (model pw c.w) Ar (call (.ref 444) [.ref aS]) Q E s := by
  obtain ⟨lf, hlf, o2⟩ := leaf_draw o
  have ok := lfs_ok lf hlf
  obtain ⟨p1, ⟨xs, p2, p2'⟩, _, p4, p5, _, p7, p8⟩ := lf_parts ok.k
  have D1 := unstowS hρ hc ⟨L.eq, L.lr.ext _⟩ (o2 _ _) D
  refine (sound 200).1.call (c := c.ot O) (out := .ok (.ref lf.p) ⟨lf.L ++ (89, dum B) :: HD, lf.n⟩) (Oc.ot O) (A.ot hh O) (by rw [show (c.ot O).cc.hand = none from hh]; exact ok.s _) D1.toks (.glob 444) (.cons (.ref (getx89 hρ)) .nil) _ _ fun l2 h' tk b D2 x2 => ?_
  obtain ⟨own2, fo2, D2⟩ := D2
  obtain ⟨oL, oR, e, LL, LR⟩ := Led.split D2.led
  have n2 : (ρD ++ ([aS] ++ l2)).length = lf.n := by rw [← List.append_assoc]; exact D2.n
  rw [List.append_assoc] at LL LR
  cases LR with
  | cons hi os Lr =>
    rename_i a' l' own'
    have : (ρD ++ ([aS] ++ l2))[89]? = some aS := by rw [List.getElem?_append_right (by omega)]; simp [hρ]
    rw [this] at hi; cases hi
    have Lr := Lr.cut (by rw [hρ]; exact hd_below)
    obtain ⟨o1, oN, L1, LN, pe⟩ := pick_two lf.ids LL
    have ap := List.all_eq_true.mp lfs_apart lf hlf
    rw [Bool.and_eq_true, Bool.not_eq_true', Bool.not_eq_true'] at ap
    obtain ⟨pa, ol, pre, post, q1, q2, q3, _⟩ := LN.get (pickN_get ap.1 p1)
    cases q2 with
    | tup hv =>
      rename_i its np
      cases hv with
      | cons hv1 hr =>
      cases hr with
      | cons hv2 hr =>
      cases hr
      cases hv1 with
      | ref hc1 =>
      cases hv2 with
      | ref hd1 =>
      rename_i ac ad
      cases x2 with
      | ref hx =>
      rw [List.append_assoc] at hx
      rw [q1] at hx; cases hx
      obtain ⟨al, ol2, r1, r2, r3⟩ := LN.at (pickN_get ap.2 p2)
      rw [hd1] at r1; cases r1
      cases r2 with
      | list hw =>
      rename_i its nl
      refine K h' tk pa (.ref ac) (.ref ad) np (.leaf lf) (pre ++ post) o1 l' own' fo2 (D2.regroup (rest := []) ?_ Lr hρ (L.okO _) (cells_nil hc _)) (.leaf hlf n2 L1 hc1) ⟨_, _, nl, rfl, ?_, strs_of hw p2'⟩ (Nat.zero_le _) (by exact p4) os.any
      · rw [e]
        refine perm_count fun p => ?_
        have c1 := count_of pe p
        have c2 := count_of (List.Perm.of_eq q3) p
        simp only [List.count_append, List.count_cons, List.count_nil] at c1 c2 ⊢
        omega
      · have := r3 _ (.head _)
        rw [q3] at this
        simp at this ⊢
        exact this
end Mine
end
section
open PySem PySem.W PyProof.Rows
set_option Elab.async false
namespace Mine
set_option maxRecDepth 100000
/-! _law_cond: its frame -/
inductive LocC (ρ ρ' : List Addr) : Loc → Loc → Prop
  | nil : LocC ρ ρ' [] []
  | cons {x v w l l'} : (∀ u, VR ρ v u → VR ρ' w u) → LocC ρ ρ' l l' → LocC ρ ρ' ((x, v) :: l) ((x, w) :: l')
theorem LocC.get {ρ ρ' : List Addr} {l l' : Loc} (h : LocC ρ ρ' l l') {y : Str} {w : AV} (e : fget y l' = some w) : ∃ v, fget y l = some v ∧ ∀ u, VR ρ v u → VR ρ' w u := by
  induction h with
  | nil => cases e
  | @cons x v w' l l' hv _ ih =>
    rw [fget_cons] at e ⊢
    cases q : sq x y with
    | true => rw [q] at e; cases e; exact ⟨v, rfl, hv⟩
    | false => rw [q] at e; exact ih e
theorem LR.conv {ρ ρ' : List Addr} {l l' : Loc} {m : Str → Option Value} (h : LR ρ l m) (x : LocC ρ ρ' l l') : LR ρ' l' m := fun y w e => by
  obtain ⟨v, a, b⟩ := x.get e
  obtain ⟨u, d, f⟩ := h y v a
  exact ⟨u, d, b u f⟩
theorem Dyn.same {c : FC} {m : Str → Option Value} {loc : Loc} {ρD l : List Addr} {h : Heap} (D : Dyn c m loc (ρD ++ l) ⟨HD, 89⟩ h) (hρ : ρD.length = 89) : l = [] := by
  obtain ⟨_, _, D⟩ := D
  have : (ρD ++ l).length = 89 := D.n
  rw [List.length_append] at this
  exact List.eq_nil_of_length_eq_zero (by omega)
theorem down451 {c : FC} {m : Str → Option Value} {ρD l : List Addr} {a : Addr} {d r : Int} {hs : HS} {h : Heap} (hρ : ρD.length = 89) (M : FM c) (D : Dyn c m (w451 (.ref 89) d r) (ρD ++ ([a] ++ l)) hs h) : LocS c m (w451 (.glob a) d r) ρD := by
  obtain ⟨_, _, D⟩ := D
  refine ⟨M.loc, (LR_of M D).conv (.cons (fun u x => ?_) (.cons (fun u x => ?_) (.cons (fun u x => ?_) .nil)))⟩
  · cases x with
    | ref hi =>
      have : (ρD ++ ([a] ++ l))[89]? = some a := by rw [List.getElem?_append_right (by omega)]; simp [hρ]
      rw [this] at hi; cases hi; exact .glob _
  · cases x; exact .int _ _
  · cases x; exact .int _ _
theorem cc451_of {c : FC} (hh : c.cc.hand = none) {m : Str → Option Value} {L : Addr} {j : Nat} : (c.call f451 m L j).cc = cc451 (cellsAt f451.scope.names j) := by
  show (⟨_, _, c.cc.hand⟩ : CC) = _
  rw [hh]
theorem lc_low {ρD : List Addr} (hρ : ρD.length = 89) {c : FC} {cs : List (Str × Nat)} {m : Str → Option Value} {aS : Addr} {d : Int} {r : Nat} (hr : r < 2) {s : Shared} {Ar : Around} {own fo O S : List (Addr × Obj)} {B : Nat} {rest : List Stmt} {Q : Flow → Shared → Prop} {E : Value → Shared → Prop} (Oc : c.Ok) (A : ArOk c ρD Ar 200) (hcc : c.cc = cc451 cs) (hc : c.cc.cells = []) (L : LocS c m (w451 (.glob aS) d r) ρD)
    (D : DynI (c.ot (S ++ O)) m (w451 (.glob aS) d r) ρD ⟨HD, 89⟩ s.heap own fo) (o : OR c.w.params [] (dum (3 + B)) aS S) (K : LcPost c m (w451 (.glob aS) d r) ρD 0 B O aS s (fun u s' => Q (.ret u) s')) : wpAny (model pw c.w) Ar (execs (st451 1 :: rest) c.env) Q E s := by
  have hh : c.cc.hand = none := by rw [hcc]
  have hcc2 : (c.ot (S ++ O)).cc = cc451 cs := hcc
  refine wpAny_execs_cons (wpAny_If ?_)
  refine runT (c := c.ot (S ++ O)) (n := 20) (s := s) (Oc.ot _) ((A.ot (ρ' := ρD) hh _).le (by omega)) (by rw [hcc2]; exact t1_lt _ _ _ _ _ hr) D.toks fun l1 h1 tk1 D1 => ?_
  rw [if_pos rfl]
  obtain rfl := D1.same hρ
  rw [List.append_nil] at D1
  refine wpAny_execs_cons (wpAny_Return_some ?_)
  refine Call_ (name_sound (c := c.ot (S ++ O)) (s := { s with heap := h1, toks := tk1 }) (Oc.ot _) D1 (by rw [hcc2]; exact n451_simple _ _ _) fun u xu => ?_)
  cases xu
  refine callWith_of (P := (KF c.w.params).In) (by rfl) (keep444 c.w _) (Calls.evalArgs_plain (Calls.spliced_cons (name_sound (c := c.ot (S ++ O)) (s := { s with heap := h1, toks := tk1 }) (Oc.ot _) D1 (by rw [hcc2]; exact n451_source _ _ _ _) fun u xu => Calls.spliced_nil ⟨?_, ?_⟩)))
  · obtain ⟨_, _, D1⟩ := D1; exact Oc.top.X.keeps D1.F.keep
  cases xu
  obtain ⟨own1, fo1, D1⟩ := D1
  exact simple_call (s := { s with heap := h1, toks := tk1 }) hρ Oc A hh hc L D1 o K
theorem lc_zero {ρD : List Addr} (hρ : ρD.length = 89) : LcSnd ρD 0 := by
  intro c m loc s Ar own fo O S B aS td Q E Oc A hh hc L D o K
  have A : ArOk c ρD Ar (200 + 1) := A
  have D0 := unstowS hρ hc ⟨L.eq, L.lr.ext _⟩ o D
  have ab : c.G.objs.size ≤ c.L := D.F.above
  have ad := A.dp
  refine wpAny_call (fn_raw (c := c.ot O) (Oc.ot _) f451_mem (by omega) (f451_binds (.ref 89) 0) D0 (.cons (.ref (getx89 hρ)) (.cons (.int _ _) .nil)) fun h1 tk1 m1 oL NL old ⟨cells, hce, hcm, D1⟩ => ?_)
  rw [f451_loc, f451_cells, f451_cells] at D1
  rw [f451_cells] at hce
  obtain rfl : cells = [] := List.map_eq_nil_iff.mp hce
  simp only [List.map_nil, List.append_nil, List.length_nil, Nat.add_zero, cellHeap, List.nil_append] at D1
  have O1 : ((c.ot O).call f451 m s.heap.objs.size 90).Ok := call_ok (Oc.ot _) (fn_ok f451_mem)
  have M1 : FM ((c.ot O).call f451 m s.heap.objs.size 90) := ⟨rfl, rfl⟩
  have A1 : ∀ ρ', ArOk ((c.ot O).call f451 m s.heap.objs.size 90) ρ' (Ar.deeper (envOfC f451.qual f451.scope s.heap.objs.size f451.at_ (.ref f451.code))) 200 := fun ρ' => enter_ar (c := c.ot O) (A.ot (ρ' := ρD) hh _) hh
  have hcc := cc451_of (c := c.ot O) hh (m := m) (L := s.heap.objs.size) (j := 90)
  have hc1 : ((c.ot O).call f451 m s.heap.objs.size 90).cc.cells = [] := call_cells (f451_cells 90)
  rw [body451]
  refine wpAny_execs_cons (runS (c := (c.ot O).call f451 m s.heap.objs.size 90) (n := 20) (s := { s with heap := h1, toks := tk1 }) O1 M1 ((A1 _).le (by omega)) (by rw [hcc]; exact s0_zero _ _) D1.toks fun m2 l2 h2 tk2 fl D2 x2 => ?_)
  cases x2
  have D2 := Dyn.cast (ρ' := ρD ++ ([aS] ++ l2)) (by simp only [List.append_assoc]) D2
  have w := down451 hρ M1 D2
  obtain ⟨S2, own2, fo2, o2, D3⟩ := stowS (c := (c.ot O).call f451 m s.heap.objs.size 90) (O1 := O) hρ hc1 w D2
  refine lc_low (c := (c.ot O).call f451 m s.heap.objs.size 90) (s := { s with heap := h2, toks := tk2 }) (r := 0) hρ (by decide) O1 (A1 _) hcc hc1 w D3 o2 fun h' tk p uc ud np C X S' Sr own' fo' D' x1 x2 x3 x4 x5 => ?_
  obtain ⟨fo7, D7⟩ := back2 (c := c.ot ((p, tupOf [uc, ud] np) :: (X ++ (S' ++ (Sr ++ O))))) (m := m) (loc := loc) ab (L.okO _) (cells_nil hc _) D'
  exact K h' tk p uc ud np C X S' Sr own' fo7 D7 x1 x2 x3 x4 x5
/-- a pair is made and set beside -/
theorem new_pair {ρD : List Addr} (hρ : ρD.length = 89) {c : FC} {m : Str → Option Value} {loc : Loc} {s : Shared} {Ar : Around} {own fo O : List (Addr × Obj)} {q l : Addr} {Q : Value → Shared → Prop} {E : Value → Shared → Prop} (hc : c.cc.cells = []) (L : LocS c m loc ρD) (D : DynI (c.ot O) m loc ρD ⟨HD, 89⟩ s.heap own fo)
    (K : ∀ p np own' fo' h' tk, DynI (c.ot ((p, tupOf [.ref q, .ref l] np) :: O)) m loc ρD ⟨HD, 89⟩ h' own' fo' → Q (.ref p) { s with heap := h', toks := tk }) : wpAny (model pw c.w) Ar (newTuple [.ref q, .ref l]) Q E s := by
  refine newTuple_sound (c := c.ot O) (xs := [.glob q, .glob l]) D.toks (.cons (.glob _) (.cons (.glob _) .nil)) rfl rfl fun l h' tk b D' x => ?_
  cases x with
  | ref hx =>
    rename_i p
    have : l = [p] := by
      obtain ⟨_, _, D'⟩ := D'
      have n : (ρD ++ l).length = 90 := D'.n
      rw [List.length_append] at n
      have hx : (ρD ++ l)[89]? = some p := hx
      rw [List.getElem?_append_right (by omega)] at hx
      match l, n, hx with
      | [z], _, hx => rw [hρ] at hx; simp at hx; rw [hx]
      | [], n, _ => simp at n; omega
      | _ :: _ :: _, n, _ => simp at n; omega
    subst this
    obtain ⟨its, np, own', fo', hv, D2⟩ := stow (c := c) (G := []) (O1 := O) (l := []) (xs := [.glob q, .glob l]) hρ rfl hc L D'
    cases hv with
    | cons h1 r => cases r with
      | cons h2 r => cases r; cases h1; cases h2; exact K p np own' fo' h' tk D2
end Mine
end
section
open PySem PySem.W PyProof.Rows
set_option Elab.async false
namespace Mine
set_option maxRecDepth 100000
/-! _law_cond: what its lines give -/
noncomputable abbrev of451 (a f : Addr) : Loc := [(("one" : Str), .glob a), (("faults" : Str), .glob f)]
noncomputable abbrev om451 (a f : Addr) : Loc := [(("other" : Str), .glob a), (("more" : Str), .glob f)]
noncomputable def nx451 (k : Nat) : Expr := match st451 k with | .Assign _ (.Call _ [_, e] _ _) _ => e | _ => .Constant .none 0 default
noncomputable def tg451 (k : Nat) : Expr := match st451 k with | .Assign [t] _ _ => t | _ => .Constant .none 0 default
noncomputable def nt451 : Expr := match st451 3 with | .If _ [.Return (some (.Tuple [t, _] _ _)) _] _ _ => t | _ => .Constant .none 0 default
noncomputable def bt451 : Expr := match st451 5 with | .Return (some (.Tuple [t, _] _ _)) _ => t | _ => .Constant .none 0 default
noncomputable def wb (b : Bool) : Nat := match b with
  | true => 3
  | false => 4
theorem dec0 (cs : List (Str × Nat)) (a : Addr) (d : Nat) (hd : d < 3) (r : Int) (H : HS) : (run 20).e (cc451 cs) (w451 (.glob a) ((d + 1 : Nat) : Int) r) (nx451 2) H = some (.ok (.int (d : Nat)) H) :=
  match d, hd with
  | 0, _ => by kernel_rfl
  | 1, _ => by kernel_rfl
  | 2, _ => by kernel_rfl
theorem dec1 (cs : List (Str × Nat)) (a a1 f1 : Addr) (d : Nat) (hd : d < 3) (r : Int) (H : HS) : (run 20).e (cc451 cs) (w451 (.glob a) ((d + 1 : Nat) : Int) r ++ of451 a1 f1) (nx451 4) H = some (.ok (.int (d : Nat)) H) :=
  match d, hd with
  | 0, _ => by kernel_rfl
  | 1, _ => by kernel_rfl
  | 2, _ => by kernel_rfl
theorem bind0 (cs : List (Str × Nat)) (a a1 f1 : Addr) (d r : Int) : bindT (cc451 cs) (w451 (.glob a) d r) ((89, .tup [.glob a1, .glob f1]) :: HD) (tg451 2) (.ref 89) = some (w451 (.glob a) d r ++ of451 a1 f1) := by kernel_rfl
theorem bind1 (cs : List (Str × Nat)) (a a1 f1 a2 f2 : Addr) (d r : Int) : bindT (cc451 cs) (w451 (.glob a) d r ++ of451 a1 f1) ((89, .tup [.glob a2, .glob f2]) :: HD) (tg451 4) (.ref 89) = some (w451 (.glob a) d r ++ of451 a1 f1 ++ om451 a2 f2) := by kernel_rfl
theorem t3_not (cs : List (Str × Nat)) (a a1 f1 : Addr) (d : Int) (H : HS) : (run 20).t (cc451 cs) (w451 (.glob a) d ((2 : Nat) : Int) ++ of451 a1 f1) (if451 3) H = some (.ok true H) := by kernel_rfl
theorem s3_bin (cs : List (Str × Nat)) (a a1 f1 : Addr) (d : Int) (b : Bool) (H : HS) : stepS (run 20) (cc451 cs) (w451 (.glob a) d ((wb b : Nat) : Int) ++ of451 a1 f1) (st451 3) H = some (.ok (.next, w451 (.glob a) d ((wb b : Nat) : Int) ++ of451 a1 f1) H) := by cases b <;> kernel_rfl
theorem e_not (cs : List (Str × Nat)) (a a1 f1 : Addr) (d : Int) : (run 20).e (cc451 cs) (w451 (.glob a) d ((2 : Nat) : Int) ++ of451 a1 f1) nt451 ⟨HD, 89⟩ = some (.ok (.ref 89) ⟨(89, .tup [.str "not", .glob a1]) :: HD, 90⟩) := by kernel_rfl
theorem e_bin (cs : List (Str × Nat)) (a a1 f1 a2 f2 : Addr) (d : Int) (b : Bool) : (run 20).e (cc451 cs) (w451 (.glob a) d ((wb b : Nat) : Int) ++ of451 a1 f1 ++ om451 a2 f2) bt451 ⟨HD, 89⟩ = some (.ok (.ref 90) ⟨(90, .tup [.str (bword b), .glob a1, .glob a2]) :: (89, .tup [.str "and", .str "or"]) :: HD, 91⟩) := by cases b <;> kernel_rfl
theorem n451_faults (cs : List (Str × Nat)) (a a1 f1 : Addr) (d r : Int) (l : Loc) (H : AHeap) : evName (cc451 cs) (w451 (.glob a) d r ++ of451 a1 f1 ++ l) "faults" H = some (.glob f1) := by kernel_rfl
theorem n451_faults' (cs : List (Str × Nat)) (a a1 f1 : Addr) (d r : Int) (H : AHeap) : evName (cc451 cs) (w451 (.glob a) d r ++ of451 a1 f1) "faults" H = some (.glob f1) := by kernel_rfl
theorem n451_more (cs : List (Str × Nat)) (a a1 f1 a2 f2 : Addr) (d r : Int) (H : AHeap) : evName (cc451 cs) (w451 (.glob a) d r ++ of451 a1 f1 ++ om451 a2 f2) "more" H = some (.glob f2) := by kernel_rfl
theorem stow90 {c : FC} {m : Str → Option Value} {loc loc' : Loc} {ρD l : List Addr} {h : Heap} {O1 : List (Addr × Obj)} {xs ys : List AV} {k : Nat} (hρ : ρD.length = 89) (hx : xs.all (avBelow 89) = true) (hc : c.cc.cells = []) (L : LocS c m loc' ρD) (D : Dyn (c.ot O1) m loc (ρD ++ l) ⟨(90, .tup xs) :: (89, .tup ys) :: HD, k⟩ h) :
    ∃ q its n own' fo', (ρD ++ l)[90]? = some q ∧ VRs ρD xs its ∧ DynI (c.ot ((q, tupOf its n) :: O1)) m loc' ρD ⟨HD, 89⟩ h own' fo' := by
  obtain ⟨own, fo, D⟩ := D
  cases D.led with
  | cons hi o Lr =>
    cases Lr with
    | cons hi2 o2 Lr =>
      rename_i a1 l1 a2 l2 own'
      cases o with
      | tup hv =>
        rename_i its n
        refine ⟨_, its, n, own', fo, hi, hv.cut (by rw [hρ]; exact hx), D.regroup (rest := l2) ?_ (Lr.cut (by rw [hρ]; exact hd_below)) hρ (L.okO _) (cells_nil hc _)⟩
        refine perm_count fun p => ?_
        simp only [List.count_append, List.count_cons, List.count_nil]
        omega
theorem NamesAt.isRef {X : List (Addr × Obj)} {u : Value} {ns : List Str} (x : NamesAt X u ns) : ∃ f, u = .ref f := by
  obtain ⟨l, _, _, e, _⟩ := x
  exact ⟨l, e⟩
/-- the pair taken apart -/
theorem take_pair {ρD : List Addr} (hρ : ρD.length = 89) {c : FC} {m : Str → Option Value} {loc loc' : Loc} {s : Shared} {Ar : Around} {own fo O : List (Addr × Obj)} {p a1 f1 : Addr} {np : Nat} {tg : Expr} {Q : Unit → Shared → Prop} {E : Value → Shared → Prop} (Oc : c.Ok) (M : FM c) (A : ArOk c ρD Ar 200) (hh : c.cc.hand = none) (hc : c.cc.cells = []) (L : LocS c m loc ρD)
    (D : DynI (c.ot ((p, tupOf [.ref a1, .ref f1] np) :: O)) m loc ρD ⟨HD, 89⟩ s.heap own fo) (e : bindT c.cc loc ((89, .tup [.glob a1, .glob f1]) :: HD) tg (.ref 89) = some loc') (hb : (loc'.all fun p => avBelow 89 p.2) = true)
    (K : ∀ m' h' tk np own' fo', LocS c m' loc' ρD → DynI (c.ot ((p, tupOf [.ref a1, .ref f1] np) :: O)) m' loc' ρD ⟨HD, 89⟩ h' own' fo' → Q () { s with heap := h', toks := tk }) : wpAny (model pw c.w) Ar (assign tg c.env (.ref p)) Q E s := by
  have D1 := unstow (c := c) (O1 := O) (xs := [.glob a1, .glob f1]) hρ hc ⟨L.eq, L.lr.ext _⟩ (.cons (.glob _) (.cons (.glob _) .nil)) D
  refine bind_sound (c := c.ot O) (ρ := ρD ++ [p]) (hs := ⟨(89, .tup [.glob a1, .glob f1]) :: HD, 90⟩) (v := .ref 89) (Oc.ot O) ⟨M.1, M.2⟩ (A.ot (ρ' := ρD ++ [p]) hh O).hd D1.toks e (.ref (getx89 hρ)) fun m' h' tk D2 => ?_
  have w : LocS c m' loc' ρD := by
    obtain ⟨_, _, D2⟩ := D2
    exact ⟨M.loc, (LR_of (c := c.ot O) ⟨M.1, M.2⟩ D2).cut (by rw [hρ]; exact hb)⟩
  obtain ⟨its, n, own', fo', hv, D3⟩ := stow (c := c) (O1 := O) (G := []) (l := []) (a := p) hρ rfl hc w (Dyn.cast (by simp only [List.append_nil]) D2)
  cases hv with
  | cons h1 r => cases r with
    | cons h2 r => cases r; cases h1; cases h2; exact K m' h' tk n own' fo' w D3
end Mine
end
section
open PySem PySem.W PyProof.Rows
set_option Elab.async false
namespace Mine
set_option maxRecDepth 100000
/-! _law_cond: the walk -/
theorem pow_le {d : Nat} (hd : d < 3) : 2 ^ d ≤ 4 := by
  match d, hd with
  | 0, _ => decide
  | 1, _ => decide
  | 2, _ => decide
section
variable {ρD : List Addr} {c : FC} {cs : List (Str × Nat)} {m : Str → Option Value} {aS a1 f1 a2 f2 : Addr} {d : Nat} {s : Shared} {Ar : Around} {own fo : List (Addr × Obj)} {rest : List Stmt} {Q : Flow → Shared → Prop} {E : Value → Shared → Prop}
/-- the last line for a not -/
theorem lc_not (hρ : ρD.length = 89) {O : List (Addr × Obj)} {di : Int} (Oc : c.Ok) (A : ArOk c ρD Ar 200) (hcc : c.cc = cc451 cs) (hc : c.cc.cells = []) (L : LocS c m (w451 (.glob aS) di ((2 : Nat) : Int) ++ of451 a1 f1) ρD)
    (D : DynI (c.ot O) m (w451 (.glob aS) di ((2 : Nat) : Int) ++ of451 a1 f1) ρD ⟨HD, 89⟩ s.heap own fo)
    (K : ∀ q n t p np own' fo' h' tk, DynI (c.ot ((p, tupOf [.ref q, .ref f1] np) :: (q, tupOf [.str "not" t, .ref a1] n) :: O)) m (w451 (.glob aS) di ((2 : Nat) : Int) ++ of451 a1 f1) ρD ⟨HD, 89⟩ h' own' fo' → Q (.ret (.ref p)) { s with heap := h', toks := tk }) : wpAny (model pw c.w) Ar (execs (st451 3 :: rest) c.env) Q E s := by
  have hh : c.cc.hand = none := by rw [hcc]
  have hcc2 : ∀ O', (c.ot O').cc = cc451 cs := fun _ => hcc
  refine wpAny_execs_cons (wpAny_If ?_)
  refine runT (c := c.ot O) (n := 20) (s := s) (Oc.ot _) ((A.ot (ρ' := ρD) hh _).le (by omega)) (by rw [hcc2]; exact t3_not _ _ _ _ _ _) D.toks fun l1 h1 tk1 D1 => ?_
  rw [if_pos rfl]
  obtain rfl := D1.same hρ
  rw [List.append_nil] at D1
  refine wpAny_execs_cons (wpAny_Return_some ?_)
  refine Tuple_ (args_cons (runE (c := c.ot O) (n := 20) (s := { s with heap := h1, toks := tk1 }) (Oc.ot _) ((A.ot (ρ' := ρD) hh _).le (by omega)) (by rw [hcc2]; exact e_not _ _ _ _ _) D1 fun l2 h2 tk2 b D2 x2 => ?_))
  cases x2 with
  | ref hx =>
    rename_i q
    obtain ⟨q', rest', e⟩ : ∃ q' r', l2 = q' :: r' := by
      cases l2 with
      | nil => rw [List.append_nil, List.getElem?_eq_none (by omega)] at hx; cases hx
      | cons q' r' => exact ⟨q', r', rfl⟩
    subst e
    have : q' = q := by
      have hx : (ρD ++ q' :: rest')[89]? = some q := hx
      rw [List.getElem?_append_right (by omega)] at hx
      simpa [hρ] using hx
    subst this
    obtain ⟨its, n, own3, fo3, hv, D3⟩ := stow (c := c) (O1 := O) (G := []) (l := rest') (a := q') hρ rfl hc L (Dyn.cast (by simp) D2)
    obtain ⟨t, rfl⟩ := two_its hv
    refine args_cons (name_sound (c := c.ot ((q', tupOf [.str "not" t, .ref a1] n) :: O)) (s := { s with heap := h2, toks := tk2 }) (Oc.ot _) D3.toks (by rw [hcc2]; exact n451_faults' _ _ _ _ _ _ _) fun u xu => args_nil ?_)
    cases xu
    exact new_pair (s := { s with heap := h2, toks := tk2 }) hρ hc L D3 fun p np own4 fo4 h4 tk4 D4 => K q' n t p np own4 fo4 h4 tk4 D4
/-- the last line for an and, an or -/
theorem lc_bin (hρ : ρD.length = 89) {O : List (Addr × Obj)} {di : Int} {b : Bool} {i1 i2 : List Value} {n1 n2 : Nat} (Oc : c.Ok) (A : ArOk c ρD Ar 200) (hcc : c.cc = cc451 cs) (hc : c.cc.cells = []) (L : LocS c m (w451 (.glob aS) di ((wb b : Nat) : Int) ++ of451 a1 f1 ++ om451 a2 f2) ρD)
    (D : DynI (c.ot O) m (w451 (.glob aS) di ((wb b : Nat) : Int) ++ of451 a1 f1 ++ om451 a2 f2) ρD ⟨HD, 89⟩ s.heap own fo) (m1 : (f1, listOf i1.toArray n1) ∈ O) (m2 : (f2, listOf i2.toArray n2) ∈ O) (hz : i1.length + i2.length ≤ 1000)
    (K : ∀ q n t k p np own' fo' h' tk, DynI (c.ot ((p, tupOf [.ref q, .ref k] np) :: (k, listOf (i1 ++ i2).toArray 0) :: (q, tupOf [.str (bword b) t, .ref a1, .ref a2] n) :: O)) m (w451 (.glob aS) di ((wb b : Nat) : Int) ++ of451 a1 f1 ++ om451 a2 f2) ρD ⟨HD, 89⟩ h' own' fo' → Q (.ret (.ref p)) { s with heap := h', toks := tk }) : wpAny (model pw c.w) Ar (execs (st451 5 :: rest) c.env) Q E s := by
  have hh : c.cc.hand = none := by rw [hcc]
  have hcc2 : ∀ O', (c.ot O').cc = cc451 cs := fun _ => hcc
  refine wpAny_execs_cons (wpAny_Return_some ?_)
  refine Tuple_ (args_cons (runE (c := c.ot O) (n := 20) (s := s) (Oc.ot _) ((A.ot (ρ' := ρD) hh _).le (by omega)) (by rw [hcc2]; exact e_bin _ _ _ _ _ _ _ _) D.toks fun l2 h2 tk2 u D2 x2 => ?_))
  cases x2 with
  | ref hx =>
    rename_i q
    obtain ⟨q', its, n, own3, fo3, hq, hv, D3⟩ := stow90 (c := c) (O1 := O) hρ (by cases b <;> rfl) hc L D2
    have hx : (ρD ++ l2)[90]? = some q := hx
    rw [hq] at hx; cases hx
    obtain ⟨t, rfl⟩ := three_its hv
    refine args_cons (wpAny_BinOp (name_sound (c := c.ot ((q, tupOf [.str (bword b) t, .ref a1, .ref a2] n) :: O)) (s := { s with heap := h2, toks := tk2 }) (Oc.ot _) D3.toks (by rw [hcc2]; exact n451_faults _ _ _ _ _ _ _ _) fun u xu => ?_))
    cases xu
    refine name_sound (c := c.ot ((q, tupOf [.str (bword b) t, .ref a1, .ref a2] n) :: O)) (s := { s with heap := h2, toks := tk2 }) (Oc.ot _) D3.toks (by rw [hcc2]; exact n451_more _ _ _ _ _ _ _ _ _) fun u xu => ?_
    cases xu
    have in1 : (f1, listOf i1.toArray n1) ∈ own3 ++ (((q, tupOf [.str (bword b) t, .ref a1, .ref a2] n) :: O) ++ fo3) := by simp [m1]
    have in2 : (f2, listOf i2.toArray n2) ∈ own3 ++ (((q, tupOf [.str (bword b) t, .ref a1, .ref a2] n) :: O) ++ fo3) := by simp [m2]
    refine add_arrays (s := { s with heap := h2, toks := tk2 }) D3.F D3.N (D3.N.isList in1) (D3.N.isList in2) (fun h4 F N => ?_) (by rw [sizeLine_eq, List.size_toArray, List.size_toArray]; omega)
    have D4 : DynI (c.ot ((h2.objs.size, listOf (i1 ++ i2).toArray 0) :: (q, tupOf [.str (bword b) t, .ref a1, .ref a2] n) :: O)) m (w451 (.glob aS) di ((wb b : Nat) : Int) ++ of451 a1 f1 ++ om451 a2 f2) ρD ⟨HD, 89⟩ h4 own3 fo3 := D3.beside F N (fun p hp => Nat.ne_of_lt (Heap.lt_size (D3.N p hp).1))
    refine args_nil ?_
    exact new_pair (s := { s with heap := h4, toks := tk2 }) hρ hc L D4 fun p np own4 fo4 h5 tk5 D5 => K q n t _ p np own4 fo4 h5 tk5 D5
end
end Mine
end
section
open PySem PySem.W PyProof.Rows
set_option Elab.async false
namespace Mine
set_option maxRecDepth 100000
/-! _law_cond: by induction over the depth -/
theorem lc_rest {ρD : List Addr} (hρ : ρD.length = 89) {d : Nat} (hd : d < 3) (IH : LcSnd ρD d) {c : FC} {cs : List (Str × Nat)} {m : Str → Option Value} {aS : Addr} {r : Nat} (hr : r < 5) {s : Shared} {Ar : Around} {own fo O S : List (Addr × Obj)} {B : Nat} {Q : Flow → Shared → Prop} {E : Value → Shared → Prop} (Oc : c.Ok) (M : FM c) (A : ArOk c ρD Ar (201 + d)) (hcc : c.cc = cc451 cs) (hc : c.cc.cells = [])
    (L : LocS c m (w451 (.glob aS) ((d + 1 : Nat) : Int) r) ρD) (D : DynI (c.ot (S ++ O)) m (w451 (.glob aS) ((d + 1 : Nat) : Int) r) ρD ⟨HD, 89⟩ s.heap own fo) (o : OR c.w.params [] (dum (2 * need d + B)) aS S)
    (K : ∀ m' loc' h' tk p uc ud np C X S' Sr own' fo', DynI (c.ot ((p, tupOf [uc, ud] np) :: (X ++ (S' ++ (Sr ++ O))))) m' loc' ρD ⟨HD, 89⟩ h' own' fo' → CondAt c.w.params ρD S' uc C → NamesAt ((p, tupOf [uc, ud] np) :: X) ud C.names → C.ht ≤ d + 1 → C.names.length ≤ 3 * 2 ^ (d + 1) →
      OR c.w.params [] (dum B) aS Sr → Q (.ret (.ref p)) { s with heap := h', toks := tk }) : wpAny (model pw c.w) Ar (execs [st451 1, st451 2, st451 3, st451 4, st451 5] c.env) Q E s := by
  have hh : c.cc.hand = none := by rw [hcc]
  have hcc2 : ∀ O', (c.ot O').cc = cc451 cs := fun _ => hcc
  have ng := need_ge d
  have pw4 := pow_le hd
  have pw6 : 1 ≤ 2 ^ d := Nat.one_le_two_pow
  have pw5 : 2 ^ (d + 1) = 2 * 2 ^ d := by rw [Nat.pow_succ, Nat.mul_comm]
  have A20 : ∀ O' ρ', ArOk (c.ot O') ρ' Ar 20 := fun O' ρ' => (A.ot (ρ' := ρ') hh O').le (by omega)
  have M' : ∀ O', FM (c.ot O') := fun _ => ⟨M.1, M.2⟩
  by_cases h2 : r < 2
  · exact lc_low hρ h2 Oc (A.le (by omega)) hcc hc L D (src_le (B := 3 + B) (by omega) o) fun h' tk p uc ud np C X S' Sr own' fo' D' x1 x2 x3 x4 x5 => K _ _ h' tk p uc ud np C X S' Sr own' fo' D' x1 x2 (by omega) (by omega) x5
  obtain ⟨r, rfl⟩ : ∃ r', r = r' + 2 := ⟨r - 2, by omega⟩
  refine wpAny_execs_cons (runS (c := c.ot (S ++ O)) (n := 20) (s := s) (Oc.ot _) (M' _) (A20 _ ρD) (by rw [hcc2]; exact s1_ge _ _ _ _ _ (by omega)) D.toks fun m2 l2 h2 tk2 fl D2 x2 => ?_)
  cases x2
  obtain rfl := D2.same hρ
  rw [List.append_nil] at D2
  refine wpAny_execs_cons (Assign_Tuple ?_)
  refine Call_ (name_sound (c := c.ot (S ++ O)) (s := { s with heap := h2, toks := tk2 }) (Oc.ot _) D2 (by rw [hcc2]; exact n451_cond _ _ _) fun u xu => ?_)
  cases xu
  refine callWith_of (P := (KF c.w.params).In) (by rfl) (keep451 c.w _) (Calls.evalArgs_plain (Calls.spliced_cons (name_sound (c := c.ot (S ++ O)) (s := { s with heap := h2, toks := tk2 }) (Oc.ot _) D2 (by rw [hcc2]; exact n451_source _ _ _ _) fun u xu => Calls.spliced_cons (runE (c := c.ot (S ++ O)) (n := 20) (s := { s with heap := h2, toks := tk2 }) (Oc.ot _) (A20 _ ρD) (by rw [hcc2]; exact dec0 _ _ _ hd _ _) D2 fun l3 h3 tk3 b D3 x3 => Calls.spliced_nil ⟨?_, ?_⟩))))
  · obtain ⟨_, _, D3⟩ := D3; exact Oc.top.X.keeps D3.F.keep
  cases xu
  cases x3
  obtain rfl := D3.same hρ
  rw [List.append_nil] at D3
  obtain ⟨own3, fo3, D3⟩ := D3
  have L3 : LocS c m2 (w451 (.glob aS) ((d + 1 : Nat) : Int) ((r + 2 : Nat) : Int)) ρD := ⟨M.loc, LR_of (M' _) D3⟩
  refine IH (c := c) (s := { s with heap := h3, toks := tk3 }) (O := O) (S := S) (B := need d + B) Oc A hh hc L3 D3 (by rw [show need d + (need d + B) = 2 * need d + B by omega]; exact o) fun h5 tk5 p uc ud np C X S' Sr own5 fo5 D5 x1 x2 x3 x4 x5 => ?_
  obtain ⟨a1, rfl⟩ := x1.isRef
  obtain ⟨f1, rfl⟩ := x2.isRef
  refine take_pair (s := { s with heap := h5, toks := tk5 }) (loc' := w451 (.glob aS) ((d + 1 : Nat) : Int) ((r + 2 : Nat) : Int) ++ of451 a1 f1) hρ Oc M (A.le (by omega)) hh hc L3 D5 (by rw [hcc]; exact bind0 _ _ _ _ _ _) (by rfl) fun m6 h6 tk6 np6 own6 fo6 L6 D6 => ?_
  obtain ⟨l1, i1, n1, e1, mem1, st1⟩ := x2
  cases e1
  have z1 := StrsAre.length st1
  by_cases hr0 : r = 0
  · subst hr0
    refine lc_not (s := { s with heap := h6, toks := tk6 }) hρ Oc (A.le (by omega)) hcc hc L6 D6 fun q n t p' np' own7 fo7 h7 tk7 D7 => ?_
    refine K _ _ h7 tk7 p' (.ref q) (.ref f1) np' (.not C) ((p, tupOf [.ref a1, .ref f1] np6) :: X) ((q, tupOf [.str "not" t, .ref a1] n) :: S') Sr own7 fo7 (D7.perm ?_) (.not x1) ⟨_, i1, n1, rfl, ?_, st1⟩ (Nat.succ_le_succ x3) (by exact Nat.le_trans x4 (by omega)) (src_le (by omega) x5)
    · refine perm_count fun p => ?_
      simp only [List.count_append, List.count_cons]
      omega
    · simp at mem1 ⊢
      exact mem1
  obtain ⟨b, hb⟩ : ∃ b, r + 2 = wb b := by
    rcases (show r = 1 ∨ r = 2 by omega) with h | h
    · exact ⟨true, by rw [h]; rfl⟩
    · exact ⟨false, by rw [h]; rfl⟩
  rw [hb] at L6 D6
  refine wpAny_execs_cons (runS (c := c.ot ((p, tupOf [.ref a1, .ref f1] np6) :: (X ++ (S' ++ (Sr ++ O))))) (n := 20) (s := { s with heap := h6, toks := tk6 }) (Oc.ot _) (M' _) (A20 _ ρD) (by rw [hcc2]; exact s3_bin _ _ _ _ _ _ _) D6.toks fun m7 l7 h7 tk7 fl D7 x7 => ?_)
  cases x7
  obtain rfl := D7.same hρ
  rw [List.append_nil] at D7
  refine wpAny_execs_cons (Assign_Tuple ?_)
  refine Call_ (name_sound (c := c.ot ((p, tupOf [.ref a1, .ref f1] np6) :: (X ++ (S' ++ (Sr ++ O))))) (s := { s with heap := h7, toks := tk7 }) (Oc.ot _) D7 (by rw [hcc2]; exact n451_cond _ _ _) fun u xu => ?_)
  cases xu
  refine callWith_of (P := (KF c.w.params).In) (by rfl) (keep451 c.w _) (Calls.evalArgs_plain (Calls.spliced_cons (name_sound (c := c.ot ((p, tupOf [.ref a1, .ref f1] np6) :: (X ++ (S' ++ (Sr ++ O))))) (s := { s with heap := h7, toks := tk7 }) (Oc.ot _) D7 (by rw [hcc2]; exact n451_source _ _ _ _) fun u xu => Calls.spliced_cons (runE (c := c.ot ((p, tupOf [.ref a1, .ref f1] np6) :: (X ++ (S' ++ (Sr ++ O))))) (n := 20) (s := { s with heap := h7, toks := tk7 }) (Oc.ot _) (A20 _ ρD) (by rw [hcc2]; exact dec1 _ _ _ _ _ hd _ _) D7 fun l8 h8 tk8 b' D8 x8 => Calls.spliced_nil ⟨?_, ?_⟩))))
  · obtain ⟨_, _, D8⟩ := D8; exact Oc.top.X.keeps D8.F.keep
  cases xu
  cases x8
  obtain rfl := D8.same hρ
  rw [List.append_nil] at D8
  obtain ⟨own8, fo8, D8⟩ := D8
  have L8 : LocS c m7 (w451 (.glob aS) ((d + 1 : Nat) : Int) ((wb b : Nat) : Int) ++ of451 a1 f1) ρD := ⟨M.loc, LR_of (M' _) D8⟩
  refine IH (c := c) (s := { s with heap := h8, toks := tk8 }) (O := (p, tupOf [.ref a1, .ref f1] np6) :: (X ++ (S' ++ O))) (S := Sr) (B := B) Oc A hh hc L8 (D8.perm ?_) x5 fun h9 tk9 p2 uc2 ud2 np2 C2 X2 S2 Sr2 own9 fo9 D9 y1 y2 y3 y4 y5 => ?_
  · refine perm_count fun p => ?_
    simp only [List.count_append, List.count_cons]
    omega
  obtain ⟨a2, rfl⟩ := y1.isRef
  obtain ⟨f2, rfl⟩ := y2.isRef
  refine take_pair (s := { s with heap := h9, toks := tk9 }) (loc' := w451 (.glob aS) ((d + 1 : Nat) : Int) ((wb b : Nat) : Int) ++ of451 a1 f1 ++ om451 a2 f2) hρ Oc M (A.le (by omega)) hh hc L8 D9 (by rw [hcc]; exact bind1 _ _ _ _ _ _ _ _) (by rfl) fun m10 h10 tk10 np10 own10 fo10 L10 D10 => ?_
  obtain ⟨l2, i2, n2, e2, mem2, st2⟩ := y2
  cases e2
  have z2 := StrsAre.length st2
  refine lc_bin (s := { s with heap := h10, toks := tk10 }) (i1 := i1) (i2 := i2) (n1 := n1) (n2 := n2) hρ Oc (A.le (by omega)) hcc hc L10 D10 ?_ ?_ (by omega) fun q n t k p' np' own11 fo11 h11 tk11 D11 => ?_
  · simp at mem1 ⊢
    simp [mem1]
  · simp at mem2 ⊢
    simp [mem2]
  refine K _ _ h11 tk11 p' (.ref q) (.ref k) np' (.bin b C C2) ((k, listOf (i1 ++ i2).toArray 0) :: (p2, tupOf [.ref a2, .ref f2] np10) :: (X2 ++ ((p, tupOf [.ref a1, .ref f1] np6) :: X))) ((q, tupOf [.str (bword b) t, .ref a1, .ref a2] n) :: (S' ++ S2)) Sr2 own11 fo11 (D11.perm ?_) (.bin x1 y1) ⟨_, i1 ++ i2, 0, rfl, ?_, StrsAre.append' st1 st2⟩ ?_ ?_ y5
  · refine perm_count fun p => ?_
    simp only [List.count_append, List.count_cons]
    omega
  · simp
  · show max C.ht C2.ht + 1 ≤ d + 1
    omega
  · show (C.names ++ C2.names).length ≤ _
    rw [List.length_append]
    omega
theorem lc_succ {ρD : List Addr} (hρ : ρD.length = 89) {d : Nat} (hd : d < 3) (IH : LcSnd ρD d) : LcSnd ρD (d + 1) := by
  intro c m loc s Ar own fo O S B aS td Q E Oc A hh hc L D o K
  have A : ArOk c ρD Ar ((201 + d) + 1) := A
  have o : OR c.w.params [] (dum (1 + (2 * need d + B))) aS S := by rw [show 1 + (2 * need d + B) = need (d + 1) + B by rw [need_s]; omega]; exact o
  obtain ⟨r, hr, o⟩ := node_draw (P' := c.w.params) (ρ' := []) o
  have D0 := unstowS hρ hc ⟨L.eq, L.lr.ext _⟩ o D
  have ab : c.G.objs.size ≤ c.L := D.F.above
  have ad := A.dp
  have ng := need_ge d
  have pw4 := pow_le hd
  refine wpAny_call (fn_raw (c := c.ot O) (Oc.ot _) f451_mem (by omega) (f451_binds (.ref 89) ((d + 1 : Nat) : Int)) D0 (.cons (.ref (getx89 hρ)) (.cons (.int _ _) .nil)) fun h1 tk1 m1 oL NL old ⟨cells, hce, hcm, D1⟩ => ?_)
  rw [f451_loc, f451_cells, f451_cells] at D1
  rw [f451_cells] at hce
  obtain rfl : cells = [] := List.map_eq_nil_iff.mp hce
  simp only [List.map_nil, List.append_nil, List.length_nil, Nat.add_zero, cellHeap, List.nil_append] at D1
  have O1 : ((c.ot O).call f451 m s.heap.objs.size 90).Ok := call_ok (Oc.ot _) (fn_ok f451_mem)
  have M1 : FM ((c.ot O).call f451 m s.heap.objs.size 90) := ⟨rfl, rfl⟩
  have A1 : ∀ ρ', ArOk ((c.ot O).call f451 m s.heap.objs.size 90) ρ' (Ar.deeper (envOfC f451.qual f451.scope s.heap.objs.size f451.at_ (.ref f451.code))) (201 + d) := fun ρ' => enter_ar (c := c.ot O) (A.ot (ρ' := ρD) hh _) hh
  have hcc := cc451_of (c := c.ot O) hh (m := m) (L := s.heap.objs.size) (j := 90)
  have hc1 : ((c.ot O).call f451 m s.heap.objs.size 90).cc.cells = [] := call_cells (f451_cells 90)
  have A20 : ∀ O' ρ', ArOk (((c.ot O).call f451 m s.heap.objs.size 90).ot O') ρ' (Ar.deeper (envOfC f451.qual f451.scope s.heap.objs.size f451.at_ (.ref f451.code))) 20 := fun O' ρ' => ((A1 ρD).ot (ρ' := ρ') hh O').le (by omega)
  rw [body451]
  refine wpAny_execs_cons (runS (c := (c.ot O).call f451 m s.heap.objs.size 90) (n := 20) (s := { s with heap := h1, toks := tk1 }) O1 M1 ((A1 _).le (by omega)) (by rw [hcc]; exact s0_one _ _ hd _ _) D1.toks fun m2 l2 h2 tk2 fl D2 x2 => ?_)
  cases x2
  have D2 := Dyn.cast (ρ' := ρD ++ ([aS] ++ l2)) (by simp only [List.append_assoc]) D2
  have w := down451 hρ M1 D2
  obtain ⟨S2, own2, fo2, o2, D3⟩ := stowS (c := (c.ot O).call f451 m s.heap.objs.size 90) (O1 := O) hρ hc1 w D2
  refine lc_rest (c := (c.ot O).call f451 m s.heap.objs.size 90) (s := { s with heap := h2, toks := tk2 }) (B := B) hρ hd IH hr O1 M1 (A1 _) hcc hc1 w D3 o2 fun m' loc' h' tk p uc ud np C X S' Sr own' fo' D' x1 x2 x3 x4 x5 => ?_
  obtain ⟨fo7, D7⟩ := back2 (c := c.ot ((p, tupOf [uc, ud] np) :: (X ++ (S' ++ (Sr ++ O))))) (m := m) (loc := loc) ab (L.okO _) (cells_nil hc _) D'
  exact K h' tk p uc ud np C X S' Sr own' fo7 D7 x1 x2 x3 x4 x5
theorem lc_sound {ρD : List Addr} (hρ : ρD.length = 89) : ∀ d, d ≤ 3 → LcSnd ρD d
  | 0, _ => lc_zero hρ
  | d + 1, h => lc_succ hρ (by omega) (lc_sound hρ d (by omega))
end Mine
end
section
open PySem PySem.W PyProof.Rows
set_option Elab.async false
namespace Mine
set_option maxRecDepth 100000
open PyProof.Rows.LCg
/-! law: its frame, its cells -/
noncomputable def f456 : FnI := ⟨456, "law", "law", 48, none, .none, "law_og0096_01", 743, 455⟩
theorem f456_mem : f456 ∈ fnL := List.mem_of_getElem? (i := 39) (by kernel_rfl)
noncomputable abbrev cc456 : CC := ⟨fun x => klook x f456.scope.names, [], none⟩
noncomputable abbrev e456 (L : Addr) : Env := envOf f456.qual f456.scope L 456 (.ref 455)
noncomputable abbrev c456 (w : World) (G : Heap) (L : Addr) (O : List (Addr × Obj)) : FC := ⟨w, G, L, e456 L, e456 L, [], [], O, cc456⟩
noncomputable def st456 (k : Nat) : Stmt := f456.body.getD k (.Pass default)
theorem body456 : f456.body = [st456 0, st456 1, st456 2, st456 3, st456 4, st456 5] := by kernel_rfl
theorem c456_ok {w : World} {G : Heap} (T : Tp w G) (L : Addr) (O : List (Addr × Obj)) : (c456 w G L O).Ok := ⟨T, rfl, by kernel_rfl, .nil, by kernel_rfl, rfl, rfl, fun x => by show List.lookup x f456.scope.names = klook x f456.scope.names; rw [klook_lookup]⟩
theorem c456_fm {w : World} {G : Heap} {L : Addr} {O : List (Addr × Obj)} : FM (c456 w G L O) := ⟨rfl, rfl⟩
theorem comp_rest {prog : Program} {w : World} {A : Around} {h₀ : Heap} {L : Addr} {m : Str → Option Value} {env : Env} {elt : Expr} {x : Str} {scope : Scope} {cl : List (Str × Addr)} {s : Shared} {its : Array Value} {ax : Addr} {news : List (Addr × Obj)} {R : Nat → Value → Prop} {Fin : List Value → List (Addr × Obj) → Prop} {n : Nat} (S : SrcAt h₀ ax its news)
    (step : ∀ i v I oI C oC D m₂ h tk ys (E' : Value → Shared → Prop) (Q : Value → Shared → Prop), its[i]? = some v → NsObj oC m₂ → m₂ x = some v → Fr h₀ L h m → News h₀ L h ((I, oI) :: (C, oC) :: (D, lst ys) :: news) → Off3 I C D news → (∀ y tk', R i y → Q y { s with heap := h, toks := tk' }) → wpAny (model prog w) A (eval elt (compEnvC scope cl C env)) Q E' { s with heap := h, toks := tk })
    (fin : ∀ ys, ys.length = n → (∀ j, j < n → ∃ y, ys[j]? = some y ∧ R j y) → Fin ys news) :
    ∀ k i ys, i + k = n → ys.length = i → (∀ j, j < i → ∃ y, ys[j]? = some y ∧ R j y) → CompRest prog w A h₀ L m env elt x scope cl s (SrcAt h₀ ax its) (fun i v => its[i]? = some v) Fin k i ys news
  | 0, i, ys, hi, hl, hr => CompRest.zero (fin ys (by omega) (fun j hj => hr j (by omega)))
  | k + 1, i, ys, hi, hl, hr => CompRest.succ fun v I oI C oC D m₂ h tk E' hv hC hx F N off _ => step i v I oI C oC D m₂ h tk ys E' _ hv hC hx F N off fun y tk' r =>
      CompEnd.intro F N news (fun p hp => hp) off S (comp_rest S step fin k (i + 1) (ys ++ [y]) (by omega) (by rw [List.length_append, hl]; rfl) fun j hj => by
        rcases Nat.lt_succ_iff_lt_or_eq.mp hj with h | h
        · obtain ⟨y', a, b⟩ := hr j h
          exact ⟨y', by rw [List.getElem?_append_left (by omega)]; exact a, b⟩
        · subst h
          exact ⟨y, by rw [List.getElem?_append_right (by omega), hl, Nat.sub_self]; rfl, r⟩)
noncomputable def lc0 : Str × Expr × Scope := match st456 0 with
  | .Assign _ (.ListComp e _ sc _) _ => ("cell", e, sc)
  | _ => ("", .Constant .none 0 default, default)
theorem cells_elt {w : World} {G : Heap} {L : Addr} (T : Tp w G) {Ar : Around} {C : Addr} {oC : Obj} {m₂ m : Str → Option Value} {h : Heap} {s : Shared} {tk : Nat} {i : Int} {t : Tok} {Q : Value → Shared → Prop} {E : Value → Shared → Prop} {cl : List (Str × Addr)} (hC : NsObj oC m₂) (hx : m₂ "cell" = some (.int i t)) (F : Fr G L h m) (N : News G L h [(C, oC)])
    (K : ∀ t, Q (.int i t) { s with heap := h, toks := tk }) : wpAny (model pw w) Ar (eval lc0.2.1 (compEnvC lc0.2.2 cl C (e456 L))) Q E { s with heap := h, toks := tk } := by
  have c1 : compOk cc456 lc0.2.2 "cell" = true := by kernel_rfl
  obtain ⟨k1, k2, k3, k4, k5⟩ := compOk_of c1
  have O := c456_ok T L []
  have OB : ((c456 w G L []).blk lc0.2.2 cl C oC).Ok := ⟨O.top, O.fL, O.fK, O.out, k1, O.eG, O.eB, fun y => compCC_kind O.eK O.kind y⟩
  have D : Dyn ((c456 w G L []).blk lc0.2.2 cl C oC) m [(("cell" : Str), .int i)] [] ⟨[], 0⟩ h := by
    refine ⟨[], [], ⟨F, N, by simp, .nil, .nil, rfl, .inr ⟨oC, m₂, .head _, hC, fun y v e => ?_⟩, fun y j e => by cases e⟩⟩
    rw [fget_cons] at e
    cases q : sq "cell" y with
    | true => rw [q] at e; cases e; rw [← sq_iff.mp q]; exact ⟨_, hx, .int _ _⟩
    | false => rw [q] at e; cases e
  refine Call_ (name_sound (c := (c456 w G L []).blk lc0.2.2 cl C oC) (s := { s with heap := h, toks := tk }) (v := .ty "int") OB D (by kernel_rfl) fun u xu => ?_)
  cases xu
  refine PySem.callWith_type rfl (Calls.evalArgs_plain (Calls.spliced_cons (name_sound (c := (c456 w G L []).blk lc0.2.2 cl C oC) (s := { s with heap := h, toks := tk }) (v := .int i) OB D (by kernel_rfl) fun u xu => Calls.spliced_nil ?_)))
  cases xu
  exact call_int_int (K _)
noncomputable abbrev l456 (a : Addr) : Loc := [(("script" : Str), .glob a)]
theorem ints_of_pos : ∀ {is : List Int} {ys : List Value}, ys.length = is.length → (∀ j, j < is.length → ∃ y, ys[j]? = some y ∧ ∃ t, y = .int (is.getD j 0) t) → IntsV is ys
  | [], [], _, _ => .nil
  | [], _ :: _, h, _ => by cases h
  | _ :: _, [], h, _ => by cases h
  | i :: is, y :: ys, h, k => by
    obtain ⟨y', a, t, b⟩ := k 0 (Nat.succ_pos _)
    cases a; subst b
    exact .cons (ints_of_pos (by simpa using h) fun j hj => k (j + 1) (Nat.succ_lt_succ hj))
theorem ints_at : ∀ {is : List Int} {vs : List Value}, IntsV is vs → ∀ {j : Nat} {v : Value}, vs[j]? = some v → ∃ t, v = Value.int (is.getD j 0) t
  | _, _, .nil, j, v, e => by cases e
  | _, _, .cons (t := t) _, 0, v, e => by cases e; exact ⟨t, rfl⟩
  | _, _, .cons r, j + 1, v, e => ints_at r (j := j) e
theorem ints_take : ∀ {is : List Int} {vs : List Value}, IntsV is vs → ∀ k, IntsV (is.take k) (vs.take k)
  | _, _, _, 0 => .nil
  | _, _, .nil, _ + 1 => .nil
  | _, _, .cons r, k + 1 => .cons (ints_take r k)
theorem upto_any {w : World} {Ar : Around} {h₀ : Heap} {L l : Addr} {m : Str → Option Value} {news : List (Addr × Obj)} {s : Shared} {env : Env} {value : Expr} {vs : List Value} {n k : Nat} {p1 p3 : Pos} {Q : Value → Shared → Prop} {E : Value → Shared → Prop} (F : Fr h₀ L s.heap m) (N : News h₀ L s.heap news) (hl : s.heap.IsList l vs.toArray) (hz : vs.length ≤ 1000)
    (h : ∀ D' h' tk, Fr h₀ L h' m → News h₀ L h' ((D', listOf (vs.take k).toArray 0) :: news) → Q (.ref D') { s with heap := h', toks := tk }) :
    wpAny (model pw w) Ar (eval (.Slice none (some (.Constant (.int (.ofNat k)) n p1)) none p3) env)
      (fun i s₂ => wpAny (model pw w) Ar (subscriptTail value (.Slice none (some (.Constant (.int (.ofNat k)) n p1)) none p3) (.ref l) i) Q E s₂) E s := by
  show wpAny _ Ar (do
    let l ← (pure Value.none : Sem Value)
    let u ← holding [l] (eval (.Constant (.int (.ofNat k)) n p1) env)
    let s ← holding [l, u] (pure Value.none)
    newFields "slice" [l, u, s]) _ E s
  refine wpAny_bind (wpAny_pure (wpAny_bind (wpAny_holding ?_)))
  refine wpAny_Constant_int ?_
  refine wpAny_bind (wpAny_holding (wpAny_pure ?_))
  refine wpAny_newObj_type ?_ (by show 3 ≤ _; rw [sizeLine_eq]; decide)
  refine kba_turn (value' := .Name "x" ⟨0, 0, 0, 0⟩) (fun _ => rfl) ?_
  refine kmk_slice_lit (s := { s with toks := _ }) (vl := .none) (vu := .int (.ofNat k) _) (zs := vs.take k) F N hl .none (.int _ _) ?_ (fun D' h' F N hlt => h D' h' _ F N) rfl (fun _ => rfl) (by rw [sizeLine_eq, List.size_toArray]; omega)
  show (slicePick vs.toArray none (some (k : Int)) none).toList = _
  rw [slicePick_upto']
theorem cells_sound {w : World} {G : Heap} {L aL : Addr} (T : Tp w G) {Ar : Around} {m : Str → Option Value} {s : Shared} {is : List Int} {vs : List Value} {Q : Flow → Shared → Prop} {E : Value → Shared → Prop} (hA : Ar.handled = none) (D : DynI (c456 w G L []) m (l456 aL) [] ⟨[], 0⟩ s.heap [] []) (hl : G.IsList aL vs.toArray) (hv : IntsV is vs) (hz : vs.length ≤ 63)
    (K : ∀ m' ca ys h tk, IntsV (is.take 60) ys → DynI (c456 w G L [(ca, lst ys)]) m' (l456 aL ++ [(("cells" : Str), .glob ca)]) [] ⟨[], 0⟩ h [] [] → Q .next { s with heap := h, toks := tk }) : wpAny (model pw w) Ar (exec (st456 0) (e456 L)) Q E s := by
  have c1 : compOk cc456 lc0.2.2 "cell" = true := by kernel_rfl
  obtain ⟨k1, k2, k3, k4, k5⟩ := compOk_of c1
  have O := c456_ok T L []
  refine Assign_ListComp_U (elt := lc0.2.1) (scope := lc0.2.2) (x := "cell") (y := "cells") (cl := []) D.F rfl (by kernel_rfl) (by kernel_rfl) k3 k1 k4 k2 (by kernel_rfl) (by kernel_rfl) ?_
  refine Subscript_ (name_sound (c := c456 w G L []) O D.toks (v := .glob aL) (by kernel_rfl) fun u xu => ?_)
  cases xu
  refine upto_any D.F D.N (D.F.lst hl) (by omega) fun D' h' tk F N => ?_
  have hv' := ints_take hv 60
  have zl := ints_len hv'
  refine CompSrc.ledger (news := [(D', listOf (vs.take 60).toArray 0)]) (k := 0) hA F N (.head _) (by rw [List.size_toArray, sizeLine_eq, List.length_take]; omega) fun g => ?_
  rw [List.size_toArray]
  refine comp_rest (n := (vs.take 60).length) (R := fun j y => ∃ t, y = .int ((is.take 60).getD j 0) t) (.inr ⟨_, .head _, rfl, _, rfl⟩) (fun i v I oI C oC DD m₂ h tk ys E' Q' hi hC hx F N off K' => ?_) (fun ys hy hr => ?_) _ 0 [] (Nat.zero_add _) rfl (fun j hj => absurd hj (Nat.not_lt_zero _))
  · obtain ⟨t, rfl⟩ := ints_at hv' (j := i) (v := v) (by simpa using hi)
    exact cells_elt (w := w) T hC hx F (fun p hp => N p (by rcases List.mem_singleton.mp hp with rfl; simp)) fun t => K' _ _ ⟨t, rfl⟩
  · intro ca h tk F N off
    refine K _ ca ys h tk (ints_of_pos (by rw [hy, zl]) (fun j hj => hr j (by rw [zl]; exact hj))) ⟨F, fun p hp => N p (by rcases List.mem_singleton.mp hp with rfl; simp), by simp, .nil, .nil, rfl, .inl ⟨rfl, fun y v e => ?_⟩, fun y j e => by cases e⟩
    have LL := LR_of (c456_fm (w := w) (G := G) (L := L) (O := [])) D
    exact LL.put (x := "cells") (VR.glob ca) y v e
end Mine
end
section
open PySem PySem.W PyProof.Rows
set_option Elab.async false
namespace Mine
set_option maxRecDepth 100000
open PyProof.Rows.LCg
/-! law: its source, its data -/
noncomputable abbrev src456 (a : Addr) : Loc := [(("source" : Str), .glob a)]
section
variable {w : World} {G : Heap} {L : Addr} {Ar : Around} {s : Shared} {E : Value → Shared → Prop}
/-- a new list, set beside -/
theorem list_beside {m : Str → Option Value} {loc : Loc} {O : List (Addr × Obj)} {us : List Value} {Q : Value → Shared → Prop} (D : DynI (c456 w G L O) m loc [] ⟨[], 0⟩ s.heap [] []) (hz : us.length ≤ 1000)
    (K : ∀ l h, DynI (c456 w G L ((l, listOf us.toArray 0) :: O)) m loc [] ⟨[], 0⟩ h [] [] → Q (.ref l) { s with heap := h }) : wpAny (model pw w) Ar (newList us) Q E s :=
  newList_K D.F D.N (fun l h' F N hlt => K l h' (D.beside F N fun p hp => Nat.ne_of_lt (hlt p hp))) (by rw [sizeLine_eq]; omega)
theorem LR.less {ρ : List Addr} {l l' : Loc} {m : Str → Option Value} (h : LR ρ l m) (x : ∀ y v, fget y l' = some v → fget y l = some v) : LR ρ l' m := fun y v e => h y v (x y v e)
theorem source_sound (T : Tp w G) {aL ca : Addr} {m : Str → Option Value} {is : List Int} {ys : List Value} {Q : Flow → Shared → Prop} (D : DynI (c456 w G L [(ca, lst ys)]) m (l456 aL ++ [(("cells" : Str), .glob ca)]) [] ⟨[], 0⟩ s.heap [] []) (hv : IntsV is ys) (hz : is.length ≤ 60)
    (K : ∀ m' aS S h tk, OR w.params [] (dum 100) aS S → DynI (c456 w G L S) m' (src456 aS) [] ⟨[], 0⟩ h [] [] → Q .next { s with heap := h, toks := tk }) : wpAny (model pw w) Ar (exec (st456 1) (e456 L)) Q E s := by
  have O := fun X => c456_ok T L X
  have M : ∀ X, FM (c456 w G L X) := fun X => c456_fm
  have zl := ints_len hv
  -- behind the choice of cells
  have fin : ∀ {is' : List Int} {vs : List Value} {c' n' : Addr} {X : List (Addr × Obj)} {m : Str → Option Value} {h : Heap} {tk : Nat} {t : Tok}, IntsV is' vs → is' ≠ [] → is'.length ≤ 100 → (c', listOf vs.toArray n') ∈ X →
      DynI (c456 w G L X) m (l456 aL ++ [(("cells" : Str), .glob ca)]) [] ⟨[], 0⟩ h [] [] → wpAny (model pw w) Ar (newList [.ref c', .int 0 t]) (fun v s₁ => wpAny (model pw w) Ar (storeName (e456 L) "source" v) (fun _ => Q .next) E s₁) E { s with heap := h, toks := tk } := by
    intro is' vs c' n' X m h tk t h1 h2 h3 hm D
    refine list_beside (s := { s with heap := h, toks := tk }) D (by simp) fun aS h2' D2 => ?_
    refine storeI_sound (c := c456 w G L ((aS, listOf [Value.ref c', .int 0 t].toArray 0) :: X)) (s := { s with heap := h2', toks := tk }) (v := .glob aS) (O _) (M _) D2 (by kernel_rfl) (.glob _) fun m3 h3' tk3 D3 => ?_
    obtain ⟨X1, X2, rfl⟩ := List.append_of_mem hm
    refine K m3 aS [(aS, listOf [Value.ref c', .int 0 t].toArray 0), (c', listOf vs.toArray n')] h3' tk3 (.src h1 h2 h3 (at_ := 0) (by rw [List.length_replicate]; omega) (draws_dummy _ _)) ?_
    have D4 : DynI ((c456 w G L []).ot ((aS, listOf [Value.ref c', .int 0 t].toArray 0) :: (X1 ++ (c', listOf vs.toArray n') :: X2))) m3 _ [] ⟨[], 0⟩ h3' [] [] := D3
    refine D4.regroup (O2 := [(aS, listOf [Value.ref c', .int 0 t].toArray 0), (c', listOf vs.toArray n')]) (rest := X1 ++ X2) ?_ .nil rfl (.inl ⟨rfl, ?_⟩) (fun y j e => by cases e)
    · refine perm_count fun p => ?_
      simp only [List.count_append, List.count_cons, List.count_nil]
      omega
    · refine LR.less (LR_of (M _) D3) fun y v e => ?_
      rw [fget_cons] at e
      cases q : sq "source" y with
      | true => rw [q] at e; cases e; rw [← sq_iff.mp q]; kernel_rfl
      | false => rw [q] at e; cases e
  refine wpAny_Assign_Name ?_ (noSwap (by rfl))
  refine List_ (args_cons (IfExp_ (isTrue_plain ?_)))
  refine name_sound (c := c456 w G L [(ca, lst ys)]) (O _) D.toks (v := .glob ca) (by kernel_rfl) fun u xu => ?_
  cases xu
  have il : s.heap.IsList ca ys.toArray := D.N.isList (n := ys.length) (.head _)
  refine wpAny_truthy_list il (by rw [List.size_toArray]; omega) ?_
  by_cases hn : ys = []
  · subst hn
    rw [show (!([] : List Value).toArray.isEmpty) = false from rfl, if_neg (by decide)]
    refine List_ (args_cons (wpAny_Constant_int (args_nil ?_)))
    refine list_beside (s := { s with toks := s.toks + 1 + 1 + 1 }) D (by simp) fun l2 h2 D2 => ?_
    refine args_cons (wpAny_Constant_int (args_nil ?_))
    exact fin (is' := [0]) (.cons .nil) (by simp) (by simp) (.head _) D2
  · rw [show (!ys.toArray.isEmpty) = true by cases ys with
      | nil => exact absurd rfl hn
      | cons _ _ => rfl, if_pos rfl]
    refine name_sound (c := c456 w G L [(ca, lst ys)]) (s := { s with toks := s.toks + 1 + 1 }) (O _) D.toks (v := .glob ca) (by kernel_rfl) fun u xu => ?_
    cases xu
    refine args_cons (wpAny_Constant_int (args_nil ?_))
    refine fin hv ?_ (by omega) (.head _) D
    intro e
    subst e
    rw [List.length_nil] at zl
    exact hn (List.eq_nil_of_length_eq_zero zl)
end
end Mine
end
section
open PySem PySem.W PyProof.Rows
set_option Elab.async false
namespace Mine
set_option maxRecDepth 100000
open PyProof.Rows.LCg
/-! law: its data; the second words of the faults -/
noncomputable abbrev sd456 (a : Addr) : Loc := [(("source" : Str), .glob a), (("data" : Str), .ref 0)]
noncomputable abbrev tl456 (a : Addr) (i : Int) : Loc := sd456 a ++ [(("turn" : Str), .int i)]
noncomputable abbrev cd456 (a1 f1 : Addr) : Loc := [(("cond" : Str), .glob a1), (("due" : Str), .glob f1)]
noncomputable def fb456 : List Stmt := match st456 4 with | .For _ _ b _ _ => b | _ => []
noncomputable def b456 (k : Nat) : Stmt := fb456.getD k (.Pass default)
noncomputable def tg456 : Expr := match b456 0 with | .Assign [t] _ _ => t | _ => .Constant .none 0 default
noncomputable def lc1 : Str × Expr × Scope := match b456 1 with
  | .If (.Compare (.ListComp e _ sc _) _ _ _) _ _ _ => ("pair", e, sc)
  | _ => ("", .Constant .none 0 default, default)
theorem fbody456 : fb456 = [b456 0, b456 1] := by kernel_rfl
theorem s2_456 (a : Addr) : stepS (run 201) cc456 (src456 a) (st456 2) ⟨[], 0⟩ = some (.ok (.next, sd456 a) ⟨H1, 80⟩) := by kernel_rfl
theorem s3_456 (a : Addr) : stepS (run 201) cc456 (sd456 a) (st456 3) ⟨H1, 80⟩ = some (.ok (.next, sd456 a) ⟨HD, 89⟩) := by kernel_rfl
theorem bind456 (a a1 f1 : Addr) (i : Int) : bindT cc456 (tl456 a i) ((89, .tup [.glob a1, .glob f1]) :: HD) tg456 (.ref 89) = some (tl456 a i ++ cd456 a1 f1) := by kernel_rfl
theorem n456_cond (l : Loc) (H : AHeap) : evName cc456 l "_law_cond" H = some (.glob 451) := by kernel_rfl
theorem n456_faults (l : Loc) (H : AHeap) : evName cc456 l "cond_faults" H = some (.glob 362) := by kernel_rfl
theorem n456_source (a : Addr) (l : Loc) (H : AHeap) : evName cc456 (sd456 a ++ l) "source" H = some (.glob a) := by kernel_rfl
theorem n456_data (a : Addr) (l : Loc) (H : AHeap) : evName cc456 (sd456 a ++ l) "data" H = some (.ref 0) := by kernel_rfl
theorem n456_cnd (a a1 f1 : Addr) (i : Int) (H : AHeap) : evName cc456 (tl456 a i ++ cd456 a1 f1) "cond" H = some (.glob a1) := by kernel_rfl
theorem n456_due (a a1 f1 : Addr) (i : Int) (H : AHeap) : evName cc456 (tl456 a i ++ cd456 a1 f1) "due" H = some (.glob f1) := by kernel_rfl
theorem faults_get {X : List (Addr × Obj)} {its : List Value} {ns : List Str} (x : FaultsAre X its ns) : ∀ {i : Nat} {v : Value}, its[i]? = some v → ∃ t k s tm tn n, v = .ref t ∧ (t, tupOf [.str k tm, .str s tn] n) ∈ X ∧ ns[i]? = some s := by
  induction x with
  | nil => intro i v e; cases e
  | @cons t k s its ns tm tn n hm _ ih =>
    intro i v e
    cases i with
    | zero => cases e; exact ⟨t, k, s, tm, tn, n, rfl, hm, rfl⟩
    | succ i => exact ih (i := i) e
section
variable {w : World} {G : Heap} {L : Addr}
/-- the second word of a fault -/
theorem pair_elt (T : Tp w G) {Ar : Around} {C t : Addr} {oC : Obj} {m₂ m : Str → Option Value} {h : Heap} {s : Shared} {tk : Nat} {k x : Str} {tm tn : Tok} {n : Nat} {Q : Value → Shared → Prop} {E : Value → Shared → Prop} {cl : List (Str × Addr)} (hC : NsObj oC m₂) (hx : m₂ "pair" = some (.ref t)) (F : Fr G L h m) (N : News G L h [(C, oC)])
    (ht : h.get? t = some (tupOf [.str k tm, .str x tn] n)) (K : ∀ tk, Q (.str x tn) { s with heap := h, toks := tk }) : wpAny (model pw w) Ar (eval lc1.2.1 (compEnvC lc1.2.2 cl C (e456 L))) Q E { s with heap := h, toks := tk } := by
  have c1 : compOk cc456 lc1.2.2 "pair" = true := by kernel_rfl
  obtain ⟨k1, k2, k3, k4, k5⟩ := compOk_of c1
  have O := c456_ok T L []
  have OB : ((c456 w G L []).blk lc1.2.2 cl C oC).Ok := ⟨O.top, O.fL, O.fK, O.out, k1, O.eG, O.eB, fun y => compCC_kind O.eK O.kind y⟩
  have D : Dyn ((c456 w G L []).blk lc1.2.2 cl C oC) m [(("pair" : Str), .glob t)] [] ⟨[], 0⟩ h := by
    refine ⟨[], [], ⟨F, N, by simp, .nil, .nil, rfl, .inr ⟨oC, m₂, .head _, hC, fun y v e => ?_⟩, fun y j e => by cases e⟩⟩
    rw [fget_cons] at e
    cases q : sq "pair" y with
    | true => rw [q] at e; cases e; rw [← sq_iff.mp q]; exact ⟨_, hx, .glob _⟩
    | false => rw [q] at e; cases e
  refine Subscript_ (name_sound (c := (c456 w G L []).blk lc1.2.2 cl C oC) (s := { s with heap := h, toks := tk }) (v := .glob t) OB D (by kernel_rfl) fun u xu => ?_)
  cases xu
  refine wpAny_Constant_int (item_tupleT (l := [.str k tm, .str x tn]) (j := 1) ⟨_, ht, rfl, n, rfl⟩ (by decide) (by decide) (by rfl) rfl (K _) (sub_plain rfl))
theorem strs_eq_at {A : Around} {s : Shared} : ∀ {xs ys : List Value} {ns : List Str}, StrsAre xs ns → StrsAre ys ns → ∀ j (h1 : j < xs.toArray.size) (h2 : j < ys.toArray.size), SeqAt.EqAt A s xs.toArray[j] ys.toArray[j] true
  | _, _, _, .nil, .nil, j, h1, _ => absurd h1 (Nat.not_lt_zero _)
  | _, _, _, .cons n t r, .cons _ u r', 0, _, _ => by
    have := SeqAt.EqAt.str_str (A := A) (s := s) n t n u
    rwa [show (n == n) = true from by simp] at this
  | _, _, _, .cons _ _ r, .cons _ _ r', j + 1, h1, h2 => by
    have := strs_eq_at (A := A) (s := s) r r' j (by simpa using h1) (by simpa using h2)
    simpa using this
theorem strs_all {ys : List Value} {ns : List Str} (hl : ys.length = ns.length) (h : ∀ j, j < ns.length → ∃ y, ys[j]? = some y ∧ ∃ x t, ns[j]? = some x ∧ y = .str x t) : StrsAre ys ns := by
  induction ns generalizing ys with
  | nil => rw [List.eq_nil_of_length_eq_zero hl]; exact .nil
  | cons x ns ih =>
    cases ys with
    | nil => cases hl
    | cons y ys =>
      obtain ⟨y', a, x', t, b, e⟩ := h 0 (Nat.succ_pos _)
      cases a; cases b; subst e
      exact .cons _ _ (ih (by simpa using hl) fun j hj => h (j + 1) (Nat.succ_lt_succ hj))
end
end Mine
end
section
open PySem PySem.W PyProof.Rows
set_option Elab.async false
namespace Mine
set_option maxRecDepth 100000
open PyProof.Rows.LCg
/-! law: one turn -/
theorem fget_app {x : Str} {v : AV} : ∀ {l l' : Loc}, fget x l = some v → fget x (l ++ l') = some v
  | [], _, h => by cases h
  | (y, u) :: r, l', h => by
    rw [List.cons_append, fget_cons]
    rw [fget_cons] at h
    cases q : sq y x with
    | true => rw [q] at h; exact h
    | false => rw [q] at h; exact fget_app (l := r) h
section
variable {w : World} {G : Heap} {L : Addr}
theorem law_turn (T : Tp w G) {ρD : List Addr} {d : Addr} (hρ : ρD.length = 89) (hd : ρD[0]? = some d) {Ar : Around} {m : Str → Option Value} {aS : Addr} {i : Int} {s : Shared} {own fo O S : List (Addr × Obj)} {B : Nat} {itm : Addr × Obj} {Q : Flow → Shared → Prop} {E : Value → Shared → Prop} (A : ArOk (c456 w G L []) ρD Ar 300)
    (D : DynI ((c456 w G L []).ot (S ++ (itm :: O))) m (tl456 aS i) ρD ⟨HD, 89⟩ s.heap own fo) (o : OR w.params [] (dum (31 + B)) aS S)
    (K : ∀ m' h' tk own' fo' O' Sr, DynI ((c456 w G L []).ot (itm :: (Sr ++ O'))) m' (sd456 aS) ρD ⟨HD, 89⟩ h' own' fo' → OR w.params [] (dum B) aS Sr → Q .next { s with heap := h', toks := tk }) :
    wpAny (model pw w) Ar (execs fb456 (e456 L)) Q E s := by
  have Oc := c456_ok T L []
  have M : FM (c456 w G L []) := c456_fm
  have M' : ∀ O', FM ((c456 w G L []).ot O') := fun _ => ⟨M.1, M.2⟩
  have hh : (c456 w G L []).cc.hand = none := rfl
  have hc : (c456 w G L []).cc.cells = [] := rfl
  have hA : Ar.handled = none := A.hd
  rw [fbody456]
  refine wpAny_execs_cons (Assign_Tuple ?_)
  refine Call_ (name_sound (c := (c456 w G L []).ot (S ++ (itm :: O))) (Oc.ot _) D.toks (n456_cond _ _) fun u xu => ?_)
  cases xu
  refine callWith_of (P := (KF w.params).In) (by rfl) (keep451 w _) (Calls.evalArgs_plain (Calls.spliced_cons (name_sound (c := (c456 w G L []).ot (S ++ (itm :: O))) (Oc.ot _) D.toks (n456_source _ _ _) fun u xu => Calls.spliced_cons (wpAny_Constant_int (k := 0) (pos := ⟨338, 38, 338, 39⟩) (Calls.spliced_nil ⟨?_, ?_⟩)))))
  · exact T.X.keeps D.F.keep
  cases xu
  have L0 : LocS (c456 w G L []) m (tl456 aS i) ρD := ⟨M.loc, LR_of (M' _) D⟩
  refine lc_sound hρ 3 (by decide) (c := c456 w G L []) (s := { s with toks := _ }) (O := itm :: O) (S := S) (B := B) Oc (A.le (by decide)) hh hc L0 D o fun h5 tk5 p uc ud np C X S' Sr own5 fo5 D5 x1 x2 x3 x4 x5 => ?_
  obtain ⟨a1, rfl⟩ := x1.isRef
  obtain ⟨f1, rfl⟩ := x2.isRef
  refine take_pair (s := { s with heap := h5, toks := tk5 }) (loc' := tl456 aS i ++ cd456 a1 f1) hρ Oc M (A.le (by decide)) hh hc L0 D5 (bind456 _ _ _ _) (by rfl) fun m6 h6 tk6 np6 own6 fo6 L6 D6 => ?_
  obtain ⟨l1, i1, n1, e1, mem1, st1⟩ := x2
  cases e1
  have zC : C.names.length ≤ 24 := x4
  -- the test
  refine wpAny_execs_cons (wpAny_If ?_)
  refine wpAny_isTrue_Compare1 ?_ (by rfl)
  have c1 : compOk cc456 lc1.2.2 "pair" = true := by kernel_rfl
  obtain ⟨k1, k2, k3, k4, k5⟩ := compOk_of c1
  refine ListComp_U (elt := lc1.2.1) (scope := lc1.2.2) (x := "pair") (cl := []) (m := m6) D6.F (by kernel_rfl) k3 k1 k4 k2 ?_
  refine Call_ (name_sound (c := (c456 w G L []).ot ((p, tupOf [.ref a1, .ref f1] np6) :: (X ++ (S' ++ (Sr ++ itm :: O))))) (s := { s with heap := h6, toks := tk6 }) (Oc.ot _) D6.toks (n456_faults _ _) fun u xu => ?_)
  cases xu
  refine callWith_of (P := (KF w.params).In) (by rfl) (keep362 w _) (Calls.evalArgs_plain (Calls.spliced_cons (name_sound (c := (c456 w G L []).ot ((p, tupOf [.ref a1, .ref f1] np6) :: (X ++ (S' ++ (Sr ++ itm :: O))))) (s := { s with heap := h6, toks := tk6 }) (Oc.ot _) D6.toks (n456_data _ _ _) fun u xu => Calls.spliced_cons (name_sound (c := (c456 w G L []).ot ((p, tupOf [.ref a1, .ref f1] np6) :: (X ++ (S' ++ (Sr ++ itm :: O))))) (s := { s with heap := h6, toks := tk6 }) (Oc.ot _) D6.toks (n456_cnd _ _ _ _ _) fun u2 xu2 => Calls.spliced_nil ⟨?_, ?_⟩))))
  · exact T.X.keeps D6.F.keep
  cases xu with
  | ref hu =>
  rw [hd] at hu; cases hu
  cases xu2
  refine cf_sound hρ hd C (by omega) (c := c456 w G L []) (s := { s with heap := h6, toks := tk6 }) (O := (p, tupOf [.ref a1, .ref f1] np6) :: (X ++ (Sr ++ itm :: O))) (S := S') Oc (A.le (by omega)) hh hc L6 (D6.perm ?_) x1 fun h7 tk7 u7 X7 S7 own7 fo7 D7 y7 f7 => ?_
  · refine perm_count fun p => ?_
    simp only [List.count_append, List.count_cons]
    omega
  obtain ⟨k1', i7, n7, rfl, mem7, are7⟩ := f7
  have z7 := are7.len
  have mem7' : (k1', listOf i7.toArray n7) ∈ own7 ++ ((X7 ++ (S7 ++ (p, tupOf [.ref a1, .ref f1] np6) :: (X ++ (Sr ++ itm :: O)))) ++ fo7) := by simp [mem7]
  refine CompSrc.ledger (news := own7 ++ ((X7 ++ (S7 ++ (p, tupOf [.ref a1, .ref f1] np6) :: (X ++ (Sr ++ itm :: O)))) ++ fo7)) (k := n7) hA D7.F D7.N mem7' (by rw [List.size_toArray, sizeLine_eq]; omega) fun g => ?_
  rw [List.size_toArray]
  refine comp_rest (n := i7.length) (R := fun j y => ∃ x t, C.names[j]? = some x ∧ y = .str x t) (.inr ⟨_, mem7', rfl, n7, rfl⟩) (fun j v I oI Cc oC DD m₂ h tk ys E' Q' hi hC hx F N off K' => ?_) (fun ys hy hr => ?_) _ 0 [] (Nat.zero_add _) rfl (fun j hj => absurd hj (Nat.not_lt_zero _))
  · obtain ⟨t, k, x, tm, tn, n, rfl, hm, hn⟩ := faults_get are7 (i := j) (v := v) (by simpa using hi)
    refine pair_elt (w := w) (k := k) (x := x) (tm := tm) (tn := tn) (n := n) T hC hx F (fun p hp => N p (by rcases List.mem_singleton.mp hp with rfl; simp)) (N (t, tupOf [.str k tm, .str x tn] n) (by simp [hm])).1 fun tk' => K' _ _ ⟨x, tn, hn, rfl⟩
  intro DD h8 tk8 F8 N8 off8
  have hy8 : StrsAre ys C.names := strs_all (by omega) fun j hj => hr j (by omega)
  have D8 : DynI ((c456 w G L []).ot ((DD, lst ys) :: (X7 ++ (S7 ++ (p, tupOf [.ref a1, .ref f1] np6) :: (X ++ (Sr ++ itm :: O)))))) m6 _ ρD ⟨HD, 89⟩ h8 own7 fo7 := D7.beside F8 N8 (fun p hp => by
    have : ∀ {l : List (Addr × Obj)}, Off1 DD l → ∀ p ∈ l, p.1 ≠ DD := by
      intro l
      induction l with
      | nil => intro _ p hp; cases hp
      | cons a l ih =>
        intro x p hp
        rcases List.mem_cons.mp hp with rfl | hp
        · exact x.1
        · exact ih x.2 p hp
    exact this off8 p hp)
  refine name_sound (c := (c456 w G L []).ot ((DD, lst ys) :: (X7 ++ (S7 ++ (p, tupOf [.ref a1, .ref f1] np6) :: (X ++ (Sr ++ itm :: O)))))) (s := { s with heap := h8, toks := tk8 }) (Oc.ot _) D8.toks (n456_due _ _ _ _ _) fun u3 xu3 => ?_
  cases xu3
  have hmD : (DD, lst ys) ∈ own7 ++ (((DD, lst ys) :: (X7 ++ (S7 ++ (p, tupOf [.ref a1, .ref f1] np6) :: (X ++ (Sr ++ itm :: O))))) ++ fo7) := by simp
  have il1 : h8.IsList DD ys.toArray := D8.N.isList (n := ys.length) hmD
  have hmem : (f1, listOf i1.toArray n1) ∈ own7 ++ (((DD, lst ys) :: (X7 ++ (S7 ++ (p, tupOf [.ref a1, .ref f1] np6) :: (X ++ (Sr ++ itm :: O))))) ++ fo7) := by
    simp at mem1
    simp [mem1]
  have il2 : h8.IsList f1 i1.toArray := D8.N.isList (n := n1) hmem
  have q1 := StrsAre.length hy8
  have q2 := StrsAre.length st1
  have ne := SeqAt.RcNeAt.lists (A := Ar) (s := { s with heap := h8, toks := tk8 }) (e := fun _ => true) il1 il2 (by rw [List.size_toArray, List.size_toArray]; omega) A.cl (fun j h1 h2 => strs_eq_at hy8 st1 j h1 h2)
  refine ne _ _ _ _ ?_
  rw [show (!(List.range ys.toArray.size).all fun _ => true) = false by simp]
  refine wpAny_truthy_bool ?_
  rw [if_neg (by decide)]
  refine wpAny_execs_nil ?_
  refine wpAny_execs_nil ?_
  refine K m6 h8 tk8 own7 fo7 ((DD, lst ys) :: (X7 ++ (S7 ++ (p, tupOf [.ref a1, .ref f1] np6) :: (X ++ O)))) Sr ?_ x5
  refine D8.regroup (rest := []) ?_ D8.led D8.n (.inl ⟨rfl, LR.less (LR_of (M' _) D8) fun y v e => ?_⟩) (cells_nil hc _)
  · refine perm_count fun p => ?_
    simp only [List.count_append, List.count_cons, List.count_nil]
    omega
  · exact fget_app (l := sd456 aS) e
end
end Mine
end
section
open PySem PySem.W PyProof.Rows
set_option Elab.async false
namespace Mine
set_option maxRecDepth 100000
open PyProof.Rows.LCg
/-! law: its two turns, its whole body -/
noncomputable def tf456 : Expr := match st456 4 with | .For t _ _ _ _ => t | _ => .Constant .none 0 default
theorem tbind456 (a : Addr) (i : Nat) : bindT cc456 (sd456 a) HD tf456 (.int (.ofNat i)) = some (tl456 a ((i : Nat) : Int)) := by kernel_rfl
section
variable {w : World} {G : Heap} {L : Addr}
theorem law_for (T : Tp w G) {ρD : List Addr} {d : Addr} (hρ : ρD.length = 89) (hd : ρD[0]? = some d) {Ar : Around} {m : Str → Option Value} {aS : Addr} {s : Shared} {own fo O S : List (Addr × Obj)} {Q : Flow → Shared → Prop} {E : Value → Shared → Prop} (A : ArOk (c456 w G L []) ρD Ar 300)
    (D : DynI ((c456 w G L []).ot (S ++ O)) m (sd456 aS) ρD ⟨HD, 89⟩ s.heap own fo) (o : OR w.params [] (dum (31 * 2)) aS S)
    (K : ∀ m' h' tk own' fo' O', DynI ((c456 w G L []).ot O') m' (sd456 aS) ρD ⟨HD, 89⟩ h' own' fo' → Q .next { s with heap := h', toks := tk }) :
    wpAny (model pw w) Ar (exec (st456 4) (e456 L)) Q E s := by
  have Oc := c456_ok T L []
  have M : FM (c456 w G L []) := c456_fm
  have M' : ∀ O', FM ((c456 w G L []).ot O') := fun _ => ⟨M.1, M.2⟩
  refine wpAny_For (target := tf456) ?_
  refine Call_ (name_sound (c := (c456 w G L []).ot (S ++ O)) (v := .ty "range") (Oc.ot _) D.toks (by kernel_rfl) fun u xu => ?_)
  cases xu
  refine PySem.callWith_type rfl (Calls.evalArgs_plain (Calls.spliced_cons (wpAny_Constant_int (k := 2) (pos := ⟨337, 22, 337, 23⟩) (Calls.spliced_nil ?_))))
  refine range_sound (c := (c456 w G L []).ot (S ++ O)) (k := 2) (s := { s with toks := s.toks + 1 }) D.toks (by decide) fun it h1 tk1 o1 D1 I1 => ?_
  obtain ⟨own1, fo1, D1⟩ := D1
  refine codeAny_forLoop_any (fun j s' => ∃ m i o' own fo O S h tk, s' = { s with heap := h, toks := tk } ∧ i + j = 2 ∧ DynI ((c456 w G L []).ot (S ++ ((it, o') :: O))) m (sd456 aS) ρD ⟨HD, 89⟩ h own fo ∧ ItO ρD (.rng 2) i o' ∧ OR w.params [] (dum (31 * j)) aS S) ?_ 2
    ⟨m, 0, o1, own1, fo1, O, S, h1, tk1, rfl, rfl, DynI.perm (O1 := (it, o1) :: (S ++ O)) D1 List.perm_middle, I1, o⟩
  rintro j s' ⟨m, i, o', own, fo, O, S, h, tk, rfl, hj, D, I, o⟩
  have Dw : DynI (((c456 w G L []).ot (S ++ O)).wo (it, o')) m (sd456 aS) ρD ⟨HD, 89⟩ h own fo := DynI.perm (O2 := (it, o') :: (S ++ O)) D List.perm_middle.symm
  have hne : ((c456 w G L []).ot (S ++ O)).env.locals ≠ it := by
    show (c456 w G L []).env.locals ≠ it
    rw [M.loc]
    exact Ne.symm Dw.itMem.2.1
  cases j with
  | zero =>
    obtain rfl : i = 2 := by omega
    exact next_end (c := (c456 w G L []).ot (S ++ O)) (s := { s with heap := h, toks := tk }) (Oc.ot _) Dw hne A.hd I (by rfl) (by rfl) fun h' D' => wpAny_execs_nil (K m h' tk own fo _ D')
  | succ j =>
    have hi : Nat.blt i 2 = true := Nat.ble_eq_true_of_le (by omega)
    refine next_item (c := (c456 w G L []).ot (S ++ O)) (s := { s with heap := h, toks := tk }) (v := .int (.ofNat i)) (Oc.ot _) Dw hne I (by
      show (match Nat.blt i 2 with | true => _ | false => _) = _
      rw [hi]) fun u h2 o2 tk2 D2 I2 x2 => ?_
    refine goOwned (c := c456 w G L []) (s := { s with heap := h2, toks := tk2 }) I2 D2.itMem.1 ?_
    refine bind_sound (c := ((c456 w G L []).ot (S ++ O)).wo (it, o2)) (s := { s with heap := h2, toks := tk2 }) ((Oc.ot _).wo _) ((M' _).wo _) A.hd D2.toks (tbind456 aS i) x2 fun m3 h3 tk3 D3 => ?_
    obtain ⟨own3, fo3, D3⟩ := D3
    refine law_turn T hρ hd (s := { s with heap := h3, toks := tk3 }) (itm := (it, o2)) (O := O) (S := S) (B := 31 * j) A (DynI.perm (O1 := (it, o2) :: (S ++ O)) D3 List.perm_middle) (by rw [show 31 + 31 * j = 31 * (j + 1) by omega]; exact o) fun m4 h4 tk4 own4 fo4 O4 Sr D4 o4 => ?_
    exact ⟨j, Nat.lt_succ_self j, m4, i + 1, o2, own4, fo4, O4, Sr, h4, tk4, rfl, by omega, D4.perm List.perm_middle, I2, o4⟩
theorem law_body (T : Tp w G) {Ar : Around} {aL : Addr} {m : Str → Option Value} {s : Shared} {is : List Int} {vs : List Value} {Q : Flow → Shared → Prop} {E : Value → Shared → Prop} (A : ArOk (c456 w G L []) [] Ar 300) (D : DynI (c456 w G L []) m (l456 aL) [] ⟨[], 0⟩ s.heap [] []) (hl : G.IsList aL vs.toArray) (hv : IntsV is vs) (hz : vs.length ≤ 63)
    (K : ∀ m' h tk, Fr G L h m' → Q (.ret (.bool true)) { s with heap := h, toks := tk }) : wpAny (model pw w) Ar (execs f456.body (e456 L)) Q E s := by
  rw [body456]
  refine wpAny_execs_cons (cells_sound T A.hd D hl hv hz fun m1 ca ys h1 tk1 hv1 D1 => ?_)
  refine wpAny_execs_cons (source_sound (s := { s with heap := h1, toks := tk1 }) T D1 hv1 (by rw [List.length_take]; omega) fun m2 aS S h2 tk2 o2 D2 => ?_)
  have A' : ∀ ρ O n, n ≤ 300 → ArOk (c456 w G L O) ρ Ar n := fun ρ O n hn => (A.ot (ρ' := ρ) rfl O).le hn
  refine wpAny_execs_cons (runS (c := c456 w G L S) (n := 201) (s := { s with heap := h2, toks := tk2 }) (c456_ok T L S) c456_fm (A' _ _ _ (by decide)) (s2_456 aS) D2.toks fun m3 l3 h3 tk3 fl D3 x3 => ?_)
  cases x3
  refine wpAny_execs_cons (runS (c := c456 w G L S) (n := 201) (s := { s with heap := h3, toks := tk3 }) (c456_ok T L S) c456_fm (A' _ _ _ (by decide)) (s3_456 aS) D3 fun m4 l4 h4 tk4 fl D4 x4 => ?_)
  cases x4
  generalize [] ++ l3 ++ l4 = ρD at D4
  obtain ⟨own4, fo4, D4⟩ := D4
  have hρ : ρD.length = 89 := D4.n
  obtain ⟨d, hd⟩ : ∃ d, ρD[0]? = some d := ⟨_, List.getElem?_eq_getElem (by omega)⟩
  have D5 : DynI ((c456 w G L []).ot (S ++ [])) m4 (sd456 aS) ρD ⟨HD, 89⟩ h4 own4 fo4 := by rw [List.append_nil]; exact D4
  refine wpAny_execs_cons (law_for T hρ hd (s := { s with heap := h4, toks := tk4 }) (A' _ _ _ (Nat.le_refl _)) D5 (src_le (by decide) o2) fun m6 h6 tk6 own6 fo6 O6 D6 => ?_)
  exact wpAny_execs_cons (wpAny_Return_some (wpAny_Constant_bool (K m6 h6 tk6 D6.F)))
end
end Mine
end
section
open PySem PySem.W PyProof.Rows
set_option Elab.async false
namespace Mine
set_option maxRecDepth 100000
open PyProof.Rows.LCg
/-! law, called from behind the top -/
theorem nsMap_keeps' {h h' : Heap} (k : ∀ b o, h.get? b = some o → h'.get? b = some o) {a : Addr} {y : Str} {v : Value} (e : h.nsMap a y = some v) (x : Str) : h'.nsMap a x = h.nsMap a x := by
  unfold Heap.nsMap at e ⊢
  cases q : h.get? a with
  | none => rw [q] at e; cases e
  | some o => rw [k a o q]
theorem code_of {h : Heap} {c : Addr} {q : Str} (x : codeB h c q = true) : h.CodeRec (.ref c) q := by
  unfold codeB at x
  split at x
  · rename_i cl d vs sl e
    split at x
    · rename_i n t e2
      exact ⟨c, _, vs, t, rfl, e, rfl, by rw [e2, beq_iff_eq.mp x]⟩
    · cases x
  · cases x
theorem tp_of {w : World} {s₀ : Shared} {h : Heap} {mg mb : Str → Option Value} (y : obsM s₀ = valM w) (y2 : (s₀.heap.get? sysModules).isSome = true) (k : ∀ b o, s₀.heap.get? b = some o → h.get? b = some o)
    (hg : h.Ns mainGlobals mg) (hb : h.Ns builtinsNs mb) (nl : h.NoLimit) (bu : ∀ x : Str, x ≠ "__name__" → mb x = bootBuiltins x) : Tp w h ∧ mg "law" = some (.ref 456) := by
  have y1 : kAs.map s₀.heap.get? = (KF w.params).map (fun p => some p.2) := congrArg (·.1) y
  have y3 : glL.map (fun p => s₀.heap.nsMap mainGlobals p.1) = glL.map (fun p => some p.2) := congrArg (·.2.1) y
  have y4 : fnL.map (fun f => codeB s₀.heap f.code f.qual) = fnL.map (fun _ => true) := congrArg (·.2.2.1) y
  have y5 : noneL.map (fun x => s₀.heap.nsMap mainGlobals x) = noneL.map (fun _ => none) := congrArg (·.2.2.2.1) y
  have g3 := List.map_inj_left.mp y3
  have law0 : s₀.heap.nsMap mainGlobals "law" = some (.ref 456) := g3 (gv "law" (.ref 456)) (by unfold glL; simp)
  have emg : ∀ x, mg x = s₀.heap.nsMap mainGlobals x := fun x => by rw [hg.eq_nsMap]; exact nsMap_keeps' k law0 x
  refine ⟨⟨(Frag.in_of (kAs_is _) y1).keeps k, nl, ?_, ⟨mg, mb, hg, hb, fun p hp => by rw [emg]; exact g3 p hp, fun x hx => ⟨by rw [emg]; exact List.map_inj_left.mp y5 x hx, bu x ?_⟩⟩, fun f hf => (code_of (List.map_inj_left.mp y4 f hf)).keeps k⟩, by rw [emg]; exact law0⟩
  · obtain ⟨o, e⟩ := Option.isSome_iff_exists.mp y2
    rw [k _ _ e]; exact Option.some_ne_none _
  · unfold noneL at hx
    intro e
    subst e
    revert hx
    decide +kernel
theorem intsV_of : ∀ {vs : List Value} {is : List Int}, IntsAre vs is → IntsV is vs
  | _, _, .nil => .nil
  | _, _, .cons _ _ r => .cons (intsV_of r)
theorem cells456 (n : Nat) : cellsFrom n f456.scope.names [] = [] := by kernel_rfl
theorem law_call {w : World} {s : Shared} (T : Tp w s.heap) {aL : Addr} {vs : List Value} {is : List Int} (hl : s.heap.IsList aL vs.toArray) (hv : IntsV is vs) (hz : vs.length ≤ 63) {Q : Value → Shared → Prop} {E : Value → Shared → Prop}
    (K : ∀ h tk, (∀ b o, s.heap.get? b = some o → h.get? b = some o) → Q (.bool true) { s with heap := h, toks := tk }) : wpAny (model pw w) callerA (call (.ref 456) [.ref aL]) Q E s := by
  have F := fn_ok f456_mem
  obtain ⟨kvs, KK, hk, hbind⟩ := binds_sound (ρ := []) (vs := [.glob aL]) (us := [.ref aL]) (bs := l456 aL) f456_mem T.X (.cons (.glob _) .nil) (by kernel_rfl)
  have hkeys : (kvs.map (·.1)).Nodup := by rw [hk]; exact F.args
  refine wpAny_call ?_
  refine codeAny_call_function (fd := f456.fd) (by decide +kernel) (T.X _ _ (look_fn w.params f456_mem)) rfl F.co F.gen rfl (T.code f456 f456_mem) (hbind _ _ _ _ ?_)
  have hks : ∀ x ∈ kvs, f456.scope.names.lookup x.1 = some .local ∨ f456.scope.names.lookup x.1 = some .cell := fun x hx => by
    have : x.1 ∈ f456.params.args.map (·.arg) := hk ▸ List.mem_map.mpr ⟨x, hx, rfl⟩
    obtain ⟨p, hp, e⟩ := List.mem_map.mp this
    rw [← e]; exact F.kinds p hp
  refine wpAny_newFunctionEnv_cells F.kind (fun x hx => (hks x hx).imp id fun h => ⟨h, cellsFrom_some _ _ _ (.inl h)⟩) fun env' he s' x => ?_
  subst he
  obtain ⟨h₁, tk, rfl, old⟩ := x.done
  refine ⟨T.nl.keeps old, codeAny_func ?_⟩
  have xns : h₁.Ns s.heap.objs.size (bindL (fun x => f456.scope.names.lookup x) kvs fun _ => none) := x.toInCall.ns
  have he : newEnv f456.scope s.heap.objs.size mainGlobals (cellsFrom (s.heap.objs.size + 1) f456.scope.names []) f456.fd.qualname (some 456) (.ref 455) none builtinsNs = newEnv f456.scope s.heap.objs.size mainGlobals [] f456.fd.qualname (some 456) (.ref 455) none builtinsNs := by rw [cells456]
  have e2 : envOfC f456.qual f456.scope s.heap.objs.size f456.at_ (.ref f456.code) = e456 s.heap.objs.size := by
    unfold envOfC
    rw [cells456]
    rfl
  show wpAny (model pw w) (callerA.deeper (envOfC f456.qual f456.scope s.heap.objs.size f456.at_ (.ref f456.code))) (execs f456.body (envOfC f456.qual f456.scope s.heap.objs.size f456.at_ (.ref f456.code))) _ _ _
  rw [e2]
  have D : DynI (c456 w s.heap s.heap.objs.size []) (bindL (fun x => f456.scope.names.lookup x) kvs fun _ => none) (l456 aL) [] ⟨[], 0⟩ h₁ [] [] := by
    refine ⟨⟨xns, old, Nat.le_refl _⟩, (fun p hp => nomatch hp), List.nodup_nil, .nil, .nil, rfl, .inl ⟨rfl, fun z u e => ?_⟩, fun z i e => by cases e⟩
    have e' : fget z (locOf f456.scope.names (l456 aL)) = some u := by
      rw [show locOf f456.scope.names (l456 aL) = l456 aL from by kernel_rfl]; exact e
    obtain ⟨a, b⟩ := locOf_get e'
    exact KK.bindL (kindOf := fun x => f456.scope.names.lookup x) (by rw [← klook_lookup]; exact a) hkeys b (fun _ => none)
  have A : ArOk (c456 w s.heap s.heap.objs.size []) [] (callerA.deeper (e456 s.heap.objs.size)) 300 := ⟨Around.frames_deeper (by rfl), (by show callerA.depth + 1 + 300 < 990; decide +kernel), (by show callerA.units + 3 + 20 * 300 < 9800; decide +kernel), rfl⟩
  exact law_body (s := { s with heap := h₁, toks := tk }) T A D hl hv hz fun m' h tk F' => K h tk F'.keep
end Mine
end
section
open PySem PySem.W PySem.W.X PyProof.Rows
set_option Elab.async false
namespace Mine
set_option maxRecDepth 100000
set_option maxHeartbeats 0
theorem said : PySem.Challenge.rw_og0096_01.wellSaid = true := by kernel_rfl
theorem entry : PySem.Challenge.rw_og0096_01.Holds := by
  refine holds_law said fun sd => ?_
  refine holds_openX (r := PySem.Challenge.rw_og0096_01.row) (q := vw) (loose := lse) (Xt := Xt0) (XP := XL vw []) (Yf := obsN) (Ya := valN) (N := 7000) hl (fun s e => xl_of s (Bool.and_eq_true_iff.mp e).1) XL.keeps (by rfl) (by rfl) (by rfl) (fun s e => recFacts_of (Bool.and_eq_true_iff.mp e).2) (by rfl) sd (by decide +kernel) ⟨rfl, rfl, rfl, rfl, rfl, by decide +kernel⟩ ?hw ?hc
  case hw => w_witness2
  case hc =>
    intro w s₀ s₁ mg mb G y fa o pm cd doc dV kV ho hd hcd hD hmg hg args vals as L hpre hlay hrd hwl hlo
    clear ho hd hcd hD
    obtain ⟨T, e⟩ := tp_of (congrArg (·.1) y) (congrArg (·.2) y) L.keeps G.T.g G.T.b G.T.nolimit G.T.builtins
    have hfa : fa = 456 := by
      have hmg : mg "law" = some (.ref fa) := hmg
      rw [e] at hmg
      cases hmg
      rfl
    subst hfa
    clear hmg y e
    wrow_args hpre hlay hrd hwl hlo
    rename IntsAre _ _ => hI
    rename Heap.IsList _ _ _ => hL
    rename ¬ _ => hlen
    have hn := hI.length
    refine law_call T hL (intsV_of hI) (by omega) fun h tk keep => ?_
    exact ⟨.inl ⟨_, .bool true, [], rfl, fun _ => rfl, .bool true, by wrow_post, fun _ => ⟨List.nodup_nil, nofun⟩⟩, .of_keep keep, rfl, AllBare.of_eq hg⟩
end Mine
end
theorem PySem.Challenge.cw_og0096_01_holds : PySem.Challenge.rw_og0096_01.Holds :=
  Mine.entry
