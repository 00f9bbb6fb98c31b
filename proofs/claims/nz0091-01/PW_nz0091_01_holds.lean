import PyProof.Rows.All
import Wide.All
import OpenK.AllK
import Wide.FinOn
import PySem.Challenge.RW_nz0091_01
open PySem PySem.W PyProof.Rows PySem.Calls
set_option Elab.async false
set_option compiler.extract_closed false
set_option genSizeOfSpec false
set_option maxRecDepth 100000
set_option maxHeartbeats 8000000
namespace Mine
noncomputable def stAt (i : Nat) : Stmt := (PySem.Challenge.pw_nz0091_01.main.body)[i]?.getD (.Pass ⟨0, 0, 0, 0⟩)
noncomputable def defA : Stmt → Arguments | .FunctionDef _ a _ _ _ _ _ _ _ _ => a | _ => default
noncomputable def defB : Stmt → List Stmt | .FunctionDef _ _ b _ _ _ _ _ _ _ => b | _ => []
noncomputable def defS : Stmt → Scope | .FunctionDef _ _ _ _ _ _ s _ _ _ => s | _ => default
noncomputable def clsB : Stmt → List Stmt | .ClassDef _ _ _ b _ _ _ _ _ _ _ => b | _ => []
noncomputable def inAt (i j : Nat) : Stmt := (clsB (stAt i))[j]?.getD (.Pass ⟨0, 0, 0, 0⟩)
noncomputable def f21 : Obj := by
  refine (fun (_ : ?a = defA (stAt 0)) (_ : ?b = defB (stAt 0)) (_ : ?c = defS (stAt 0)) => ({ cls := Value.type "function", data := Data.func { name := Str.ofString "_wall", qualname := Str.ofString "_wall", params := ?a, body := FuncBody.stmts ?b, scope := ?c, globals := 3, closure := [], defaults := Value.none, kwdefaults := Value.none, pyModule := Value.str (Str.ofString "__main__") 164, code := Value.ref 20 } } : Obj)) ?h1 ?h2 ?h3
  case h1 => conv => rhs; whnf
  case h2 => conv => rhs; whnf
  case h3 => conv => rhs; whnf
noncomputable def f28 : Obj := by
  refine (fun (_ : ?a = defA (stAt 2)) (_ : ?b = defB (stAt 2)) (_ : ?c = defS (stAt 2)) => ({ cls := Value.type "function", data := Data.func { name := Str.ofString "is_void", qualname := Str.ofString "is_void", params := ?a, body := FuncBody.stmts ?b, scope := ?c, globals := 3, closure := [], defaults := Value.none, kwdefaults := Value.none, pyModule := Value.str (Str.ofString "htmltree.names") 194, code := Value.ref 27 } } : Obj)) ?h1 ?h2 ?h3
  case h1 => conv => rhs; whnf
  case h2 => conv => rhs; whnf
  case h3 => conv => rhs; whnf
noncomputable def f35 : Obj := by
  refine (fun (_ : ?a = defA (stAt 3)) (_ : ?b = defB (stAt 3)) (_ : ?c = defS (stAt 3)) => ({ cls := Value.type "function", data := Data.func { name := Str.ofString "is_raw", qualname := Str.ofString "is_raw", params := ?a, body := FuncBody.stmts ?b, scope := ?c, globals := 3, closure := [], defaults := Value.none, kwdefaults := Value.none, pyModule := Value.str (Str.ofString "htmltree.names") 194, code := Value.ref 34 } } : Obj)) ?h1 ?h2 ?h3
  case h1 => conv => rhs; whnf
  case h2 => conv => rhs; whnf
  case h3 => conv => rhs; whnf
noncomputable def f42 : Obj := by
  refine (fun (_ : ?a = defA (stAt 5)) (_ : ?b = defB (stAt 5)) (_ : ?c = defS (stAt 5)) => ({ cls := Value.type "function", data := Data.func { name := Str.ofString "escape_text", qualname := Str.ofString "escape_text", params := ?a, body := FuncBody.stmts ?b, scope := ?c, globals := 3, closure := [], defaults := Value.none, kwdefaults := Value.none, pyModule := Value.str (Str.ofString "htmltree.serialize") 210, code := Value.ref 41 } } : Obj)) ?h1 ?h2 ?h3
  case h1 => conv => rhs; whnf
  case h2 => conv => rhs; whnf
  case h3 => conv => rhs; whnf
noncomputable def f49 : Obj := by
  refine (fun (_ : ?a = defA (stAt 6)) (_ : ?b = defB (stAt 6)) (_ : ?c = defS (stAt 6)) => ({ cls := Value.type "function", data := Data.func { name := Str.ofString "escape_value", qualname := Str.ofString "escape_value", params := ?a, body := FuncBody.stmts ?b, scope := ?c, globals := 3, closure := [], defaults := Value.none, kwdefaults := Value.none, pyModule := Value.str (Str.ofString "htmltree.serialize") 210, code := Value.ref 48 } } : Obj)) ?h1 ?h2 ?h3
  case h1 => conv => rhs; whnf
  case h2 => conv => rhs; whnf
  case h3 => conv => rhs; whnf
noncomputable def f56 : Obj := by
  refine (fun (_ : ?a = defA (stAt 7)) (_ : ?b = defB (stAt 7)) (_ : ?c = defS (stAt 7)) => ({ cls := Value.type "function", data := Data.func { name := Str.ofString "is_endless", qualname := Str.ofString "is_endless", params := ?a, body := FuncBody.stmts ?b, scope := ?c, globals := 3, closure := [], defaults := Value.none, kwdefaults := Value.none, pyModule := Value.str (Str.ofString "htmltree.serialize") 210, code := Value.ref 55 } } : Obj)) ?h1 ?h2 ?h3
  case h1 => conv => rhs; whnf
  case h2 => conv => rhs; whnf
  case h3 => conv => rhs; whnf
noncomputable def f63 : Obj := by
  refine (fun (_ : ?a = defA (stAt 8)) (_ : ?b = defB (stAt 8)) (_ : ?c = defS (stAt 8)) => ({ cls := Value.type "function", data := Data.func { name := Str.ofString "written_children", qualname := Str.ofString "written_children", params := ?a, body := FuncBody.stmts ?b, scope := ?c, globals := 3, closure := [], defaults := Value.none, kwdefaults := Value.none, pyModule := Value.str (Str.ofString "htmltree.serialize") 210, code := Value.ref 62 } } : Obj)) ?h1 ?h2 ?h3
  case h1 => conv => rhs; whnf
  case h2 => conv => rhs; whnf
  case h3 => conv => rhs; whnf
noncomputable def f70 : Obj := by
  refine (fun (_ : ?a = defA (stAt 9)) (_ : ?b = defB (stAt 9)) (_ : ?c = defS (stAt 9)) => ({ cls := Value.type "function", data := Data.func { name := Str.ofString "open_tag", qualname := Str.ofString "open_tag", params := ?a, body := FuncBody.stmts ?b, scope := ?c, globals := 3, closure := [], defaults := Value.none, kwdefaults := Value.none, pyModule := Value.str (Str.ofString "htmltree.serialize") 210, code := Value.ref 69 } } : Obj)) ?h1 ?h2 ?h3
  case h1 => conv => rhs; whnf
  case h2 => conv => rhs; whnf
  case h3 => conv => rhs; whnf
noncomputable def f77 : Obj := by
  refine (fun (_ : ?a = defA (stAt 10)) (_ : ?b = defB (stAt 10)) (_ : ?c = defS (stAt 10)) => ({ cls := Value.type "function", data := Data.func { name := Str.ofString "is_kept_text", qualname := Str.ofString "is_kept_text", params := ?a, body := FuncBody.stmts ?b, scope := ?c, globals := 3, closure := [], defaults := Value.none, kwdefaults := Value.none, pyModule := Value.str (Str.ofString "htmltree.serialize") 210, code := Value.ref 76 } } : Obj)) ?h1 ?h2 ?h3
  case h1 => conv => rhs; whnf
  case h2 => conv => rhs; whnf
  case h3 => conv => rhs; whnf
noncomputable def f84 : Obj := by
  refine (fun (_ : ?a = defA (stAt 11)) (_ : ?b = defB (stAt 11)) (_ : ?c = defS (stAt 11)) => ({ cls := Value.type "function", data := Data.func { name := Str.ofString "leaf", qualname := Str.ofString "leaf", params := ?a, body := FuncBody.stmts ?b, scope := ?c, globals := 3, closure := [], defaults := Value.none, kwdefaults := Value.none, pyModule := Value.str (Str.ofString "htmltree.serialize") 210, code := Value.ref 83 } } : Obj)) ?h1 ?h2 ?h3
  case h1 => conv => rhs; whnf
  case h2 => conv => rhs; whnf
  case h3 => conv => rhs; whnf
noncomputable def f89 : Obj := by
  refine (fun (_ : ?a = defA (stAt 12)) (_ : ?b = defB (stAt 12)) (_ : ?c = defS (stAt 12)) => ({ cls := Value.type "function", data := Data.func { name := Str.ofString "written", qualname := Str.ofString "written", params := ?a, body := FuncBody.stmts ?b, scope := ?c, globals := 3, closure := [], defaults := Value.none, kwdefaults := Value.none, pyModule := Value.str (Str.ofString "htmltree.serialize") 210, code := Value.ref 88 } } : Obj)) ?h1 ?h2 ?h3
  case h1 => conv => rhs; whnf
  case h2 => conv => rhs; whnf
  case h3 => conv => rhs; whnf
noncomputable def f97 : Obj := by
  refine (fun (_ : ?a = defA (stAt 13)) (_ : ?b = defB (stAt 13)) (_ : ?c = defS (stAt 13)) => ({ cls := Value.type "function", data := Data.func { name := Str.ofString "inner", qualname := Str.ofString "inner", params := ?a, body := FuncBody.stmts ?b, scope := ?c, globals := 3, closure := [], defaults := Value.ref 90, kwdefaults := Value.none, pyModule := Value.str (Str.ofString "htmltree.serialize") 210, code := Value.ref 96 } } : Obj)) ?h1 ?h2 ?h3
  case h1 => conv => rhs; whnf
  case h2 => conv => rhs; whnf
  case h3 => conv => rhs; whnf
noncomputable def f105 : Obj := by
  refine (fun (_ : ?a = defA (stAt 14)) (_ : ?b = defB (stAt 14)) (_ : ?c = defS (stAt 14)) => ({ cls := Value.type "function", data := Data.func { name := Str.ofString "outer", qualname := Str.ofString "outer", params := ?a, body := FuncBody.stmts ?b, scope := ?c, globals := 3, closure := [], defaults := Value.ref 98, kwdefaults := Value.none, pyModule := Value.str (Str.ofString "htmltree.serialize") 210, code := Value.ref 104 } } : Obj)) ?h1 ?h2 ?h3
  case h1 => conv => rhs; whnf
  case h2 => conv => rhs; whnf
  case h3 => conv => rhs; whnf
noncomputable def f119 : Obj := by
  refine (fun (_ : ?a = defA (inAt 16 0)) (_ : ?b = defB (inAt 16 0)) (_ : ?c = defS (inAt 16 0)) => ({ cls := Value.type "function", data := Data.func { name := Str.ofString "__init__", qualname := Str.ofString "HtmlFault.__init__", params := ?a, body := FuncBody.stmts ?b, scope := ?c, globals := 3, closure := [], defaults := Value.none, kwdefaults := Value.none, pyModule := Value.str (Str.ofString "htmltree.faults") 296, code := Value.ref 118 } } : Obj)) ?h1 ?h2 ?h3
  case h1 => conv => rhs; whnf
  case h2 => conv => rhs; whnf
  case h3 => conv => rhs; whnf
noncomputable def f151 : Obj := by
  refine (fun (_ : ?a = defA (inAt 19 0)) (_ : ?b = defB (inAt 19 0)) (_ : ?c = defS (inAt 19 0)) => ({ cls := Value.type "function", data := Data.func { name := Str.ofString "__init__", qualname := Str.ofString "Tree.__init__", params := ?a, body := FuncBody.stmts ?b, scope := ?c, globals := 3, closure := [], defaults := Value.none, kwdefaults := Value.none, pyModule := Value.str (Str.ofString "htmltree.tree") 343, code := Value.ref 150 } } : Obj)) ?h1 ?h2 ?h3
  case h1 => conv => rhs; whnf
  case h2 => conv => rhs; whnf
  case h3 => conv => rhs; whnf
noncomputable def f160 : Obj := by
  refine (fun (_ : ?a = defA (inAt 19 1)) (_ : ?b = defB (inAt 19 1)) (_ : ?c = defS (inAt 19 1)) => ({ cls := Value.type "function", data := Data.func { name := Str.ofString "add", qualname := Str.ofString "Tree.add", params := ?a, body := FuncBody.stmts ?b, scope := ?c, globals := 3, closure := [], defaults := Value.ref 153, kwdefaults := Value.none, pyModule := Value.str (Str.ofString "htmltree.tree") 343, code := Value.ref 159 } } : Obj)) ?h1 ?h2 ?h3
  case h1 => conv => rhs; whnf
  case h2 => conv => rhs; whnf
  case h3 => conv => rhs; whnf
noncomputable def f169 : Obj := by
  refine (fun (_ : ?a = defA (inAt 19 2)) (_ : ?b = defB (inAt 19 2)) (_ : ?c = defS (inAt 19 2)) => ({ cls := Value.type "function", data := Data.func { name := Str.ofString "element", qualname := Str.ofString "Tree.element", params := ?a, body := FuncBody.stmts ?b, scope := ?c, globals := 3, closure := [], defaults := Value.ref 162, kwdefaults := Value.none, pyModule := Value.str (Str.ofString "htmltree.tree") 343, code := Value.ref 168 } } : Obj)) ?h1 ?h2 ?h3
  case h1 => conv => rhs; whnf
  case h2 => conv => rhs; whnf
  case h3 => conv => rhs; whnf
noncomputable def f176 : Obj := by
  refine (fun (_ : ?a = defA (inAt 19 3)) (_ : ?b = defB (inAt 19 3)) (_ : ?c = defS (inAt 19 3)) => ({ cls := Value.type "function", data := Data.func { name := Str.ofString "text", qualname := Str.ofString "Tree.text", params := ?a, body := FuncBody.stmts ?b, scope := ?c, globals := 3, closure := [], defaults := Value.none, kwdefaults := Value.none, pyModule := Value.str (Str.ofString "htmltree.tree") 343, code := Value.ref 175 } } : Obj)) ?h1 ?h2 ?h3
  case h1 => conv => rhs; whnf
  case h2 => conv => rhs; whnf
  case h3 => conv => rhs; whnf
noncomputable def f183 : Obj := by
  refine (fun (_ : ?a = defA (inAt 19 4)) (_ : ?b = defB (inAt 19 4)) (_ : ?c = defS (inAt 19 4)) => ({ cls := Value.type "function", data := Data.func { name := Str.ofString "comment", qualname := Str.ofString "Tree.comment", params := ?a, body := FuncBody.stmts ?b, scope := ?c, globals := 3, closure := [], defaults := Value.none, kwdefaults := Value.none, pyModule := Value.str (Str.ofString "htmltree.tree") 343, code := Value.ref 182 } } : Obj)) ?h1 ?h2 ?h3
  case h1 => conv => rhs; whnf
  case h2 => conv => rhs; whnf
  case h3 => conv => rhs; whnf
noncomputable def f190 : Obj := by
  refine (fun (_ : ?a = defA (inAt 19 5)) (_ : ?b = defB (inAt 19 5)) (_ : ?c = defS (inAt 19 5)) => ({ cls := Value.type "function", data := Data.func { name := Str.ofString "doctype", qualname := Str.ofString "Tree.doctype", params := ?a, body := FuncBody.stmts ?b, scope := ?c, globals := 3, closure := [], defaults := Value.none, kwdefaults := Value.none, pyModule := Value.str (Str.ofString "htmltree.tree") 343, code := Value.ref 189 } } : Obj)) ?h1 ?h2 ?h3
  case h1 => conv => rhs; whnf
  case h2 => conv => rhs; whnf
  case h3 => conv => rhs; whnf
noncomputable def f198 : Obj := by
  refine (fun (_ : ?a = defA (inAt 19 6)) (_ : ?b = defB (inAt 19 6)) (_ : ?c = defS (inAt 19 6)) => ({ cls := Value.type "function", data := Data.func { name := Str.ofString "insert", qualname := Str.ofString "Tree.insert", params := ?a, body := FuncBody.stmts ?b, scope := ?c, globals := 3, closure := [], defaults := Value.ref 191, kwdefaults := Value.none, pyModule := Value.str (Str.ofString "htmltree.tree") 343, code := Value.ref 197 } } : Obj)) ?h1 ?h2 ?h3
  case h1 => conv => rhs; whnf
  case h2 => conv => rhs; whnf
  case h3 => conv => rhs; whnf
noncomputable def f205 : Obj := by
  refine (fun (_ : ?a = defA (inAt 19 7)) (_ : ?b = defB (inAt 19 7)) (_ : ?c = defS (inAt 19 7)) => ({ cls := Value.type "function", data := Data.func { name := Str.ofString "append", qualname := Str.ofString "Tree.append", params := ?a, body := FuncBody.stmts ?b, scope := ?c, globals := 3, closure := [], defaults := Value.none, kwdefaults := Value.none, pyModule := Value.str (Str.ofString "htmltree.tree") 343, code := Value.ref 204 } } : Obj)) ?h1 ?h2 ?h3
  case h1 => conv => rhs; whnf
  case h2 => conv => rhs; whnf
  case h3 => conv => rhs; whnf
noncomputable def f212 : Obj := by
  refine (fun (_ : ?a = defA (inAt 19 8)) (_ : ?b = defB (inAt 19 8)) (_ : ?c = defS (inAt 19 8)) => ({ cls := Value.type "function", data := Data.func { name := Str.ofString "remove", qualname := Str.ofString "Tree.remove", params := ?a, body := FuncBody.stmts ?b, scope := ?c, globals := 3, closure := [], defaults := Value.none, kwdefaults := Value.none, pyModule := Value.str (Str.ofString "htmltree.tree") 343, code := Value.ref 211 } } : Obj)) ?h1 ?h2 ?h3
  case h1 => conv => rhs; whnf
  case h2 => conv => rhs; whnf
  case h3 => conv => rhs; whnf
noncomputable def f219 : Obj := by
  refine (fun (_ : ?a = defA (inAt 19 9)) (_ : ?b = defB (inAt 19 9)) (_ : ?c = defS (inAt 19 9)) => ({ cls := Value.type "function", data := Data.func { name := Str.ofString "move_children", qualname := Str.ofString "Tree.move_children", params := ?a, body := FuncBody.stmts ?b, scope := ?c, globals := 3, closure := [], defaults := Value.none, kwdefaults := Value.none, pyModule := Value.str (Str.ofString "htmltree.tree") 343, code := Value.ref 218 } } : Obj)) ?h1 ?h2 ?h3
  case h1 => conv => rhs; whnf
  case h2 => conv => rhs; whnf
  case h3 => conv => rhs; whnf
noncomputable def f226 : Obj := by
  refine (fun (_ : ?a = defA (inAt 19 10)) (_ : ?b = defB (inAt 19 10)) (_ : ?c = defS (inAt 19 10)) => ({ cls := Value.type "function", data := Data.func { name := Str.ofString "place", qualname := Str.ofString "Tree.place", params := ?a, body := FuncBody.stmts ?b, scope := ?c, globals := 3, closure := [], defaults := Value.none, kwdefaults := Value.none, pyModule := Value.str (Str.ofString "htmltree.tree") 343, code := Value.ref 225 } } : Obj)) ?h1 ?h2 ?h3
  case h1 => conv => rhs; whnf
  case h2 => conv => rhs; whnf
  case h3 => conv => rhs; whnf
noncomputable def f233 : Obj := by
  refine (fun (_ : ?a = defA (inAt 19 11)) (_ : ?b = defB (inAt 19 11)) (_ : ?c = defS (inAt 19 11)) => ({ cls := Value.type "function", data := Data.func { name := Str.ofString "last", qualname := Str.ofString "Tree.last", params := ?a, body := FuncBody.stmts ?b, scope := ?c, globals := 3, closure := [], defaults := Value.none, kwdefaults := Value.none, pyModule := Value.str (Str.ofString "htmltree.tree") 343, code := Value.ref 232 } } : Obj)) ?h1 ?h2 ?h3
  case h1 => conv => rhs; whnf
  case h2 => conv => rhs; whnf
  case h3 => conv => rhs; whnf
noncomputable def f240 : Obj := by
  refine (fun (_ : ?a = defA (inAt 19 12)) (_ : ?b = defB (inAt 19 12)) (_ : ?c = defS (inAt 19 12)) => ({ cls := Value.type "function", data := Data.func { name := Str.ofString "value", qualname := Str.ofString "Tree.value", params := ?a, body := FuncBody.stmts ?b, scope := ?c, globals := 3, closure := [], defaults := Value.none, kwdefaults := Value.none, pyModule := Value.str (Str.ofString "htmltree.tree") 343, code := Value.ref 239 } } : Obj)) ?h1 ?h2 ?h3
  case h1 => conv => rhs; whnf
  case h2 => conv => rhs; whnf
  case h3 => conv => rhs; whnf
noncomputable def f247 : Obj := by
  refine (fun (_ : ?a = defA (inAt 19 13)) (_ : ?b = defB (inAt 19 13)) (_ : ?c = defS (inAt 19 13)) => ({ cls := Value.type "function", data := Data.func { name := Str.ofString "is_html", qualname := Str.ofString "Tree.is_html", params := ?a, body := FuncBody.stmts ?b, scope := ?c, globals := 3, closure := [], defaults := Value.none, kwdefaults := Value.none, pyModule := Value.str (Str.ofString "htmltree.tree") 343, code := Value.ref 246 } } : Obj)) ?h1 ?h2 ?h3
  case h1 => conv => rhs; whnf
  case h2 => conv => rhs; whnf
  case h3 => conv => rhs; whnf
noncomputable def f261 : Obj := by
  refine (fun (_ : ?a = defA (stAt 20)) (_ : ?b = defB (stAt 20)) (_ : ?c = defS (stAt 20)) => ({ cls := Value.type "function", data := Data.func { name := Str.ofString "above", qualname := Str.ofString "above", params := ?a, body := FuncBody.stmts ?b, scope := ?c, globals := 3, closure := [], defaults := Value.none, kwdefaults := Value.none, pyModule := Value.str (Str.ofString "htmltree.tree") 343, code := Value.ref 260 } } : Obj)) ?h1 ?h2 ?h3
  case h1 => conv => rhs; whnf
  case h2 => conv => rhs; whnf
  case h3 => conv => rhs; whnf
noncomputable def f268 : Obj := by
  refine (fun (_ : ?a = defA (stAt 22)) (_ : ?b = defB (stAt 22)) (_ : ?c = defS (stAt 22)) => ({ cls := Value.type "function", data := Data.func { name := Str.ofString "_law_base", qualname := Str.ofString "_law_base", params := ?a, body := FuncBody.stmts ?b, scope := ?c, globals := 3, closure := [], defaults := Value.none, kwdefaults := Value.none, pyModule := Value.str (Str.ofString "law_nz0091_01") 517, code := Value.ref 267 } } : Obj)) ?h1 ?h2 ?h3
  case h1 => conv => rhs; whnf
  case h2 => conv => rhs; whnf
  case h3 => conv => rhs; whnf
noncomputable def f275 : Obj := by
  refine (fun (_ : ?a = defA (stAt 23)) (_ : ?b = defB (stAt 23)) (_ : ?c = defS (stAt 23)) => ({ cls := Value.type "function", data := Data.func { name := Str.ofString "_law_words", qualname := Str.ofString "_law_words", params := ?a, body := FuncBody.stmts ?b, scope := ?c, globals := 3, closure := [], defaults := Value.none, kwdefaults := Value.none, pyModule := Value.str (Str.ofString "law_nz0091_01") 517, code := Value.ref 274 } } : Obj)) ?h1 ?h2 ?h3
  case h1 => conv => rhs; whnf
  case h2 => conv => rhs; whnf
  case h3 => conv => rhs; whnf
noncomputable def f282 : Obj := by
  refine (fun (_ : ?a = defA (stAt 24)) (_ : ?b = defB (stAt 24)) (_ : ?c = defS (stAt 24)) => ({ cls := Value.type "function", data := Data.func { name := Str.ofString "_law_text", qualname := Str.ofString "_law_text", params := ?a, body := FuncBody.stmts ?b, scope := ?c, globals := 3, closure := [], defaults := Value.none, kwdefaults := Value.none, pyModule := Value.str (Str.ofString "law_nz0091_01") 517, code := Value.ref 281 } } : Obj)) ?h1 ?h2 ?h3
  case h1 => conv => rhs; whnf
  case h2 => conv => rhs; whnf
  case h3 => conv => rhs; whnf
noncomputable def f287 : Obj := by
  refine (fun (_ : ?a = defA (stAt 25)) (_ : ?b = defB (stAt 25)) (_ : ?c = defS (stAt 25)) => ({ cls := Value.type "function", data := Data.func { name := Str.ofString "_law_attrs", qualname := Str.ofString "_law_attrs", params := ?a, body := FuncBody.stmts ?b, scope := ?c, globals := 3, closure := [], defaults := Value.none, kwdefaults := Value.none, pyModule := Value.str (Str.ofString "law_nz0091_01") 517, code := Value.ref 286 } } : Obj)) ?h1 ?h2 ?h3
  case h1 => conv => rhs; whnf
  case h2 => conv => rhs; whnf
  case h3 => conv => rhs; whnf
noncomputable def f292 : Obj := by
  refine (fun (_ : ?a = defA (stAt 26)) (_ : ?b = defB (stAt 26)) (_ : ?c = defS (stAt 26)) => ({ cls := Value.type "function", data := Data.func { name := Str.ofString "_law_escaped", qualname := Str.ofString "_law_escaped", params := ?a, body := FuncBody.stmts ?b, scope := ?c, globals := 3, closure := [], defaults := Value.none, kwdefaults := Value.none, pyModule := Value.str (Str.ofString "law_nz0091_01") 517, code := Value.ref 291 } } : Obj)) ?h1 ?h2 ?h3
  case h1 => conv => rhs; whnf
  case h2 => conv => rhs; whnf
  case h3 => conv => rhs; whnf
noncomputable def f299 : Obj := by
  refine (fun (_ : ?a = defA (stAt 27)) (_ : ?b = defB (stAt 27)) (_ : ?c = defS (stAt 27)) => ({ cls := Value.type "function", data := Data.func { name := Str.ofString "_law_is_void", qualname := Str.ofString "_law_is_void", params := ?a, body := FuncBody.stmts ?b, scope := ?c, globals := 3, closure := [], defaults := Value.none, kwdefaults := Value.none, pyModule := Value.str (Str.ofString "law_nz0091_01") 517, code := Value.ref 298 } } : Obj)) ?h1 ?h2 ?h3
  case h1 => conv => rhs; whnf
  case h2 => conv => rhs; whnf
  case h3 => conv => rhs; whnf
noncomputable def f306 : Obj := by
  refine (fun (_ : ?a = defA (stAt 28)) (_ : ?b = defB (stAt 28)) (_ : ?c = defS (stAt 28)) => ({ cls := Value.type "function", data := Data.func { name := Str.ofString "_law_written", qualname := Str.ofString "_law_written", params := ?a, body := FuncBody.stmts ?b, scope := ?c, globals := 3, closure := [], defaults := Value.none, kwdefaults := Value.none, pyModule := Value.str (Str.ofString "law_nz0091_01") 517, code := Value.ref 305 } } : Obj)) ?h1 ?h2 ?h3
  case h1 => conv => rhs; whnf
  case h2 => conv => rhs; whnf
  case h3 => conv => rhs; whnf
noncomputable def f311 : Obj := by
  refine (fun (_ : ?a = defA (stAt 29)) (_ : ?b = defB (stAt 29)) (_ : ?c = defS (stAt 29)) => ({ cls := Value.type "function", data := Data.func { name := Str.ofString "_law_told", qualname := Str.ofString "_law_told", params := ?a, body := FuncBody.stmts ?b, scope := ?c, globals := 3, closure := [], defaults := Value.none, kwdefaults := Value.none, pyModule := Value.str (Str.ofString "law_nz0091_01") 517, code := Value.ref 310 } } : Obj)) ?h1 ?h2 ?h3
  case h1 => conv => rhs; whnf
  case h2 => conv => rhs; whnf
  case h3 => conv => rhs; whnf
noncomputable def f318 : Obj := by
  refine (fun (_ : ?a = defA (stAt 30)) (_ : ?b = defB (stAt 30)) (_ : ?c = defS (stAt 30)) => ({ cls := Value.type "function", data := Data.func { name := Str.ofString "_law_make", qualname := Str.ofString "_law_make", params := ?a, body := FuncBody.stmts ?b, scope := ?c, globals := 3, closure := [], defaults := Value.none, kwdefaults := Value.none, pyModule := Value.str (Str.ofString "law_nz0091_01") 517, code := Value.ref 317 } } : Obj)) ?h1 ?h2 ?h3
  case h1 => conv => rhs; whnf
  case h2 => conv => rhs; whnf
  case h3 => conv => rhs; whnf
noncomputable def f325 : Obj := by
  refine (fun (_ : ?a = defA (stAt 31)) (_ : ?b = defB (stAt 31)) (_ : ?c = defS (stAt 31)) => ({ cls := Value.type "function", data := Data.func { name := Str.ofString "_law_is_named", qualname := Str.ofString "_law_is_named", params := ?a, body := FuncBody.stmts ?b, scope := ?c, globals := 3, closure := [], defaults := Value.none, kwdefaults := Value.none, pyModule := Value.str (Str.ofString "law_nz0091_01") 517, code := Value.ref 324 } } : Obj)) ?h1 ?h2 ?h3
  case h1 => conv => rhs; whnf
  case h2 => conv => rhs; whnf
  case h3 => conv => rhs; whnf
noncomputable def f330 : Obj := by
  refine (fun (_ : ?a = defA (stAt 32)) (_ : ?b = defB (stAt 32)) (_ : ?c = defS (stAt 32)) => ({ cls := Value.type "function", data := Data.func { name := Str.ofString "law", qualname := Str.ofString "law", params := ?a, body := FuncBody.stmts ?b, scope := ?c, globals := 3, closure := [], defaults := Value.none, kwdefaults := Value.none, pyModule := Value.str (Str.ofString "law_nz0091_01") 517, code := Value.ref 329 } } : Obj)) ?h1 ?h2 ?h3
  case h1 => conv => rhs; whnf
  case h2 => conv => rhs; whnf
  case h3 => conv => rhs; whnf
noncomputable def K0 : Params → Frag := fun P => (nat_lit 2, { cls := Value.none, data := Data.dict (List.toArray ({ hash := PyData.keyHash P (Str.ofString "type.__subclasses__.Exception.0"), key := Value.str (Str.ofString "type.__subclasses__.Exception.0") 323, val := Value.int 122 0 } :: { hash := PyData.keyHash P (Str.ofString "type.__subclasses__.Exception.n"), key := Value.str (Str.ofString "type.__subclasses__.Exception.n") 324, val := Value.int 1 0 } :: [])) 2 }) ::
  (nat_lit 3, { cls := Value.type "dict", data := Data.dict (List.toArray ({ hash := PyData.keyHash P (Str.ofString "__name__"), key := Value.str (Str.ofString "__name__") 165, val := Value.str (Str.ofString "law_nz0091_01") 517 } :: { hash := PyData.keyHash P (Str.ofString "__doc__"), key := Value.str (Str.ofString "__doc__") 166, val := Value.none } :: { hash := PyData.keyHash P (Str.ofString "__package__"), key := Value.str (Str.ofString "__package__") 167, val := Value.none } :: { hash := PyData.keyHash P (Str.ofString "__loader__"), key := Value.str (Str.ofString "__loader__") 168, val := Value.builtin "__main__.__loader__#opaque" } :: { hash := PyData.keyHash P (Str.ofString "__spec__"), key := Value.str (Str.ofString "__spec__") 169, val := Value.none } :: { hash := PyData.keyHash P (Str.ofString "__annotations__"), key := Value.str (Str.ofString "__annotations__") 170, val := Value.ref 6 } :: { hash := PyData.keyHash P (Str.ofString "__builtins__"), key := Value.str (Str.ofString "__builtins__") 171, val := Value.ref 4 } :: { hash := PyData.keyHash P (Str.ofString "__file__"), key := Value.str (Str.ofString "__file__") 173, val := Value.str (Str.ofString "/claim/cut.py") 172 } :: { hash := PyData.keyHash P (Str.ofString "__cached__"), key := Value.str (Str.ofString "__cached__") 174, val := Value.none } :: { hash := PyData.keyHash P (Str.ofString "_wall"), key := Value.str (Str.ofString "_wall") 193, val := Value.ref 21 } :: { hash := PyData.keyHash P (Str.ofString "is_void"), key := Value.str (Str.ofString "is_void") 202, val := Value.ref 28 } :: { hash := PyData.keyHash P (Str.ofString "is_raw"), key := Value.str (Str.ofString "is_raw") 209, val := Value.ref 35 } :: { hash := PyData.keyHash P (Str.ofString "escape_text"), key := Value.str (Str.ofString "escape_text") 218, val := Value.ref 42 } :: { hash := PyData.keyHash P (Str.ofString "escape_value"), key := Value.str (Str.ofString "escape_value") 225, val := Value.ref 49 } :: { hash := PyData.keyHash P (Str.ofString "is_endless"), key := Value.str (Str.ofString "is_endless") 234, val := Value.ref 56 } :: { hash := PyData.keyHash P (Str.ofString "written_children"), key := Value.str (Str.ofString "written_children") 242, val := Value.ref 63 } :: { hash := PyData.keyHash P (Str.ofString "open_tag"), key := Value.str (Str.ofString "open_tag") 252, val := Value.ref 70 } :: { hash := PyData.keyHash P (Str.ofString "is_kept_text"), key := Value.str (Str.ofString "is_kept_text") 261, val := Value.ref 77 } :: { hash := PyData.keyHash P (Str.ofString "leaf"), key := Value.str (Str.ofString "leaf") 271, val := Value.ref 84 } :: { hash := PyData.keyHash P (Str.ofString "written"), key := Value.str (Str.ofString "written") 277, val := Value.ref 89 } :: { hash := PyData.keyHash P (Str.ofString "inner"), key := Value.str (Str.ofString "inner") 286, val := Value.ref 97 } :: { hash := PyData.keyHash P (Str.ofString "outer"), key := Value.str (Str.ofString "outer") 295, val := Value.ref 105 } :: { hash := PyData.keyHash P (Str.ofString "HtmlFault"), key := Value.str (Str.ofString "HtmlFault") 326, val := Value.ref 122 } :: { hash := PyData.keyHash P (Str.ofString "Misused"), key := Value.str (Str.ofString "Misused") 342, val := Value.ref 135 } :: { hash := PyData.keyHash P (Str.ofString "Tree"), key := Value.str (Str.ofString "Tree") 506, val := Value.ref 250 } :: { hash := PyData.keyHash P (Str.ofString "above"), key := Value.str (Str.ofString "above") 516, val := Value.ref 261 } :: { hash := PyData.keyHash P (Str.ofString "_law_base"), key := Value.str (Str.ofString "_law_base") 525, val := Value.ref 268 } :: { hash := PyData.keyHash P (Str.ofString "_law_words"), key := Value.str (Str.ofString "_law_words") 532, val := Value.ref 275 } :: { hash := PyData.keyHash P (Str.ofString "_law_text"), key := Value.str (Str.ofString "_law_text") 543, val := Value.ref 282 } :: { hash := PyData.keyHash P (Str.ofString "_law_attrs"), key := Value.str (Str.ofString "_law_attrs") 549, val := Value.ref 287 } :: { hash := PyData.keyHash P (Str.ofString "_law_escaped"), key := Value.str (Str.ofString "_law_escaped") 555, val := Value.ref 292 } :: { hash := PyData.keyHash P (Str.ofString "_law_is_void"), key := Value.str (Str.ofString "_law_is_void") 563, val := Value.ref 299 } :: { hash := PyData.keyHash P (Str.ofString "_law_written"), key := Value.str (Str.ofString "_law_written") 583, val := Value.ref 306 } :: { hash := PyData.keyHash P (Str.ofString "_law_told"), key := Value.str (Str.ofString "_law_told") 589, val := Value.ref 311 } :: { hash := PyData.keyHash P (Str.ofString "_law_make"), key := Value.str (Str.ofString "_law_make") 604, val := Value.ref 318 } :: { hash := PyData.keyHash P (Str.ofString "_law_is_named"), key := Value.str (Str.ofString "_law_is_named") 622, val := Value.ref 325 } :: { hash := PyData.keyHash P (Str.ofString "law"), key := Value.str (Str.ofString "law") 628, val := Value.ref 330 } :: [])) 37 }) ::
  (nat_lit 15, { cls := Value.type "tuple", data := Data.seq #[] }) ::
  (nat_lit 17, { cls := Value.type "tuple", data := Data.seq #[Value.str (Str.ofString "k") 190] }) ::
  (nat_lit 18, { cls := Value.type "tuple", data := Data.seq #[] }) ::
  (nat_lit 20, { cls := Value.type "code", data := Data.fields #[Value.str (Str.ofString "_wall") 187, Value.str (Str.ofString "_wall") 188, Value.str (Str.ofString "/claim/cut.py") 189, Value.int 1 0, Value.int 1 0, Value.int 0 0, Value.int 0 0, Value.int 3 0, Value.ref 15, Value.bool true, Value.int 181 0, Value.ref 16, Value.none, Value.ref 17, Value.ref 18, Value.ref 19, Value.int 191 0, Value.int 1 0, Value.str (Str.ofString "/claim/cut.py") 192] }) ::
  (nat_lit 21, f21) ::
  (nat_lit 22, { cls := Value.type "tuple", data := Data.seq #[] }) ::
  (nat_lit 24, { cls := Value.type "tuple", data := Data.seq #[Value.str (Str.ofString "name") 199] }) ::
  (nat_lit 25, { cls := Value.type "tuple", data := Data.seq #[] }) ::
  (nat_lit 27, { cls := Value.type "code", data := Data.fields #[Value.str (Str.ofString "is_void") 196, Value.str (Str.ofString "is_void") 197, Value.str (Str.ofString "/claim/cut.py") 198, Value.int 5 0, Value.int 1 0, Value.int 0 0, Value.int 0 0, Value.int 3 0, Value.ref 22, Value.bool true, Value.int 181 0, Value.ref 23, Value.none, Value.ref 24, Value.ref 25, Value.ref 26, Value.int 200 0, Value.int 5 0, Value.str (Str.ofString "/claim/cut.py") 201] }) ::
  (nat_lit 28, f28) ::
  (nat_lit 29, { cls := Value.type "tuple", data := Data.seq #[] }) ::
  (nat_lit 31, { cls := Value.type "tuple", data := Data.seq #[Value.str (Str.ofString "name") 206] }) ::
  (nat_lit 32, { cls := Value.type "tuple", data := Data.seq #[] }) ::
  (nat_lit 34, { cls := Value.type "code", data := Data.fields #[Value.str (Str.ofString "is_raw") 203, Value.str (Str.ofString "is_raw") 204, Value.str (Str.ofString "/claim/cut.py") 205, Value.int 7 0, Value.int 1 0, Value.int 0 0, Value.int 0 0, Value.int 3 0, Value.ref 29, Value.bool true, Value.int 181 0, Value.ref 30, Value.none, Value.ref 31, Value.ref 32, Value.ref 33, Value.int 207 0, Value.int 7 0, Value.str (Str.ofString "/claim/cut.py") 208] }) ::
  (nat_lit 35, f35) ::
  (nat_lit 36, { cls := Value.type "tuple", data := Data.seq #[] }) ::
  (nat_lit 38, { cls := Value.type "tuple", data := Data.seq #[Value.str (Str.ofString "text") 215] }) ::
  (nat_lit 39, { cls := Value.type "tuple", data := Data.seq #[] }) ::
  (nat_lit 41, { cls := Value.type "code", data := Data.fields #[Value.str (Str.ofString "escape_text") 212, Value.str (Str.ofString "escape_text") 213, Value.str (Str.ofString "/claim/cut.py") 214, Value.int 10 0, Value.int 1 0, Value.int 0 0, Value.int 0 0, Value.int 3 0, Value.ref 36, Value.bool true, Value.int 181 0, Value.ref 37, Value.none, Value.ref 38, Value.ref 39, Value.ref 40, Value.int 216 0, Value.int 10 0, Value.str (Str.ofString "/claim/cut.py") 217] }) ::
  (nat_lit 42, f42) ::
  (nat_lit 43, { cls := Value.type "tuple", data := Data.seq #[] }) ::
  (nat_lit 45, { cls := Value.type "tuple", data := Data.seq #[Value.str (Str.ofString "text") 222] }) ::
  (nat_lit 46, { cls := Value.type "tuple", data := Data.seq #[] }) ::
  (nat_lit 48, { cls := Value.type "code", data := Data.fields #[Value.str (Str.ofString "escape_value") 219, Value.str (Str.ofString "escape_value") 220, Value.str (Str.ofString "/claim/cut.py") 221, Value.int 12 0, Value.int 1 0, Value.int 0 0, Value.int 0 0, Value.int 3 0, Value.ref 43, Value.bool true, Value.int 181 0, Value.ref 44, Value.none, Value.ref 45, Value.ref 46, Value.ref 47, Value.int 223 0, Value.int 12 0, Value.str (Str.ofString "/claim/cut.py") 224] }) ::
  (nat_lit 49, f49) ::
  (nat_lit 50, { cls := Value.type "tuple", data := Data.seq #[] }) ::
  (nat_lit 52, { cls := Value.type "tuple", data := Data.seq #[Value.str (Str.ofString "tree") 229, Value.str (Str.ofString "node") 230, Value.str (Str.ofString "name") 231] }) ::
  (nat_lit 53, { cls := Value.type "tuple", data := Data.seq #[] }) ::
  (nat_lit 55, { cls := Value.type "code", data := Data.fields #[Value.str (Str.ofString "is_endless") 226, Value.str (Str.ofString "is_endless") 227, Value.str (Str.ofString "/claim/cut.py") 228, Value.int 14 0, Value.int 2 0, Value.int 0 0, Value.int 0 0, Value.int 3 0, Value.ref 50, Value.bool true, Value.int 181 0, Value.ref 51, Value.none, Value.ref 52, Value.ref 53, Value.ref 54, Value.int 232 0, Value.int 14 0, Value.str (Str.ofString "/claim/cut.py") 233] }) ::
  (nat_lit 56, f56) ::
  (nat_lit 57, { cls := Value.type "tuple", data := Data.seq #[] }) ::
  (nat_lit 59, { cls := Value.type "tuple", data := Data.seq #[Value.str (Str.ofString "tree") 238, Value.str (Str.ofString "node") 239] }) ::
  (nat_lit 60, { cls := Value.type "tuple", data := Data.seq #[] }) ::
  (nat_lit 62, { cls := Value.type "code", data := Data.fields #[Value.str (Str.ofString "written_children") 235, Value.str (Str.ofString "written_children") 236, Value.str (Str.ofString "/claim/cut.py") 237, Value.int 19 0, Value.int 2 0, Value.int 0 0, Value.int 0 0, Value.int 3 0, Value.ref 57, Value.bool true, Value.int 181 0, Value.ref 58, Value.none, Value.ref 59, Value.ref 60, Value.ref 61, Value.int 240 0, Value.int 19 0, Value.str (Str.ofString "/claim/cut.py") 241] }) ::
  (nat_lit 63, f63) ::
  (nat_lit 64, { cls := Value.type "tuple", data := Data.seq #[] }) ::
  (nat_lit 66, { cls := Value.type "tuple", data := Data.seq #[Value.str (Str.ofString "tree") 246, Value.str (Str.ofString "node") 247, Value.str (Str.ofString "out") 248, Value.str (Str.ofString "pair") 249] }) ::
  (nat_lit 67, { cls := Value.type "tuple", data := Data.seq #[] }) ::
  (nat_lit 69, { cls := Value.type "code", data := Data.fields #[Value.str (Str.ofString "open_tag") 243, Value.str (Str.ofString "open_tag") 244, Value.str (Str.ofString "/claim/cut.py") 245, Value.int 23 0, Value.int 2 0, Value.int 0 0, Value.int 0 0, Value.int 3 0, Value.ref 64, Value.bool true, Value.int 181 0, Value.ref 65, Value.none, Value.ref 66, Value.ref 67, Value.ref 68, Value.int 250 0, Value.int 23 0, Value.str (Str.ofString "/claim/cut.py") 251] }) ::
  (nat_lit 70, f70) ::
  (nat_lit 71, { cls := Value.type "tuple", data := Data.seq #[] }) ::
  (nat_lit 73, { cls := Value.type "tuple", data := Data.seq #[Value.str (Str.ofString "tree") 256, Value.str (Str.ofString "parent") 257, Value.str (Str.ofString "is_scripting") 258] }) ::
  (nat_lit 74, { cls := Value.type "tuple", data := Data.seq #[] }) ::
  (nat_lit 76, { cls := Value.type "code", data := Data.fields #[Value.str (Str.ofString "is_kept_text") 253, Value.str (Str.ofString "is_kept_text") 254, Value.str (Str.ofString "/claim/cut.py") 255, Value.int 28 0, Value.int 3 0, Value.int 0 0, Value.int 0 0, Value.int 3 0, Value.ref 71, Value.bool true, Value.int 181 0, Value.ref 72, Value.none, Value.ref 73, Value.ref 74, Value.ref 75, Value.int 259 0, Value.int 28 0, Value.str (Str.ofString "/claim/cut.py") 260] }) ::
  (nat_lit 77, f77) ::
  (nat_lit 78, { cls := Value.type "tuple", data := Data.seq #[] }) ::
  (nat_lit 80, { cls := Value.type "tuple", data := Data.seq #[Value.str (Str.ofString "tree") 265, Value.str (Str.ofString "node") 266, Value.str (Str.ofString "is_scripting") 267, Value.str (Str.ofString "kind") 268] }) ::
  (nat_lit 81, { cls := Value.type "tuple", data := Data.seq #[] }) ::
  (nat_lit 83, { cls := Value.type "code", data := Data.fields #[Value.str (Str.ofString "leaf") 262, Value.str (Str.ofString "leaf") 263, Value.str (Str.ofString "/claim/cut.py") 264, Value.int 32 0, Value.int 3 0, Value.int 0 0, Value.int 0 0, Value.int 3 0, Value.ref 78, Value.bool true, Value.int 181 0, Value.ref 79, Value.none, Value.ref 80, Value.ref 81, Value.ref 82, Value.int 269 0, Value.int 32 0, Value.str (Str.ofString "/claim/cut.py") 270] }) ::
  (nat_lit 84, f84) ::
  (nat_lit 85, { cls := Value.type "tuple", data := Data.seq #[] }) ::
  (nat_lit 88, { cls := Value.type "code", data := Data.fields #[Value.str (Str.ofString "written") 272, Value.str (Str.ofString "written") 273, Value.str (Str.ofString "/claim/cut.py") 274, Value.int 41 0, Value.int 3 0, Value.int 0 0, Value.int 0 0, Value.int 3 0, Value.ref 85, Value.bool true, Value.int 181 0, Value.ref 86, Value.none, Value.none, Value.none, Value.ref 87, Value.int 275 0, Value.int 41 0, Value.str (Str.ofString "/claim/cut.py") 276] }) ::
  (nat_lit 89, f89) ::
  (nat_lit 90, { cls := Value.type "tuple", data := Data.seq #[Value.bool false] }) ::
  (nat_lit 91, { cls := Value.type "tuple", data := Data.seq #[] }) ::
  (nat_lit 93, { cls := Value.type "tuple", data := Data.seq #[Value.str (Str.ofString "tree") 281, Value.str (Str.ofString "node") 282, Value.str (Str.ofString "is_scripting") 283] }) ::
  (nat_lit 94, { cls := Value.type "tuple", data := Data.seq #[] }) ::
  (nat_lit 96, { cls := Value.type "code", data := Data.fields #[Value.str (Str.ofString "inner") 278, Value.str (Str.ofString "inner") 279, Value.str (Str.ofString "/claim/cut.py") 280, Value.int 57 0, Value.int 3 0, Value.int 0 0, Value.int 0 0, Value.int 3 0, Value.ref 91, Value.bool true, Value.int 181 0, Value.ref 92, Value.none, Value.ref 93, Value.ref 94, Value.ref 95, Value.int 284 0, Value.int 57 0, Value.str (Str.ofString "/claim/cut.py") 285] }) ::
  (nat_lit 97, f97) ::
  (nat_lit 98, { cls := Value.type "tuple", data := Data.seq #[Value.bool false] }) ::
  (nat_lit 99, { cls := Value.type "tuple", data := Data.seq #[] }) ::
  (nat_lit 101, { cls := Value.type "tuple", data := Data.seq #[Value.str (Str.ofString "tree") 290, Value.str (Str.ofString "node") 291, Value.str (Str.ofString "is_scripting") 292] }) ::
  (nat_lit 102, { cls := Value.type "tuple", data := Data.seq #[] }) ::
  (nat_lit 104, { cls := Value.type "code", data := Data.fields #[Value.str (Str.ofString "outer") 287, Value.str (Str.ofString "outer") 288, Value.str (Str.ofString "/claim/cut.py") 289, Value.int 61 0, Value.int 3 0, Value.int 0 0, Value.int 0 0, Value.int 3 0, Value.ref 99, Value.bool true, Value.int 181 0, Value.ref 100, Value.none, Value.ref 101, Value.ref 102, Value.ref 103, Value.int 293 0, Value.int 61 0, Value.str (Str.ofString "/claim/cut.py") 294] }) ::
  (nat_lit 105, f105) ::
  (nat_lit 106, { cls := Value.type "tuple", data := Data.seq #[Value.type "Exception"] }) ::
  (nat_lit 113, { cls := Value.type "tuple", data := Data.seq #[] }) ::
  (nat_lit 115, { cls := Value.type "tuple", data := Data.seq #[Value.str (Str.ofString "self") 313, Value.str (Str.ofString "why") 314] }) ::
  (nat_lit 116, { cls := Value.type "tuple", data := Data.seq #[] }) ::
  (nat_lit 118, { cls := Value.type "code", data := Data.fields #[Value.str (Str.ofString "__init__") 310, Value.str (Str.ofString "HtmlFault.__init__") 311, Value.str (Str.ofString "/claim/cut.py") 312, Value.int 68 0, Value.int 2 0, Value.int 0 0, Value.int 0 0, Value.int 3 0, Value.ref 113, Value.bool true, Value.int 181 0, Value.ref 114, Value.none, Value.ref 115, Value.ref 116, Value.ref 117, Value.int 315 0, Value.int 68 0, Value.str (Str.ofString "/claim/cut.py") 316] }) ::
  (nat_lit 119, f119) ::
  (nat_lit 120, { cls := Value.type "tuple", data := Data.seq #[Value.str (Str.ofString "why") 318] }) ::
  (nat_lit 121, { cls := Value.type "dict", data := Data.dict (List.toArray ({ hash := PyData.keyHash P (Str.ofString "__module__"), key := Value.str (Str.ofString "__module__") 305, val := Value.str (Str.ofString "htmltree.faults") 296 } :: { hash := PyData.keyHash P (Str.ofString "__firstlineno__"), key := Value.str (Str.ofString "__firstlineno__") 309, val := Value.int 66 308 } :: { hash := PyData.keyHash P (Str.ofString "__init__"), key := Value.str (Str.ofString "__init__") 317, val := Value.ref 119 } :: { hash := PyData.keyHash P (Str.ofString "__static_attributes__"), key := Value.str (Str.ofString "__static_attributes__") 319, val := Value.ref 120 } :: { hash := PyData.keyHash P (Str.ofString "__weakref__"), key := Value.str (Str.ofString "__weakref__") 321, val := Value.ref 123 } :: { hash := PyData.keyHash P (Str.ofString "__doc__"), key := Value.str (Str.ofString "__doc__") 322, val := Value.none } :: [])) 3 }) ::
  (nat_lit 122, { cls := Value.type "type", data := Data.cls { name := Str.ofString "HtmlFault", bases := [Value.type "Exception"], mro := [Value.ref 122, Value.type "Exception", Value.type "BaseException", Value.type "object"], ns := 121, qualname := Str.ofString "HtmlFault", subclasses := [Value.ref 135] }, slots := #[some (Value.ref 106), none, some (Value.str (Str.ofString "HtmlFault") 298), some (Value.str (Str.ofString "HtmlFault") 306), some (Value.builtin "Exception.__new__"), some (Value.bool true)] }) ::
  (nat_lit 123, { cls := Value.type "getset_descriptor", data := Data.fields #[Value.str (Str.ofString "__weakref__") 320, Value.ref 122, Value.builtin "ExceptionGroup.__weakref__", Value.none] }) ::
  (nat_lit 126, { cls := Value.type "tuple", data := Data.seq #[Value.ref 122] }) ::
  (nat_lit 133, { cls := Value.type "tuple", data := Data.seq #[] }) ::
  (nat_lit 134, { cls := Value.type "dict", data := Data.dict (List.toArray ({ hash := PyData.keyHash P (Str.ofString "__module__"), key := Value.str (Str.ofString "__module__") 334, val := Value.str (Str.ofString "htmltree.faults") 296 } :: { hash := PyData.keyHash P (Str.ofString "__firstlineno__"), key := Value.str (Str.ofString "__firstlineno__") 338, val := Value.int 71 337 } :: { hash := PyData.keyHash P (Str.ofString "__static_attributes__"), key := Value.str (Str.ofString "__static_attributes__") 339, val := Value.ref 133 } :: { hash := PyData.keyHash P (Str.ofString "__doc__"), key := Value.str (Str.ofString "__doc__") 340, val := Value.none } :: [])) 2 }) ::
  (nat_lit 135, { cls := Value.type "type", data := Data.cls { name := Str.ofString "Misused", bases := [Value.ref 122], mro := [Value.ref 135, Value.ref 122, Value.type "Exception", Value.type "BaseException", Value.type "object"], ns := 134, qualname := Str.ofString "Misused" }, slots := #[some (Value.ref 126), none, some (Value.str (Str.ofString "Misused") 327), some (Value.str (Str.ofString "Misused") 335), some (Value.builtin "Exception.__new__"), some (Value.bool true)] }) ::
  (nat_lit 145, { cls := Value.type "tuple", data := Data.seq #[] }) ::
  (nat_lit 147, { cls := Value.type "tuple", data := Data.seq #[Value.str (Str.ofString "self") 360] }) ::
  (nat_lit 148, { cls := Value.type "tuple", data := Data.seq #[] }) ::
  (nat_lit 150, { cls := Value.type "code", data := Data.fields #[Value.str (Str.ofString "__init__") 357, Value.str (Str.ofString "Tree.__init__") 358, Value.str (Str.ofString "/claim/cut.py") 359, Value.int 76 0, Value.int 1 0, Value.int 0 0, Value.int 0 0, Value.int 3 0, Value.ref 145, Value.bool true, Value.int 181 0, Value.ref 146, Value.none, Value.ref 147, Value.ref 148, Value.ref 149, Value.int 361 0, Value.int 76 0, Value.str (Str.ofString "/claim/cut.py") 362] }) ::
  (nat_lit 151, f151) ::
  (nat_lit 152, { cls := Value.type "tuple", data := Data.seq #[] }) ::
  (nat_lit 153, { cls := Value.type "tuple", data := Data.seq #[Value.str (Str.ofString "") 364, Value.str (Str.ofString "") 365, Value.ref 152, Value.str (Str.ofString "") 366] }) ::
  (nat_lit 154, { cls := Value.type "tuple", data := Data.seq #[] }) ::
  (nat_lit 156, { cls := Value.type "tuple", data := Data.seq #[Value.str (Str.ofString "self") 370, Value.str (Str.ofString "kind") 371, Value.str (Str.ofString "space") 372, Value.str (Str.ofString "name") 373, Value.str (Str.ofString "attrs") 374, Value.str (Str.ofString "text") 375] }) ::
  (nat_lit 157, { cls := Value.type "tuple", data := Data.seq #[] }) ::
  (nat_lit 159, { cls := Value.type "code", data := Data.fields #[Value.str (Str.ofString "add") 367, Value.str (Str.ofString "Tree.add") 368, Value.str (Str.ofString "/claim/cut.py") 369, Value.int 87 0, Value.int 6 0, Value.int 0 0, Value.int 0 0, Value.int 3 0, Value.ref 154, Value.bool true, Value.int 181 0, Value.ref 155, Value.none, Value.ref 156, Value.ref 157, Value.ref 158, Value.int 376 0, Value.int 87 0, Value.str (Str.ofString "/claim/cut.py") 377] }) ::
  (nat_lit 160, f160) ::
  (nat_lit 161, { cls := Value.type "tuple", data := Data.seq #[] }) ::
  (nat_lit 162, { cls := Value.type "tuple", data := Data.seq #[Value.str (Str.ofString "html") 379, Value.ref 161] }) ::
  (nat_lit 163, { cls := Value.type "tuple", data := Data.seq #[] }) ::
  (nat_lit 165, { cls := Value.type "tuple", data := Data.seq #[Value.str (Str.ofString "self") 383, Value.str (Str.ofString "name") 384, Value.str (Str.ofString "space") 385, Value.str (Str.ofString "attrs") 386, Value.str (Str.ofString "node") 387] }) ::
  (nat_lit 166, { cls := Value.type "tuple", data := Data.seq #[] }) ::
  (nat_lit 168, { cls := Value.type "code", data := Data.fields #[Value.str (Str.ofString "element") 380, Value.str (Str.ofString "Tree.element") 381, Value.str (Str.ofString "/claim/cut.py") 382, Value.int 97 0, Value.int 4 0, Value.int 0 0, Value.int 0 0, Value.int 3 0, Value.ref 163, Value.bool true, Value.int 181 0, Value.ref 164, Value.none, Value.ref 165, Value.ref 166, Value.ref 167, Value.int 388 0, Value.int 97 0, Value.str (Str.ofString "/claim/cut.py") 389] }) ::
  (nat_lit 169, f169) ::
  (nat_lit 170, { cls := Value.type "tuple", data := Data.seq #[] }) ::
  (nat_lit 172, { cls := Value.type "tuple", data := Data.seq #[Value.str (Str.ofString "self") 394, Value.str (Str.ofString "text") 395] }) ::
  (nat_lit 173, { cls := Value.type "tuple", data := Data.seq #[] }) ::
  (nat_lit 175, { cls := Value.type "code", data := Data.fields #[Value.str (Str.ofString "text") 391, Value.str (Str.ofString "Tree.text") 392, Value.str (Str.ofString "/claim/cut.py") 393, Value.int 103 0, Value.int 2 0, Value.int 0 0, Value.int 0 0, Value.int 3 0, Value.ref 170, Value.bool true, Value.int 181 0, Value.ref 171, Value.none, Value.ref 172, Value.ref 173, Value.ref 174, Value.int 396 0, Value.int 103 0, Value.str (Str.ofString "/claim/cut.py") 397] }) ::
  (nat_lit 176, f176) ::
  (nat_lit 177, { cls := Value.type "tuple", data := Data.seq #[] }) ::
  (nat_lit 179, { cls := Value.type "tuple", data := Data.seq #[Value.str (Str.ofString "self") 402, Value.str (Str.ofString "text") 403] }) ::
  (nat_lit 180, { cls := Value.type "tuple", data := Data.seq #[] }) ::
  (nat_lit 182, { cls := Value.type "code", data := Data.fields #[Value.str (Str.ofString "comment") 399, Value.str (Str.ofString "Tree.comment") 400, Value.str (Str.ofString "/claim/cut.py") 401, Value.int 106 0, Value.int 2 0, Value.int 0 0, Value.int 0 0, Value.int 3 0, Value.ref 177, Value.bool true, Value.int 181 0, Value.ref 178, Value.none, Value.ref 179, Value.ref 180, Value.ref 181, Value.int 404 0, Value.int 106 0, Value.str (Str.ofString "/claim/cut.py") 405] }) ::
  (nat_lit 183, f183) ::
  (nat_lit 184, { cls := Value.type "tuple", data := Data.seq #[] }) ::
  (nat_lit 186, { cls := Value.type "tuple", data := Data.seq #[Value.str (Str.ofString "self") 410, Value.str (Str.ofString "name") 411, Value.str (Str.ofString "public") 412, Value.str (Str.ofString "system") 413] }) ::
  (nat_lit 187, { cls := Value.type "tuple", data := Data.seq #[] }) ::
  (nat_lit 189, { cls := Value.type "code", data := Data.fields #[Value.str (Str.ofString "doctype") 407, Value.str (Str.ofString "Tree.doctype") 408, Value.str (Str.ofString "/claim/cut.py") 409, Value.int 109 0, Value.int 4 0, Value.int 0 0, Value.int 0 0, Value.int 3 0, Value.ref 184, Value.bool true, Value.int 181 0, Value.ref 185, Value.none, Value.ref 186, Value.ref 187, Value.ref 188, Value.int 414 0, Value.int 109 0, Value.str (Str.ofString "/claim/cut.py") 415] }) ::
  (nat_lit 190, f190) ::
  (nat_lit 191, { cls := Value.type "tuple", data := Data.seq #[Value.int (-1) 418] }) ::
  (nat_lit 192, { cls := Value.type "tuple", data := Data.seq #[] }) ::
  (nat_lit 194, { cls := Value.type "tuple", data := Data.seq #[Value.str (Str.ofString "self") 422, Value.str (Str.ofString "parent") 423, Value.str (Str.ofString "node") 424, Value.str (Str.ofString "before") 425, Value.str (Str.ofString "at") 426] }) ::
  (nat_lit 195, { cls := Value.type "tuple", data := Data.seq #[] }) ::
  (nat_lit 197, { cls := Value.type "code", data := Data.fields #[Value.str (Str.ofString "insert") 419, Value.str (Str.ofString "Tree.insert") 420, Value.str (Str.ofString "/claim/cut.py") 421, Value.int 112 0, Value.int 4 0, Value.int 0 0, Value.int 0 0, Value.int 3 0, Value.ref 192, Value.bool true, Value.int 181 0, Value.ref 193, Value.none, Value.ref 194, Value.ref 195, Value.ref 196, Value.int 427 0, Value.int 112 0, Value.str (Str.ofString "/claim/cut.py") 428] }) ::
  (nat_lit 198, f198) ::
  (nat_lit 199, { cls := Value.type "tuple", data := Data.seq #[] }) ::
  (nat_lit 201, { cls := Value.type "tuple", data := Data.seq #[Value.str (Str.ofString "self") 433, Value.str (Str.ofString "parent") 434, Value.str (Str.ofString "node") 435] }) ::
  (nat_lit 202, { cls := Value.type "tuple", data := Data.seq #[] }) ::
  (nat_lit 204, { cls := Value.type "code", data := Data.fields #[Value.str (Str.ofString "append") 430, Value.str (Str.ofString "Tree.append") 431, Value.str (Str.ofString "/claim/cut.py") 432, Value.int 126 0, Value.int 3 0, Value.int 0 0, Value.int 0 0, Value.int 3 0, Value.ref 199, Value.bool true, Value.int 181 0, Value.ref 200, Value.none, Value.ref 201, Value.ref 202, Value.ref 203, Value.int 436 0, Value.int 126 0, Value.str (Str.ofString "/claim/cut.py") 437] }) ::
  (nat_lit 205, f205) ::
  (nat_lit 206, { cls := Value.type "tuple", data := Data.seq #[] }) ::
  (nat_lit 208, { cls := Value.type "tuple", data := Data.seq #[Value.str (Str.ofString "self") 442, Value.str (Str.ofString "node") 443] }) ::
  (nat_lit 209, { cls := Value.type "tuple", data := Data.seq #[] }) ::
  (nat_lit 211, { cls := Value.type "code", data := Data.fields #[Value.str (Str.ofString "remove") 439, Value.str (Str.ofString "Tree.remove") 440, Value.str (Str.ofString "/claim/cut.py") 441, Value.int 129 0, Value.int 2 0, Value.int 0 0, Value.int 0 0, Value.int 3 0, Value.ref 206, Value.bool true, Value.int 181 0, Value.ref 207, Value.none, Value.ref 208, Value.ref 209, Value.ref 210, Value.int 444 0, Value.int 129 0, Value.str (Str.ofString "/claim/cut.py") 445] }) ::
  (nat_lit 212, f212) ::
  (nat_lit 213, { cls := Value.type "tuple", data := Data.seq #[] }) ::
  (nat_lit 215, { cls := Value.type "tuple", data := Data.seq #[Value.str (Str.ofString "self") 450, Value.str (Str.ofString "here") 451, Value.str (Str.ofString "there") 452] }) ::
  (nat_lit 216, { cls := Value.type "tuple", data := Data.seq #[] }) ::
  (nat_lit 218, { cls := Value.type "code", data := Data.fields #[Value.str (Str.ofString "move_children") 447, Value.str (Str.ofString "Tree.move_children") 448, Value.str (Str.ofString "/claim/cut.py") 449, Value.int 134 0, Value.int 3 0, Value.int 0 0, Value.int 0 0, Value.int 3 0, Value.ref 213, Value.bool true, Value.int 181 0, Value.ref 214, Value.none, Value.ref 215, Value.ref 216, Value.ref 217, Value.int 453 0, Value.int 134 0, Value.str (Str.ofString "/claim/cut.py") 454] }) ::
  (nat_lit 219, f219) ::
  (nat_lit 220, { cls := Value.type "tuple", data := Data.seq #[] }) ::
  (nat_lit 222, { cls := Value.type "tuple", data := Data.seq #[Value.str (Str.ofString "self") 459, Value.str (Str.ofString "node") 460] }) ::
  (nat_lit 223, { cls := Value.type "tuple", data := Data.seq #[] }) ::
  (nat_lit 225, { cls := Value.type "code", data := Data.fields #[Value.str (Str.ofString "place") 456, Value.str (Str.ofString "Tree.place") 457, Value.str (Str.ofString "/claim/cut.py") 458, Value.int 137 0, Value.int 2 0, Value.int 0 0, Value.int 0 0, Value.int 3 0, Value.ref 220, Value.bool true, Value.int 181 0, Value.ref 221, Value.none, Value.ref 222, Value.ref 223, Value.ref 224, Value.int 461 0, Value.int 137 0, Value.str (Str.ofString "/claim/cut.py") 462] }) ::
  (nat_lit 226, f226) ::
  (nat_lit 227, { cls := Value.type "tuple", data := Data.seq #[] }) ::
  (nat_lit 229, { cls := Value.type "tuple", data := Data.seq #[Value.str (Str.ofString "self") 467, Value.str (Str.ofString "parent") 468] }) ::
  (nat_lit 230, { cls := Value.type "tuple", data := Data.seq #[] }) ::
  (nat_lit 232, { cls := Value.type "code", data := Data.fields #[Value.str (Str.ofString "last") 464, Value.str (Str.ofString "Tree.last") 465, Value.str (Str.ofString "/claim/cut.py") 466, Value.int 142 0, Value.int 2 0, Value.int 0 0, Value.int 0 0, Value.int 3 0, Value.ref 227, Value.bool true, Value.int 181 0, Value.ref 228, Value.none, Value.ref 229, Value.ref 230, Value.ref 231, Value.int 469 0, Value.int 142 0, Value.str (Str.ofString "/claim/cut.py") 470] }) ::
  (nat_lit 233, f233) ::
  (nat_lit 234, { cls := Value.type "tuple", data := Data.seq #[] }) ::
  (nat_lit 236, { cls := Value.type "tuple", data := Data.seq #[Value.str (Str.ofString "self") 475, Value.str (Str.ofString "node") 476, Value.str (Str.ofString "name") 477, Value.str (Str.ofString "pair") 478] }) ::
  (nat_lit 237, { cls := Value.type "tuple", data := Data.seq #[] }) ::
  (nat_lit 239, { cls := Value.type "code", data := Data.fields #[Value.str (Str.ofString "value") 472, Value.str (Str.ofString "Tree.value") 473, Value.str (Str.ofString "/claim/cut.py") 474, Value.int 145 0, Value.int 3 0, Value.int 0 0, Value.int 0 0, Value.int 3 0, Value.ref 234, Value.bool true, Value.int 181 0, Value.ref 235, Value.none, Value.ref 236, Value.ref 237, Value.ref 238, Value.int 479 0, Value.int 145 0, Value.str (Str.ofString "/claim/cut.py") 480] }) ::
  (nat_lit 240, f240) ::
  (nat_lit 241, { cls := Value.type "tuple", data := Data.seq #[] }) ::
  (nat_lit 243, { cls := Value.type "tuple", data := Data.seq #[Value.str (Str.ofString "self") 485, Value.str (Str.ofString "node") 486, Value.str (Str.ofString "name") 487] }) ::
  (nat_lit 244, { cls := Value.type "tuple", data := Data.seq #[] }) ::
  (nat_lit 246, { cls := Value.type "code", data := Data.fields #[Value.str (Str.ofString "is_html") 482, Value.str (Str.ofString "Tree.is_html") 483, Value.str (Str.ofString "/claim/cut.py") 484, Value.int 151 0, Value.int 3 0, Value.int 0 0, Value.int 0 0, Value.int 3 0, Value.ref 241, Value.bool true, Value.int 181 0, Value.ref 242, Value.none, Value.ref 243, Value.ref 244, Value.ref 245, Value.int 488 0, Value.int 151 0, Value.str (Str.ofString "/claim/cut.py") 489] }) ::
  (nat_lit 247, f247) ::
  (nat_lit 248, { cls := Value.type "tuple", data := Data.seq #[Value.str (Str.ofString "attrs") 491, Value.str (Str.ofString "children") 492, Value.str (Str.ofString "contents") 493, Value.str (Str.ofString "kinds") 494, Value.str (Str.ofString "names") 495, Value.str (Str.ofString "parents") 496, Value.str (Str.ofString "spaces") 497, Value.str (Str.ofString "texts") 498] }) ::
  (nat_lit 249, { cls := Value.type "dict", data := Data.dict (List.toArray ({ hash := PyData.keyHash P (Str.ofString "__module__"), key := Value.str (Str.ofString "__module__") 352, val := Value.str (Str.ofString "htmltree.tree") 343 } :: { hash := PyData.keyHash P (Str.ofString "__firstlineno__"), key := Value.str (Str.ofString "__firstlineno__") 356, val := Value.int 74 355 } :: { hash := PyData.keyHash P (Str.ofString "__init__"), key := Value.str (Str.ofString "__init__") 363, val := Value.ref 151 } :: { hash := PyData.keyHash P (Str.ofString "add"), key := Value.str (Str.ofString "add") 378, val := Value.ref 160 } :: { hash := PyData.keyHash P (Str.ofString "element"), key := Value.str (Str.ofString "element") 390, val := Value.ref 169 } :: { hash := PyData.keyHash P (Str.ofString "text"), key := Value.str (Str.ofString "text") 398, val := Value.ref 176 } :: { hash := PyData.keyHash P (Str.ofString "comment"), key := Value.str (Str.ofString "comment") 406, val := Value.ref 183 } :: { hash := PyData.keyHash P (Str.ofString "doctype"), key := Value.str (Str.ofString "doctype") 416, val := Value.ref 190 } :: { hash := PyData.keyHash P (Str.ofString "insert"), key := Value.str (Str.ofString "insert") 429, val := Value.ref 198 } :: { hash := PyData.keyHash P (Str.ofString "append"), key := Value.str (Str.ofString "append") 438, val := Value.ref 205 } :: { hash := PyData.keyHash P (Str.ofString "remove"), key := Value.str (Str.ofString "remove") 446, val := Value.ref 212 } :: { hash := PyData.keyHash P (Str.ofString "move_children"), key := Value.str (Str.ofString "move_children") 455, val := Value.ref 219 } :: { hash := PyData.keyHash P (Str.ofString "place"), key := Value.str (Str.ofString "place") 463, val := Value.ref 226 } :: { hash := PyData.keyHash P (Str.ofString "last"), key := Value.str (Str.ofString "last") 471, val := Value.ref 233 } :: { hash := PyData.keyHash P (Str.ofString "value"), key := Value.str (Str.ofString "value") 481, val := Value.ref 240 } :: { hash := PyData.keyHash P (Str.ofString "is_html"), key := Value.str (Str.ofString "is_html") 490, val := Value.ref 247 } :: { hash := PyData.keyHash P (Str.ofString "__static_attributes__"), key := Value.str (Str.ofString "__static_attributes__") 499, val := Value.ref 248 } :: { hash := PyData.keyHash P (Str.ofString "__dict__"), key := Value.str (Str.ofString "__dict__") 501, val := Value.ref 251 } :: { hash := PyData.keyHash P (Str.ofString "__weakref__"), key := Value.str (Str.ofString "__weakref__") 503, val := Value.ref 252 } :: { hash := PyData.keyHash P (Str.ofString "__doc__"), key := Value.str (Str.ofString "__doc__") 504, val := Value.none } :: [])) 4 }) ::
  (nat_lit 250, { cls := Value.type "type", data := Data.cls { name := Str.ofString "Tree", bases := [Value.type "object"], mro := [Value.ref 250, Value.type "object"], ns := 249, qualname := Str.ofString "Tree" }, slots := #[none, none, some (Value.str (Str.ofString "Tree") 345), some (Value.str (Str.ofString "Tree") 353), some (Value.builtin "object.__new__"), some (Value.bool true)] }) ::
  (nat_lit 251, { cls := Value.type "getset_descriptor", data := Data.fields #[Value.str (Str.ofString "__dict__") 500, Value.ref 250, Value.builtin "function.__dict__", Value.builtin "function.__dict__#set"] }) ::
  (nat_lit 252, { cls := Value.type "getset_descriptor", data := Data.fields #[Value.str (Str.ofString "__weakref__") 502, Value.ref 250, Value.builtin "ExceptionGroup.__weakref__", Value.none] }) ::
  (nat_lit 255, { cls := Value.type "tuple", data := Data.seq #[] }) ::
  (nat_lit 257, { cls := Value.type "tuple", data := Data.seq #[Value.str (Str.ofString "tree") 510, Value.str (Str.ofString "node") 511, Value.str (Str.ofString "out") 512, Value.str (Str.ofString "up") 513] }) ::
  (nat_lit 258, { cls := Value.type "tuple", data := Data.seq #[] }) ::
  (nat_lit 260, { cls := Value.type "code", data := Data.fields #[Value.str (Str.ofString "above") 507, Value.str (Str.ofString "above") 508, Value.str (Str.ofString "/claim/cut.py") 509, Value.int 153 0, Value.int 2 0, Value.int 0 0, Value.int 0 0, Value.int 3 0, Value.ref 255, Value.bool true, Value.int 181 0, Value.ref 256, Value.none, Value.ref 257, Value.ref 258, Value.ref 259, Value.int 514 0, Value.int 153 0, Value.str (Str.ofString "/claim/cut.py") 515] }) ::
  (nat_lit 261, f261) ::
  (nat_lit 262, { cls := Value.type "tuple", data := Data.seq #[] }) ::
  (nat_lit 264, { cls := Value.type "tuple", data := Data.seq #[Value.str (Str.ofString "rows") 522] }) ::
  (nat_lit 265, { cls := Value.type "tuple", data := Data.seq #[] }) ::
  (nat_lit 267, { cls := Value.type "code", data := Data.fields #[Value.str (Str.ofString "_law_base") 519, Value.str (Str.ofString "_law_base") 520, Value.str (Str.ofString "/claim/cut.py") 521, Value.int 161 0, Value.int 0 0, Value.int 0 0, Value.int 0 0, Value.int 3 0, Value.ref 262, Value.bool true, Value.int 181 0, Value.ref 263, Value.none, Value.ref 264, Value.ref 265, Value.ref 266, Value.int 523 0, Value.int 161 0, Value.str (Str.ofString "/claim/cut.py") 524] }) ::
  (nat_lit 268, f268) ::
  (nat_lit 269, { cls := Value.type "tuple", data := Data.seq #[] }) ::
  (nat_lit 271, { cls := Value.type "tuple", data := Data.seq #[Value.str (Str.ofString "words") 529] }) ::
  (nat_lit 272, { cls := Value.type "tuple", data := Data.seq #[] }) ::
  (nat_lit 274, { cls := Value.type "code", data := Data.fields #[Value.str (Str.ofString "_law_words") 526, Value.str (Str.ofString "_law_words") 527, Value.str (Str.ofString "/claim/cut.py") 528, Value.int 165 0, Value.int 0 0, Value.int 0 0, Value.int 0 0, Value.int 3 0, Value.ref 269, Value.bool true, Value.int 181 0, Value.ref 270, Value.none, Value.ref 271, Value.ref 272, Value.ref 273, Value.int 530 0, Value.int 165 0, Value.str (Str.ofString "/claim/cut.py") 531] }) ::
  (nat_lit 275, f275) ::
  (nat_lit 276, { cls := Value.type "tuple", data := Data.seq #[] }) ::
  (nat_lit 278, { cls := Value.type "tuple", data := Data.seq #[Value.str (Str.ofString "digit") 536, Value.str (Str.ofString "pieces") 537, Value.str (Str.ofString "many") 538, Value.str (Str.ofString "out") 539, Value.str (Str.ofString "k") 540] }) ::
  (nat_lit 279, { cls := Value.type "tuple", data := Data.seq #[] }) ::
  (nat_lit 281, { cls := Value.type "code", data := Data.fields #[Value.str (Str.ofString "_law_text") 533, Value.str (Str.ofString "_law_text") 534, Value.str (Str.ofString "/claim/cut.py") 535, Value.int 174 0, Value.int 1 0, Value.int 0 0, Value.int 0 0, Value.int 3 0, Value.ref 276, Value.bool true, Value.int 181 0, Value.ref 277, Value.none, Value.ref 278, Value.ref 279, Value.ref 280, Value.int 541 0, Value.int 174 0, Value.str (Str.ofString "/claim/cut.py") 542] }) ::
  (nat_lit 282, f282) ::
  (nat_lit 283, { cls := Value.type "tuple", data := Data.seq #[] }) ::
  (nat_lit 286, { cls := Value.type "code", data := Data.fields #[Value.str (Str.ofString "_law_attrs") 544, Value.str (Str.ofString "_law_attrs") 545, Value.str (Str.ofString "/claim/cut.py") 546, Value.int 183 0, Value.int 1 0, Value.int 0 0, Value.int 0 0, Value.int 3 0, Value.ref 283, Value.bool true, Value.int 181 0, Value.ref 284, Value.none, Value.none, Value.none, Value.ref 285, Value.int 547 0, Value.int 183 0, Value.str (Str.ofString "/claim/cut.py") 548] }) ::
  (nat_lit 287, f287) ::
  (nat_lit 288, { cls := Value.type "tuple", data := Data.seq #[] }) ::
  (nat_lit 291, { cls := Value.type "code", data := Data.fields #[Value.str (Str.ofString "_law_escaped") 550, Value.str (Str.ofString "_law_escaped") 551, Value.str (Str.ofString "/claim/cut.py") 552, Value.int 186 0, Value.int 2 0, Value.int 0 0, Value.int 0 0, Value.int 3 0, Value.ref 288, Value.bool true, Value.int 181 0, Value.ref 289, Value.none, Value.none, Value.none, Value.ref 290, Value.int 553 0, Value.int 186 0, Value.str (Str.ofString "/claim/cut.py") 554] }) ::
  (nat_lit 292, f292) ::
  (nat_lit 293, { cls := Value.type "tuple", data := Data.seq #[] }) ::
  (nat_lit 295, { cls := Value.type "tuple", data := Data.seq #[Value.str (Str.ofString "note") 559, Value.str (Str.ofString "voids") 560] }) ::
  (nat_lit 296, { cls := Value.type "tuple", data := Data.seq #[] }) ::
  (nat_lit 298, { cls := Value.type "code", data := Data.fields #[Value.str (Str.ofString "_law_is_void") 556, Value.str (Str.ofString "_law_is_void") 557, Value.str (Str.ofString "/claim/cut.py") 558, Value.int 191 0, Value.int 1 0, Value.int 0 0, Value.int 0 0, Value.int 3 0, Value.ref 293, Value.bool true, Value.int 181 0, Value.ref 294, Value.none, Value.ref 295, Value.ref 296, Value.ref 297, Value.int 561 0, Value.int 191 0, Value.str (Str.ofString "/claim/cut.py") 562] }) ::
  (nat_lit 299, f299) ::
  (nat_lit 300, { cls := Value.type "tuple", data := Data.seq #[] }) ::
  (nat_lit 302, { cls := Value.type "tuple", data := Data.seq #[Value.str (Str.ofString "notes") 567, Value.str (Str.ofString "n") 568, Value.str (Str.ofString "inside") 569, Value.str (Str.ofString "flag") 570, Value.str (Str.ofString "kind") 571, Value.str (Str.ofString "space") 572, Value.str (Str.ofString "name") 573, Value.str (Str.ofString "attrs") 574, Value.str (Str.ofString "text") 575, Value.str (Str.ofString "under") 576, Value.str (Str.ofString "parent") 577, Value.str (Str.ofString "raws") 578, Value.str (Str.ofString "head") 579, Value.str (Str.ofString "pair") 580] }) ::
  (nat_lit 303, { cls := Value.type "tuple", data := Data.seq #[] }) ::
  (nat_lit 305, { cls := Value.type "code", data := Data.fields #[Value.str (Str.ofString "_law_written") 564, Value.str (Str.ofString "_law_written") 565, Value.str (Str.ofString "/claim/cut.py") 566, Value.int 194 0, Value.int 4 0, Value.int 0 0, Value.int 0 0, Value.int 3 0, Value.ref 300, Value.bool true, Value.int 181 0, Value.ref 301, Value.none, Value.ref 302, Value.ref 303, Value.ref 304, Value.int 581 0, Value.int 194 0, Value.str (Str.ofString "/claim/cut.py") 582] }) ::
  (nat_lit 306, f306) ::
  (nat_lit 307, { cls := Value.type "tuple", data := Data.seq #[] }) ::
  (nat_lit 310, { cls := Value.type "code", data := Data.fields #[Value.str (Str.ofString "_law_told") 584, Value.str (Str.ofString "_law_told") 585, Value.str (Str.ofString "/claim/cut.py") 586, Value.int 215 0, Value.int 2 0, Value.int 0 0, Value.int 0 0, Value.int 3 0, Value.ref 307, Value.bool true, Value.int 181 0, Value.ref 308, Value.none, Value.none, Value.none, Value.ref 309, Value.int 587 0, Value.int 215 0, Value.str (Str.ofString "/claim/cut.py") 588] }) ::
  (nat_lit 311, f311) ::
  (nat_lit 312, { cls := Value.type "tuple", data := Data.seq #[] }) ::
  (nat_lit 314, { cls := Value.type "tuple", data := Data.seq #[Value.str (Str.ofString "tree") 593, Value.str (Str.ofString "notes") 594, Value.str (Str.ofString "sort") 595, Value.str (Str.ofString "digit") 596, Value.str (Str.ofString "pick") 597, Value.str (Str.ofString "text") 598, Value.str (Str.ofString "space") 599, Value.str (Str.ofString "name") 600, Value.str (Str.ofString "attrs") 601] }) ::
  (nat_lit 315, { cls := Value.type "tuple", data := Data.seq #[] }) ::
  (nat_lit 317, { cls := Value.type "code", data := Data.fields #[Value.str (Str.ofString "_law_make") 590, Value.str (Str.ofString "_law_make") 591, Value.str (Str.ofString "/claim/cut.py") 592, Value.int 227 0, Value.int 4 0, Value.int 0 0, Value.int 0 0, Value.int 3 0, Value.ref 312, Value.bool true, Value.int 181 0, Value.ref 313, Value.none, Value.ref 314, Value.ref 315, Value.ref 316, Value.int 602 0, Value.int 227 0, Value.str (Str.ofString "/claim/cut.py") 603] }) ::
  (nat_lit 318, f318) ::
  (nat_lit 319, { cls := Value.type "tuple", data := Data.seq #[] }) ::
  (nat_lit 321, { cls := Value.type "tuple", data := Data.seq #[Value.str (Str.ofString "text") 608, Value.str (Str.ofString "attrs") 609, Value.str (Str.ofString "shift") 610, Value.str (Str.ofString "tree") 611, Value.str (Str.ofString "node") 612, Value.str (Str.ofString "notes") 613, Value.str (Str.ofString "k") 614, Value.str (Str.ofString "word") 615, Value.str (Str.ofString "space") 616, Value.str (Str.ofString "name") 617, Value.str (Str.ofString "flag") 618, Value.str (Str.ofString "inside") 619] }) ::
  (nat_lit 322, { cls := Value.type "tuple", data := Data.seq #[] }) ::
  (nat_lit 324, { cls := Value.type "code", data := Data.fields #[Value.str (Str.ofString "_law_is_named") 605, Value.str (Str.ofString "_law_is_named") 606, Value.str (Str.ofString "/claim/cut.py") 607, Value.int 245 0, Value.int 3 0, Value.int 0 0, Value.int 0 0, Value.int 3 0, Value.ref 319, Value.bool true, Value.int 181 0, Value.ref 320, Value.none, Value.ref 321, Value.ref 322, Value.ref 323, Value.int 620 0, Value.int 245 0, Value.str (Str.ofString "/claim/cut.py") 621] }) ::
  (nat_lit 325, f325) ::
  (nat_lit 326, { cls := Value.type "tuple", data := Data.seq #[] }) ::
  (nat_lit 329, { cls := Value.type "code", data := Data.fields #[Value.str (Str.ofString "law") 623, Value.str (Str.ofString "law") 624, Value.str (Str.ofString "/claim/cut.py") 625, Value.int 262 0, Value.int 1 0, Value.int 0 0, Value.int 0 0, Value.int 3 0, Value.ref 326, Value.bool true, Value.int 181 0, Value.ref 327, Value.none, Value.none, Value.none, Value.ref 328, Value.int 626 0, Value.int 262 0, Value.str (Str.ofString "/claim/cut.py") 627] }) ::
  (nat_lit 330, f330) :: []
noncomputable def q0 : Program := { PySem.Challenge.rw_nz0091_01.row.toRowW.1 with main := { PySem.Challenge.rw_nz0091_01.row.toRowW.1.main with body := [0, 2, 3, 5, 6, 7, 8, 9, 10, 11, 12, 16, 17, 19, 20, 22, 23, 24, 25, 26, 27, 28, 29, 30, 31, 32].map stAt } }

theorem prime_whole : (fun (_ : OpenLaw) (_ : Params → Frag) => True) PySem.Challenge.rw_nz0091_01 K0 := by
  k_fill
  trivial
section
open Lean
/- a few short words that build the tactics of the walk's own lines -/
abbrev T9 := MacroM (TSyntax `tactic)
def id9 (s : String) : Ident := mkIdent s.toName
def arg9 (s : String) : MacroM Term := do
  if s == "?" then return ← `(?_)
  if s == "_" then return ← `(_)
  if s == "@" then return ← `((by with_reducible assumption))
  if s == "@@" then return ← `((by assumption))
  if s == "!" then return ← `((by decide))
  if s.isNat then return ⟨Syntax.mkNumLit s⟩
  if s.startsWith "?" then
    let i := mkIdent (← Macro.addMacroScope (s.drop 1).toString.toName)
    return ← `(?$i:ident)
  if s.startsWith "@" then return ← `(@$(id9 (s.drop 1).toString):ident)
  return ⟨id9 s⟩
def mk9 (a : Array Term) : Term := if a.size == 1 then a[0]! else Syntax.mkApp a[0]! (a.extract 1 a.size)
/-- a term told by its words; brackets stand by themselves -/
def tm9 (s : String) : MacroM Term := do
  let mut st : List (Array Term) := [#[]]
  for w in s.splitOn " " do
    if w == "(" then st := #[] :: st
    else if w == ")" then
      if let f :: g :: r := st then st := g.push (← `(($(mk9 f)))) :: r
    else if let f :: r := st then st := f.push (← arg9 w) :: r
  return mk9 st.head!
def exact9 (s : String) : T9 := do `(tactic| exact $(← tm9 s))
def refine9 (s : String) : T9 := do `(tactic| refine' $(← tm9 s))
def apply9 (s : String) : T9 := do `(tactic| apply $(← tm9 s))
def red9 (t : T9) : T9 := do `(tactic| with_reducible $(← t):tactic)
def show9 (s : String) : T9 := do `(tactic| with_reducible show $(← tm9 s))
def seqs9 : List T9 → MacroM (List (TSyntax `tactic))
  | [] => return []
  | t :: r => return (← t) :: (← seqs9 r)
def first9 (l : List T9) : T9 := do
  let ts := (← seqs9 l).toArray
  `(tactic| first $[| $ts:tactic]*)
def seq9 (l : List T9) : T9 := do
  let ts := (← seqs9 l).toArray
  `(tactic| ($[$ts:tactic];*))
def dflt9 (t : T9) : T9 := do `(tactic| k_dflt $(← t):tactic)
def try9 (t : T9) : T9 := do `(tactic| try $(← t):tactic)
def focus9 (t : T9) : T9 := do `(tactic| focus $(← t):tactic)
def not9 (t : T9) : T9 := do `(tactic| fail_if_success $(← t):tactic)
def case9 (n : String) (t : T9) : T9 := do
  let i := mkIdent (← Macro.addMacroScope n.toName)
  `(tactic| case $i:ident => $(← t):tactic)
def ids9 : List String → MacroM (List Ident)
  | [] => return []
  | x :: r => return mkIdent (← Macro.addMacroScope x.toName) :: (← ids9 r)
def intro9 (s : String) : T9 := do
  let is := (← ids9 (s.splitOn " ")).toArray
  `(tactic| intro $[$is:ident]*)
def asm9 : T9 := `(tactic| assumption)
def asmr9 : T9 := `(tactic| with_reducible assumption)
def omega9 : T9 := `(tactic| omega)
def dsimp9 : T9 := `(tactic| try dsimp only)
def kasm9 : T9 := `(tactic| k_asm)
def kmem9 : T9 := `(tactic| k_mem)
def here9 : T9 := `(tactic| k_here)
def whole9 : T9 := `(tactic| k_whole)
def rel9 : T9 := `(tactic| ktr_rel)
def unf9 : T9 := `(tactic| ktr_unf)
def room9 : T9 := `(tactic| ktr_room)
def fold9 : T9 := `(tactic| try k_fold)
def rfl9 : T9 := `(tactic| rfl)
def dec9 : T9 := `(tactic| decide)
def lenA9 : T9 := `(tactic| try simp only [PySem.Str.length_append])
def pos9 : T9 := first9 [asm9, exact9 "Nat.succ_pos _", omega9]
def anL9 : List String := ["an1", "an2", "an3", "an4", "al1", "al2", "al3", "al4", "al5", "al6", "al7", "al8", "al9"]
def at9 (s : String) : T9 := `(tactic| walk_at $(quote s):str)
def le9 : T9 := first9 [at9 "own le", omega9]
def iter9 (n : Nat) : T9 := `(tactic| k_dflt (iterate $(quote n) walk_at "own side"))
def on9 (k : String) (x : Syntax) (t : T9) : MacroM Syntax := do
  if x[1].isStrLit? == some k then t else Macro.throwUnsupported
def ap9 (l : String) (n : Nat) : T9 := red9 (refine9 (l ++ String.join (List.replicate (n + 1) " ?")))
/-- a rule with n sides -/
def side9 (k l : String) (n : Nat) (x : Syntax) : MacroM Syntax := on9 k x (seq9 [ap9 l n, iter9 n])
/-- a rule with n sides; the state that comes is introduced -/
def call9 (k l : String) (n : Nat) (x : Syntax) : MacroM Syntax := on9 k x (seq9 [ap9 l n, iter9 n, at9 "own came"])
/-- a rule with sides of its own -/
def rule9 (k l : String) (c : List (String × T9)) (r : List T9) (x : Syntax) : MacroM Syntax :=
  on9 k x (seq9 (dflt9 (seq9 (refine9 l :: c.map (fun p => case9 p.1 p.2))) :: r))
/-- a list made anew: it is younger than all -/
def lt9 : T9 := do
  let l := mkIdent (← Macro.addMacroScope `l1')
  seq9 [intro9 "D' h' F' N' l1'", do `(tactic| try k_lt $l:ident), dsimp9]
def fnm9 : List T9 := [case9 "F" kasm9, case9 "N" kasm9, case9 "m" kmem9]
def slice9 (s : String) : T9 :=
  seq9 [dflt9 (seq9 ([refine9 s] ++ fnm9 ++ [case9 "k" (exact9 "IsPart.int _ _"), case9 "z" le9, case9 "s" (do `(tactic| with_unfolding_all rfl)), whole9])), intro9 "D' h' F' N' l1'", dsimp9]
def setItem9 (p l : String) (t : T9) (x : Syntax) : MacroM Syntax :=
  on9 "setItem ref int" x (seq9 [here9, show9 ("wpAny _ _ ( setItem ( Value.ref _ ) ( Value.int " ++ p ++ " _ ) _ ) _ _ _"), dflt9 (seq9 ([refine9 (l ++ " ?F ?N ?m ?i ?z ?")] ++ fnm9 ++ [case9 "i" t, case9 "z" t])), intro9 "h' F' N'", dsimp9])
def enum9 (l : String) (i : T9) (x : Syntax) : MacroM Syntax :=
  on9 "call type:enumerate" x (seq9 [here9, show9 "wpAny _ _ ( call ( Value.type _ ) ( List.cons ( Value.ref _ ) List.nil ) ) _ _ _", dflt9 (seq9 ([refine9 (l ++ " ?F ?N ?m ?")] ++ fnm9)), i, intro9 "h' he' hit' hX' hel' hil' F' N'", dsimp9])
def eqs9 (l : String) (x : Syntax) : MacroM Syntax :=
  on9 "compareOp Eq ref ref" x (seq9 [here9, show9 "wpAny _ _ ( compareOp CmpOp.Eq ( Value.ref _ ) ( Value.ref _ ) ) _ _ _", dflt9 (seq9 [refine9 (l ++ " ?N ?a ?b ?u ?"), case9 "N" kasm9, case9 "a" kmem9, case9 "b" kmem9, case9 "u" (first9 [seq9 [do `(tactic| show _ + _ < _), room9], seq9 [dsimp9, omega9]])])])
/-- a store into an item of an item: left to the hand -/
def assign9 (x : Syntax) : MacroM Syntax :=
  on9 "exec Assign" x (seq9 [here9, show9 "wpAny _ _ ( exec ( PySem.Stmt.Assign ( List.cons ( PySem.Expr.Subscript ( PySem.Expr.Subscript _ _ _ ) _ _ ) List.nil ) _ _ ) _ ) _ _ _", do `(tactic| with_reducible rename $(id9 "News") _ _ _ ($(id9 "setL") _ _ _) => $(mkIdent (← Macro.addMacroScope `N9)):ident), refine9 "Stop.out ?"])
def method9 (x : Syntax) : MacroM Syntax :=
  on9 "callWith" x (seq9 [dsimp9, show9 "wpAny _ _ ( callWith _ ( Value.builtin _ ) ( List.cons ( Value.ref _ ) List.nil ) _ List.nil ) _ _ _", refine9 "callWith_method1 ?"])
/-- a list or a tuple made: its items are written out -/
def new9 (k l : String) (x : Syntax) : MacroM Syntax := do
  let l1 := mkIdent (← Macro.addMacroScope `l1)
  on9 k x (seq9 [here9, dflt9 (seq9 [refine9 (l ++ " ?F ?N ?z ?"), case9 "F" kasm9, case9 "N" kasm9, case9 "z" (exact9 "Nat.le_of_ble_eq_true rfl"), whole9]), intro9 "l' h' F' N' l1", do `(tactic| try k_lt $l1:ident), do `(tactic| try k_sweep)])
def stop9 (k : String) (x : Syntax) : MacroM Syntax := on9 k x (refine9 "Stop.out ?")
def stopR9 (n : Nat) (x : Syntax) : MacroM Syntax := on9 "call ref" x (do `(tactic| with_reducible refine $(id9 "stopCall"):ident $(quote n) ?_))
end


theorem runs_toks {M : Model} {Γ : Ctx} {p : Pos} {t : Sem Fin} {fs : List Frame} {s : Shared} {e : End} {s' : Shared} (h : Runs M Γ p t fs s e s') : s.toks ≤ s'.toks := by
  induction h <;> first
    | exact Nat.le_refl _
    | assumption
    | (exact Nat.le_trans (Nat.le_succ _) (by assumption))
    | (rename_i h1 h2; exact Nat.le_trans h1 h2)
    | (rename_i h1 _ h2; exact Nat.le_trans h1 h2)
    | (rename_i h1 _ _ h2; exact Nat.le_trans h1 h2)
    | (rename_i h1 _ _ _ h2; exact Nat.le_trans h1 h2)
    | (simp only [Shared.setGen] at *; omega)

theorem wakes_toks {M : Model} {Γ : Ctx} {p : Pos} {g : Nat} {r : Resume} {s : Shared} {res : GenResult} {s' : Shared} (h : Wakes M Γ p g r s res s') : s.toks ≤ s'.toks := by
  unfold Wakes at h
  split at h
  · exact h.elim
  · split at h
    · obtain ⟨e₁, s₁, h1, _, _, rfl⟩ := h
      have := runs_toks h1
      simpa [Shared.setGen] using this
    · obtain ⟨_, rfl⟩ := h; exact Nat.le_refl _
    · obtain ⟨_, rfl⟩ := h; exact Nat.le_refl _
  · obtain ⟨e₁, s₁, h1, _, _, rfl⟩ := h
    have := runs_toks h1
    simpa [Shared.setGen] using this
  · simp_all
  · simp_all

theorem wp_toks {α : Type} {M : Model} {Γ : Ctx} {n : Nat} {Q : α → Pos → Shared → Prop} {E : Value → Pos → Shared → Prop} : ∀ (t : Sem α) (p : Pos) (s : Shared), n ≤ s.toks →
    Sem.wp M Γ t (fun a p' s' => n ≤ s'.toks → Q a p' s') (fun e p' s' => n ≤ s'.toks → E e p' s') p s → Sem.wp M Γ t Q E p s := by
  intro t
  induction t with
  | pure a => intro p s hn h; exact h hn
  | raise e => intro p s hn h; exact h hn
  | unsupported _ => intro p s hn h; exact h
  | finish _ => intro p s hn h; exact h
  | rule _ k ih => intro p s hn h; exact ih () p s hn h
  | «at» p' k ih => intro p s hn h; exact ih () p' s hn h
  | load a _ k ih => intro p s hn h; obtain ⟨o, ho, h⟩ := h; exact ⟨o, ho, ih o p s hn h⟩
  | update a _ f k ih => intro p s hn h; exact ⟨h.1, ih () p _ (by exact hn) h.2⟩
  | loadIfAlive a k ih => intro p s hn h; exact ih _ p s hn h
  | point _ k ih => intro p s hn h; exact ih () p s hn h
  | register _ _ _ => intro p s hn h; exact h
  | alloc o k ih => intro p s hn h; exact ih _ p _ (by exact hn) h
  | fresh k ih => intro p s hn h; exact ih _ p _ (by exact Nat.le_succ_of_le hn) h
  | ask k ih => intro p s hn h; exact ih _ p s hn h
  | choose src n' k ih => intro p s hn h; exact ⟨h.1, ih _ p _ (by exact hn) h.2⟩
  | os q _ k ih => intro p s hn h; exact ih _ p _ (by exact hn) h
  | call c hd g l k ih =>
    intro p s hn h
    obtain ⟨r, s', hr, h⟩ := h
    exact ⟨r, s', hr, ih r p s' (Nat.le_trans hn (runs_toks hr)) h⟩
  | handled own k ih => intro p s hn h; exact ih _ p s hn h
  | genState g k ih => intro p s hn h; obtain ⟨st, hs, h⟩ := h; exact ⟨st, hs, ih _ p s hn h⟩
  | newGen c k ih => intro p s hn h; exact ih _ p _ (by exact hn) h
  | resume g r _ k ih =>
    intro p s hn h
    obtain ⟨res, s', hr, h⟩ := h
    exact ⟨res, s', hr, ih res p s' (Nat.le_trans hn (wakes_toks hr)) h⟩
  | yield _ _ _ _ _ => intro p s hn h; exact h
  | stack k ih => intro p s hn h; exact ih _ p s hn h
  | fork _ _ _ => intro p s hn h; exact h
  | thread k ih => intro p s hn h; exact ih _ p s hn h
  | await _ _ _ _ _ _ => intro p s hn h; exact h

theorem wpAny_toks {α : Type} {M : Model} {A : Around} {n : Nat} {t : Sem α} {Q : α → Shared → Prop} {E : Value → Shared → Prop} {s : Shared} (hn : n ≤ s.toks)
    (h : wpAny M A t (fun a s' => n ≤ s'.toks → Q a s') E s) : wpAny M A t Q E s := fun Γ p hΓ => by
  refine wp_toks t p s hn ?_
  refine Sem.wp_mono M Γ t ?_ ?_ p s (h Γ p hΓ)
  · intro a p' s' x; exact x
  · intro e p' s' x _; exact x
theorem wpAny_pos {α : Type} {M : Model} {A : Around} {t : Sem α} {Q : α → Shared → Prop} {E : Value → Shared → Prop} {s : Shared} (hn : 0 < s.toks)
    (h : wpAny M A t (fun a s' => 0 < s'.toks → Q a s') E s) : wpAny M A t Q E s := wpAny_toks hn h

/-- what a call finds around it -/
structure Cx (w : World) (loose : List Str) (mean : ExcName → Option Value) (mg mb : Str → Option Value) (outer : List Env) (A₀ : Around) (base h₀ : Heap) (cs : Scope) : Prop where
  B : Below A₀ base outer h₀
  X : (K0 w.params).In h₀
  T : Top q0 loose mean mg mb h₀
  k : cs.kind = .function
theorem seqIntro {n : Nat} {P : Prop} (h : 0 < n → P) : 0 < n → P := h
theorem wpTest {M : Model} {A : Around} {α : Type} {t : Sem α} {Q : α → Shared → Prop} {E : Value → Shared → Prop} {s : Shared} (h : wpAny M A t Q E s) : wpAny M A t Q E s := h
noncomputable abbrev Led := List (Addr × Obj)

section
variable {M : Model} {A : Around} {E : Value → Shared → Prop} {env : Env}
theorem execs_cons1 {gh : Heap} {gn : Array GenState} {dr : Drawn} {tk0 : Nat} {os : OsState} {st : Stmt} {rest : List Stmt} {Q : Flow → Shared → Prop} (hn : 0 < tk0)
    (h : wpAny M A (exec st env) (fun f s' => 0 < s'.toks → match f with | .next => wpAny M A (execs rest env) Q E s' | f => Q f s') E ⟨gh, gn, dr, tk0, os⟩) :
    wpAny M A (execs (st :: rest) env) Q E ⟨gh, gn, dr, tk0, os⟩ := wpAny_execs_cons (wpAny_pos hn h)
theorem execs_cons2 {gh : Heap} {gn : Array GenState} {dr : Drawn} {tk0 : Nat} {os : OsState} {st : Stmt} {rest : List Stmt} {Q : Flow → Shared → Prop} (hn : 0 < tk0)
    (h1 : ∀ tk : Nat, 0 < tk → let qk : Flow → Shared → Prop := fun f s' => 0 < s'.toks → match f with | .next => wpAny M A (execs rest env) Q E s' | f => Q f s'; wpAny M A (exec st env) qk E ⟨gh, gn, dr, tk, os⟩) :
    wpAny M A (execs (st :: rest) env) Q E ⟨gh, gn, dr, tk0, os⟩ := execs_cons1 hn (h1 tk0 hn)
theorem consI {gh : Heap} {gn : Array GenState} {dr : Drawn} {tk0 : Nat} {os : OsState} {i : Int} {k : Nat} {pos : Pos} {Q : Value → Shared → Prop} (h : Q (.int i tk0) ⟨gh, gn, dr, tk0 + 1, os⟩) : wpAny M A (eval (.Constant (.int i) k pos) env) Q E ⟨gh, gn, dr, tk0, os⟩ := wpAny_Constant_int h
theorem consS {gh : Heap} {gn : Array GenState} {dr : Drawn} {tk0 : Nat} {os : OsState} {x : Str} {k : Nat} {pos : Pos} {Q : Value → Shared → Prop} (h : Q (.str x tk0) ⟨gh, gn, dr, tk0 + 1, os⟩) : wpAny M A (eval (.Constant (.str x) k pos) env) Q E ⟨gh, gn, dr, tk0, os⟩ := Calls.Constant_str h
end

section
variable {cn : Str} {cs : Scope} {a : Addr} {ccd : Value} {cl : List (Str × Addr)} {M : Model} {A : Around} {E : Value → Shared → Prop} {h₀ : Heap} {L : Addr} {m : Str → Option Value} {v : Value} {x : Str} {gh : Heap} {gn : Array GenState} {dr : Drawn} {tk0 : Nat} {os : OsState} {news : Led}
theorem storeP {Q : Unit → Shared → Prop} (F : Fr h₀ L gh m) (N : News h₀ L gh news)
    (h : ∀ h', let mm : Str → Option Value := fun y => if y = x then some v else m y; Fr h₀ L h' mm → News h₀ L h' news → Q () ⟨h', gn, dr, tk0 + 1, os⟩)
    (hk : cs.kind = .function := by rfl) (hx : (envX cn cs L a ccd cl).kindOf x = some .local := by rfl) : wpAny M A (storeName (envX cn cs L a ccd cl) x v) Q E ⟨gh, gn, dr, tk0, os⟩ :=
  storeX_L (s := ⟨gh, gn, dr, tk0, os⟩) F N h hk hx
theorem newListP {vs : List Value} {Q : Value → Shared → Prop} (F : Fr h₀ L gh m) (N : News h₀ L gh news) (hz : vs.length ≤ sizeLine)
    (h : ∀ l h', Fr h₀ L h' m → News h₀ L h' ((l, listOf vs.toArray 0) :: news) → (∀ p ∈ news, p.1 < l) → Q (.ref l) ⟨h', gn, dr, tk0, os⟩) : wpAny M A (newList vs) Q E ⟨gh, gn, dr, tk0, os⟩ :=
  newList_K (s := ⟨gh, gn, dr, tk0, os⟩) F N h hz
theorem newTupP {vs : List Value} {Q : Value → Shared → Prop} (F : Fr h₀ L gh m) (N : News h₀ L gh news) (hz : vs.length ≤ sizeLine)
    (h : ∀ D h', Fr h₀ L h' m → News h₀ L h' ((D, ({ cls := .type "tuple", data := .seq vs.toArray } : Obj)) :: news) → (∀ p ∈ news, p.1 < D) → Q (.ref D) ⟨h', gn, dr, tk0, os⟩) : wpAny M A (newTuple vs) Q E ⟨gh, gn, dr, tk0, os⟩ :=
  kup_newTuple (s := ⟨gh, gn, dr, tk0, os⟩) F N h hz
end
/-- the ledger with D's entry turned -/
noncomputable def setL (D : Addr) (o' : Obj) (news : Led) : Led := news.map fun p => if p.1 = D then (D, o') else p
theorem mem_setL {D a : Addr} {o' o : Obj} {news : Led} (h : (a, o) ∈ setL D o' news) : (a = D ∧ o = o') ∨ (a ≠ D ∧ (a, o) ∈ news) := by
  obtain ⟨p, hp, e⟩ := List.mem_map.mp h
  by_cases hd : p.1 = D
  · rw [if_pos hd] at e; cases e; exact .inl ⟨rfl, rfl⟩
  · rw [if_neg hd] at e; subst e; exact .inr ⟨hd, hp⟩
theorem setL_self {D : Addr} {o' o : Obj} {news : Led} (h : (D, o) ∈ news) : (D, o') ∈ setL D o' news :=
  List.mem_map.mpr ⟨(D, o), h, if_pos rfl⟩
theorem setL_ne {D a : Addr} {o' o : Obj} {news : Led} (hne : a ≠ D) (h : (a, o) ∈ news) : (a, o) ∈ setL D o' news :=
  List.mem_map.mpr ⟨(a, o), h, if_neg hne⟩
theorem news_setL {h₀ h h' : Heap} {L D : Addr} {o o' : Obj} {news : Led} (N : News h₀ L h news) (hm : (D, o) ∈ news) (hs : Heap.SameBut D h h') (ho : h'.get? D = some o') :
    News h₀ L h' (setL D o' news) := by
  intro p hp
  obtain ⟨a, x⟩ := p
  rcases mem_setL hp with ⟨e1, e2⟩ | ⟨hne, hp⟩
  · subst e1; subst e2; exact ⟨ho, (N _ hm).2⟩
  · exact ⟨(hs.2 _ hne).trans (N _ hp).1, (N _ hp).2⟩
theorem news_sub {h₀ h : Heap} {L : Addr} {news news' : Led} (N : News h₀ L h news) (hs : ∀ p ∈ news', p ∈ news) : News h₀ L h news' := fun p hp => N p (hs p hp)
theorem news_fun {h₀ h : Heap} {L a : Addr} {o o' : Obj} {news : Led} (N : News h₀ L h news) (h1 : (a, o) ∈ news) (h2 : (a, o') ∈ news) : o = o' :=
  Option.some.inj ((N _ h1).1.symm.trans (N _ h2).1)

section
variable {prog : Program} {w : World} {A : Around} {E : Value → Shared → Prop} {gh : Heap} {gn : Array GenState} {dr : Drawn} {tk0 : Nat} {os : OsState} {h₀ : Heap} {L D : Addr} {m : Str → Option Value} {news : Led}
theorem appendS {its : Array Value} {n : Nat} {x : Value} {Q : Value → Shared → Prop} (F : Fr h₀ L gh m) (N : News h₀ L gh news) (hm : (D, listOf its n) ∈ news)
    (hsz : its.size ≤ 1000000)
    (h : ∀ h', Fr h₀ L h' m → News h₀ L h' (setL D (listOf (its.push x) (n + 1)) news) → Q .none ⟨h', gn, dr, tk0, os⟩) : wpAny (model prog w) A (call (.builtin "list.append") [.ref D, x]) Q E ⟨gh, gn, dr, tk0, os⟩ :=
  append_at (hsz := Nat.le_trans hsz (by decide)) (N _ hm).1 fun h' hs ho' => h h' (F.change hs (N _ hm).2.1 (N _ hm).2.2) (news_setL N hm hs ho')

theorem replaceP {x y z : Str} {t u v : Tok} {Q : Value → Shared → Prop} (hn : 0 < tk0) (hu : 0 < u) (hv : 0 < v) (huv : u ≠ v) (hyz : (y == z) = false) (hb : x.length + (x.length + 1) * z.length ≤ 16777216)
    (hq : ∀ t' k, 0 < k → Q (.str (Txt.replace x y z) t') ⟨gh, gn, dr, k, os⟩) : wpAny (model prog w) A (call (.builtin "str.replace") [.str x t, .str y u, .str z v]) Q E ⟨gh, gn, dr, tk0, os⟩ :=
  wpAny_pos hn (SC.replace (Nat.ne_of_gt hu) (Nat.ne_of_gt hv) huv hyz hb fun t' k hk => hq t' k hk)
end


section
variable {prog : Program} {w : World} {loose : List Str} {mean : ExcName → Option Value} {mg mb : Str → Option Value} {dp un : Nat} {gd : Option (List Code)} {cn : Str} {cs : Scope} {a : Addr} {ccd : Value} {cl : List (Str × Addr)} {outer : List Env} {A₀ : Around} {base h₀ : Heap} {L : Addr} {m : Str → Option Value} {gh : Heap} {gn : Array GenState} {dr : Drawn} {tk0 : Nat} {os : OsState} {Q E : Value → Shared → Prop} {news : Led} {K : Frag} {p : Program}
/-- a def is entered; its body ends by no exception -/
theorem enterP {name qual : Str} {params : Arguments} {body : List Stmt} {scope : Scope} {dV kV doc pm cdv ct oc : Value} {an od : Option Addr} {osl : Array (Option Value)} {f : Addr} {args : List Value} {kws : List (Str × Value)} {binds bs : List (Str × Value)}
    (B : Below A₀ base outer h₀) (F : Fr h₀ L gh m) (X₀ : K.In h₀) (N : News h₀ L gh news) (T : Top p loose mean mg mb h₀) (hke : cs.kind = .function) (hpos : 0 < tk0) (hroom : dp < recursionLimit)
    (ho : K.lookup f = some ⟨oc, od, .func (fnOf name qual params body scope dV kV doc pm an cdv ct), osl⟩) (hcd : codeIn K cdv qual = true)
    (hbind : BindsTo ⟨gh, gn, dr, tk0, os⟩ (fnOf name qual params body scope dV kV doc pm an cdv ct) ⟨args, kws⟩ binds) (hloc : ∀ y ∈ binds, scope.names.lookup y.1 = some .local) (hrev : binds.reverse = bs)
    (h : ∀ (g : Heap) (L' : Addr) (h₁ : Heap) (tk : Nat), 0 < tk → Fr h₀ L g m → let mm : Str → Option Value := fun y => bs.lookup y; Fr g L' h₁ mm → News g L' h₁ news → Below (ktrTop dp un gd cn cs L a ccd cl outer) base (envX cn cs L a ccd cl :: outer) g → K.In g → Top p loose mean mg mb g →
      let A₁ : Around := ktrTop (dp + 1) (un + 3) gd qual scope L' f cdv [] (envX cn cs L a ccd cl :: outer);
      let qk : Flow → Shared → Prop := fun fl s' => LeaveK h₀ L m g (fun r s'' => match r with | .ok (.ret v) => Q v s'' | .ok _ => False | .error e => E e s'') (match fl with | .ret v => v | _ => .none) s';
      let ek : Value → Shared → Prop := fun _ _ => False;
      wpAny (model prog w) A₁ (execs body (envOf qual scope L' f cdv)) qk ek ⟨h₁, gn, dr, tk, os⟩)
    (hco : scope.isCoroutine = false) (hgen : scope.isGenerator = false) (hk : scope.kind = .function) (hcell : ∀ x ∈ scope.names, x.2 ≠ .cell) :
    wpAny (model prog w) (ktrTop dp un gd cn cs L a ccd cl outer) (call (.ref f) args kws) Q E ⟨gh, gn, dr, tk0, os⟩ := by
  refine wpAny_call ?_
  refine code_def B F X₀ N T rfl rfl hke ho hcd hroom hbind hloc (fun g L' h₁ FG F' N' B' X' T' => ?_) hco hgen hk hcell
  rw [hrev] at F'
  exact wpAny_mono (h g L' h₁ _ (Nat.lt_of_lt_of_le hpos (Nat.le_add_right _ _)) FG F' N' B' X' T') (fun _ _ y => y) (fun _ _ y => y.elim)
end

section
variable {s s' : Shared} {Q : Value → Shared → Prop}
theorem retB {b c : Bool} (h : Q (.bool c) s) (e : b = c) : Q (.bool b) s := e ▸ h
theorem retS {b c : Str} {t : Tok} (h : Q (.str c t) s) (e : b = c) : Q (.str b t) s := e ▸ h
theorem retI {b c : Int} {t : Tok} (h : Q (.int c t) s) (e : b = c) : Q (.int b t) s := e ▸ h
end

local macro_rules (kind := PyProof.Rows.tacticWalk_at_) | x => on9 "forall" x (do
  let h := Lean.mkIdent (← Lean.Macro.addMacroScope `hpos')
  seq9 [do `(tactic| with_reducible show 0 < _ → _), do `(tactic| intro $h:ident), do `(tactic| try dsimp only at $h:ident)])

local macro_rules (kind := PySem.W.tacticTb_start) | _x => first9 [do `(tactic| exact ⟨by k_asm, by k_asm, by k_asm, by first | exact rfl | assumption⟩)]

theorem dlt0 {d k R : Nat} (h : d + k < R) : d < R := Nat.lt_of_le_of_lt (Nat.le_add_right _ _) h
theorem dlt1 {d k R j : Nat} (h : d + k < R) (e : Nat.ble j k = true) : d + j < R := Nat.lt_of_le_of_lt (Nat.add_le_add_left (Nat.le_of_ble_eq_true e) _) h
theorem dlt2 {d k R i j : Nat} (h : d + k < R) (e : Nat.ble (i + j) k = true) : d + i + j < R := by rw [Nat.add_assoc]; exact dlt1 h e
theorem viaF {p : Prop} (h : (p → False) → False) : p := Classical.byContradiction h
theorem subTurn {i n : Nat} (h : i < n) : n + 1 - (i + 1) < n + 1 - i := by omega
theorem fmodN {e b : Int} (n : Nat) (hb : b = (n : Int)) (hn : Nat.ble 1 n = true) : ∃ j : Nat, e.fmod b = (j : Int) ∧ j < n := by
  subst hb
  have h0 : 0 < n := Nat.le_of_ble_eq_true hn
  have h1 := Int.fmod_nonneg_of_pos e (b := (n : Int)) (by omega)
  have h2 := Int.fmod_lt_of_pos e (b := (n : Int)) (by omega)
  exact ⟨(e.fmod n).toNat, by omega, by omega⟩
theorem fmodP {e : Int} {n : Nat} (hn : 0 < n) : ∃ j : Nat, e.fmod (n : Int) = (j : Int) ∧ j < n := fmodN n rfl (Nat.ble_eq_true_of_le hn)
theorem fmodS {e : Int} {n : Nat} : ∃ j : Nat, e.fmod ((n : Int) + 1) = (j : Int) ∧ j ≤ n := by
  obtain ⟨j, h1, h2⟩ := fmodP (e := e) (n := n + 1) (Nat.succ_pos _)
  exact ⟨j, h1, Nat.le_of_lt_succ h2⟩
theorem lt62 {i n : Nat} (h : i < n) (r : n ≤ 1000) : i < 2 ^ 62 := Nat.lt_of_lt_of_le h (Nat.le_trans r (by decide))
theorem le62 {i n : Nat} (h : i ≤ n) (r : n ≤ 1000) : i < 2 ^ 62 := Nat.lt_of_le_of_lt (Nat.le_trans h r) (by decide)
theorem lt62b {i k : Nat} (h : i < k) (r : Nat.ble k 1000 = true) : i < 2 ^ 62 := lt62 h (Nat.le_of_ble_eq_true r)
theorem lt62e {i k n : Nat} (h : i < n) (e : n = k) (r : k ≤ 1000) : i < 2 ^ 62 := lt62 (e ▸ h) r
theorem sm1 {n : Nat} : (-(2 ^ 62) : Int) ≤ (n : Int) := by omega
theorem sm2 {n : Nat} (h : n ≤ 1000) : (n : Int) < 2 ^ 62 := by omega
theorem small1 {n : Nat} (h : n ≤ 1000) : Builtin.Range.small 0 (n : Int) 1 = true := small_one (by decide) (by decide) sm1 (sm2 h)
theorem size1 {n : Nat} : Builtin.Range.rangeSize 0 (n : Int) 1 = (n : Int) := by rw [rangeSize_one]; split <;> omega
theorem smallD {n : Nat} (h : n ≤ 1000) : Builtin.Range.small ((n : Int) - 1) (-1) (-1) = true := small_down (by omega) (by omega) (by decide) (by decide)
theorem sizeD {n : Nat} : Builtin.Range.rangeSize ((n : Int) - 1) (-1) (-1) = (n : Int) := by rw [rangeSize_downNat]; omega
theorem nneg1 {i : Nat} : ¬ (i : Int) = -1 := by omega
theorem zero1 (i : Nat) : (0 + (i : Int) * 1) = (i : Int) := by omega
theorem down1 {n i j : Nat} (h : j + i + 1 = n) : ((n : Int) - 1 + (i : Int) * (-1)) = (j : Int) := by omega
theorem down2 {n i : Nat} (h : i < n) : ∃ j, j + i + 1 = n := ⟨n - 1 - i, by omega⟩
theorem down3 {n i j : Nat} (h : j + i + 1 = n) : j < n := by omega
theorem down4 {n i j c k : Nat} (h : j + i + 1 = n) (e : k = j) (h2 : k < c) : n ≤ c + i := by omega
theorem down5 {n i j c k : Nat} (h : j + i + 1 = n) (e : k = j + 1) (h2 : k < c) : n ≤ c + i := by omega
theorem down6 {n i j : Nat} (h : j + i + 1 = n) : ¬ n ≤ j + i := by omega
theorem pow5 {S c P Q k : Nat} (h2 : S ≤ c * (2 * P)) (h4 : 2 + c * (2 * P) ≤ 2 * (2 ^ c * P)) (h7 : 2 ^ c * P = Q) (h8 : Q ≤ k) : 2 + S ≤ 2 * k := by omega
theorem eqLe {a b k : Nat} (e : a = b) (h : b ≤ k) : a ≤ k := e ▸ h
theorem le3 {a b c d : Nat} (h : a ≤ b) (h2 : b ≤ c) (h3 : c ≤ d) : a ≤ d := Nat.le_trans h (Nat.le_trans h2 h3)
theorem succ1 {a k : Nat} (h : a + 2 ≤ k) : a + 1 ≤ k := by omega
theorem succ2 {a b k : Nat} (h : a + 2 ≤ k) (e : b = a + 1) : b + 1 ≤ k := by omega
theorem sumLe {fa S b k : Nat} (h1 : fa ≤ b) (h2 : S ≤ b * k) : fa + S ≤ b * k + b := by omega
theorem sumLe' {fa S b k : Nat} (h1 : fa ≤ b) (h2 : S ≤ k * b) : fa + S ≤ k * b + b := by omega
theorem cost1 {a b k : Nat} (h : a + b = k) (p : 1 ≤ b) : a < k := by omega
theorem cost2 {o a b k m : Nat} (h : o + k ≤ m) (e : a + b = k) (p : 1 ≤ b) : o + (0 + 1) + a ≤ m := by omega
theorem cost3 {a b s k : Nat} (h : a + b = k) (p : b = 2 + s) : a + (1 + s) < k := by omega
theorem cost4 {o a b s k m : Nat} (h : o + k ≤ m) (e : a + b = k) (p : b = 2 + s) : o + (0 + 1) + (a + (1 + s)) ≤ m := by omega
theorem cost5 {o a b s k m v u : Nat} (h : o + k ≤ m) (e : a + b = k) (p : b = 2 + s) (h1 : v = u) (h2 : u ≤ s) : v ≤ m := by omega
theorem cost6 {o k m v x w y c : Nat} (h : o + k ≤ m) (e : c = k) (h1 : v + x = w + y) (h2 : w + y ≤ c) : v ≤ m := by omega
theorem cost7 {v w vk vx t u : Nat} (h : v ≤ 80000) (hk : vk ≤ 80000) (h1 : vx = w + (t + 1)) (h2 : v = w) (h3 : t ≤ u) (h4 : vk = u) : vx ≤ 200000 := by omega
theorem pos1 {r s t : Nat} (h : r ≤ s) (p : 1 ≤ t) : r + 1 ≤ t + s := by omega
theorem mulTop {L c m b M : Nat} (h1 : L ≤ c * m) (h2 : m ≤ b) (h3 : Nat.ble (c * b) M = true) : L ≤ M := Nat.le_trans h1 (Nat.le_trans (Nat.mul_le_mul_left _ h2) (Nat.le_of_ble_eq_true h3))
theorem pow6 {S c P Q : Nat} (h2 : S ≤ c * (2 * P)) (h4 : 2 + c * (2 * P) ≤ 2 * Q) (h8 : Q ≤ 2 ^ 15) : S ≤ 65536 := by omega
theorem pow7 {S c P Q k : Nat} (h2 : S ≤ c * (2 * P)) (h4 : 2 + c * (2 * P) ≤ 2 * Q) (h8 : Q ≤ k) : 2 + S ≤ 2 * k := by omega
theorem add3 (x r a : Nat) : x + r + a = a + r + x := by omega
theorem addSet {a s y r x : Nat} (h : s + y = r + x) : a + s + y = a + r + x := by omega
theorem ltEq {a b : Nat} (e : b = a + 2) : a + 1 < b := by omega
theorem leSum {E a b c k : Nat} (h1 : E = a + b) (h2 : E ≤ c) (h3 : c ≤ k) : a ≤ k := by omega
theorem attrSum {a b R E s q z : Nat} (h1 : a ≤ 20) (h2 : b ≤ 6) (h3 : R ≤ 1 * a) (h4 : E ≤ 6 * b) (l1 : s = 1) (l2 : q = 2) (l3 : z = 1) : s + R + q + E + z ≤ 60 := by omega
theorem openSum {S t n S' s : Nat} (h1 : S ≤ 60 * t) (h2 : t ≤ 3) (h3 : n ≤ 20) (h4 : S' = S) (l : s = 1) : s + n + S' ≤ 201 := by omega
theorem us5 {us t a : Nat} (h5 : us = t + 1) (h6 : a ≤ 3) (h7 : t ≤ a) : us ≤ 5 := by omega
theorem mulTop2 {L c m d x b M : Nat} (h1 : L ≤ c * m) (h2 : m ≤ d * x) (h3 : x ≤ b) (h4 : Nat.ble (c * (d * b)) M = true) : L ≤ M := mulTop h1 (Nat.le_trans h2 (Nat.mul_le_mul_left _ h3)) h4
theorem mulTop3 {L c m d x e y b M : Nat} (h1 : L ≤ c * m) (h2 : m ≤ d * x) (h3 : x ≤ e * y) (h4 : y ≤ b) (h5 : Nat.ble (c * (d * (e * b))) M = true) : L ≤ M := mulTop2 h1 h2 (Nat.le_trans h3 (Nat.mul_le_mul_left _ h4)) h5
theorem leb3 {x y a b : Nat} (h : x ≤ y) (h2 : y ≤ a) (e : Nat.ble a b = true) : x ≤ b := Nat.le_trans h (Nat.le_trans h2 (Nat.le_of_ble_eq_true e))
theorem ltb3 {x y a b : Nat} (h : x < y) (h2 : y ≤ a) (e : Nat.ble a b = true) : x ≤ b := leb3 (Nat.le_of_lt h) h2 e
theorem lek3 {x y k a b : Nat} (h : x ≤ y) (h2 : y + k ≤ a) (e : Nat.ble a b = true) : x ≤ b := Nat.le_trans h (Nat.le_trans (Nat.le_add_right _ _) (Nat.le_trans h2 (Nat.le_of_ble_eq_true e)))
theorem lenb2 {x y k j a b : Nat} (h : x = y) (h2 : y + k ≤ a) (e : Nat.ble j k = true) (e2 : Nat.ble a b = true) : x + j ≤ b := h ▸ Nat.le_trans (Nat.add_le_add_left (Nat.le_of_ble_eq_true e) _) (Nat.le_trans h2 (Nat.le_of_ble_eq_true e2))
theorem ltE {x y z : Nat} (e : y = z) (h : x < z) : x < y := e ▸ h
theorem join1 {a S l J : Nat} (h : S + l ≤ J + 1) : a + S + (l + 1) ≤ a + 1 + J + 1 := by omega
theorem join2 {a S l : Nat} (hx : a ≤ 16000000) (h : S + l ≤ a + 1) : S + l * 1 ≤ 16777216 := by omega
theorem seven {x : Int} (h : x < 8) (c2 : ¬ x < 6) (c3 : ¬ x = 6) : x = 7 := by omega
theorem rl {a g e s : Nat} (h1 : a ≤ 202) (h2 : g ≤ 202 * s) (h3 : e ≤ 23) : a + (g + e) ≤ 202 * (2 + s) := by omega
theorem nl15 {r t p : Nat} (h1 : r ≤ 202 * t) (h2 : t ≤ 2 * p) (h3 : p ≤ 2 ^ 15) : r ≤ 15000000 := by omega
theorem fuel {n f i x c : Nat} (h : n ≤ f + 1 + i) (h1 : x < c) (h2 : i ≤ x) : n ≤ f + c := by omega
theorem fuel1 {n k x c : Nat} (h : k = n + 1) (h1 : x < c) : k ≤ n + c := by omega
theorem made3 {a b : Nat} (h1 : a + 1 ≤ b) (h2 : b ≤ a + 2) : ∃ k : Nat, (b : Int) - a = (k : Int) ∧ a + k = b ∧ k ≤ 2 := ⟨b - a, by omega, by omega, by omega⟩
theorem roomLaw {n i : Nat} (h : n ≤ 2 * i + 1) (hi : i < 15) : n + 2 ≤ 1000 := by omega
theorem idx1 {k n : Nat} (h : k < n) : ((0 ≤ if (k : Int) < 0 then (k : Int) + n else k) ∧ (if (k : Int) < 0 then (k : Int) + n else k) < n) ∧ (if (k : Int) < 0 then (k : Int) + n else k).toNat = k := by
  rw [if_neg (by omega)]; omega
theorem edge5 {A S1 S2 B u : Nat} (h : A = B) (s1 : S1 + u = A + (u + 1)) (s2 : S2 + 0 = S1 + 0) : S2 = B + 1 := by omega
theorem isP {p : Prop} (h : p) : p := h
theorem leb0 {x a b : Nat} (h : x ≤ a) (e : Nat.ble a b = true) : x ≤ b := Nat.le_trans h (Nat.le_of_ble_eq_true e)
theorem lenb {x y a b : Nat} (h : x = y) (h2 : y ≤ a) (e : Nat.ble a b = true) : x ≤ b := h ▸ leb0 h2 e
theorem lenb1 {x y k a b : Nat} (h : x = y) (h2 : y + k ≤ a) (e : Nat.ble a b = true) : x ≤ b := h ▸ leb0 (Nat.le_trans (Nat.le_add_right _ _) h2) e
theorem leb1 {y k a b : Nat} (h2 : y + k ≤ a) (e : Nat.ble a b = true) : y ≤ b := leb0 (Nat.le_trans (Nat.le_add_right _ _) h2) e
theorem leb {x a b : Nat} (h : x ≤ a) (e : Nat.ble a b = true) : x ≤ b := Nat.le_trans h (Nat.le_of_ble_eq_true e)
theorem mulLe {a k b c : Nat} (h : a ≤ k * b) (h2 : b ≤ c) : a ≤ k * c := Nat.le_trans h (Nat.mul_le_mul_left _ h2)
section
variable {a b : Nat} {P P2 P3 P4 P5 R : Prop}
theorem an1 (h : a ≠ b ∧ R) : a ≠ b := h.1
theorem an2 (h : P ∧ a ≠ b ∧ R) : a ≠ b := h.2.1
theorem an3 (h : P ∧ P2 ∧ a ≠ b ∧ R) : a ≠ b := h.2.2.1
theorem an4 (h : P ∧ P2 ∧ P3 ∧ a ≠ b ∧ R) : a ≠ b := h.2.2.2.1
theorem al1 (h : b < a ∧ R) : a ≠ b := Nat.ne_of_gt h.1
theorem al2 (h : P ∧ b < a ∧ R) : a ≠ b := Nat.ne_of_gt h.2.1
theorem al3 (h : P ∧ P2 ∧ b < a ∧ R) : a ≠ b := Nat.ne_of_gt h.2.2.1
theorem al4 (h : P ∧ P2 ∧ P3 ∧ b < a ∧ R) : a ≠ b := Nat.ne_of_gt h.2.2.2.1
theorem al5 (h : P ∧ P2 ∧ P3 ∧ P4 ∧ b < a ∧ R) : a ≠ b := Nat.ne_of_gt h.2.2.2.2.1
theorem al7 {P6 : Prop} (h : P ∧ P2 ∧ P3 ∧ P4 ∧ P5 ∧ P6 ∧ b < a ∧ R) : a ≠ b := Nat.ne_of_gt h.2.2.2.2.2.2.1
theorem al8 {P6 P7 : Prop} (h : P ∧ P2 ∧ P3 ∧ P4 ∧ P5 ∧ P6 ∧ P7 ∧ b < a ∧ R) : a ≠ b := Nat.ne_of_gt h.2.2.2.2.2.2.2.1
theorem al9 {P6 P7 P8 : Prop} (h : P ∧ P2 ∧ P3 ∧ P4 ∧ P5 ∧ P6 ∧ P7 ∧ P8 ∧ b < a ∧ R) : a ≠ b := Nat.ne_of_gt h.2.2.2.2.2.2.2.2.1
theorem al6 (h : P ∧ P2 ∧ P3 ∧ P4 ∧ P5 ∧ b < a ∧ R) : a ≠ b := Nat.ne_of_gt h.2.2.2.2.2.1
end
theorem nameL {cn : Str} {cs : Scope} {a : Addr} {ccd : Value} {cl : List (Str × Addr)} {x : Str} {pos : Pos} (hk : ScopeKind.function = cs.kind) (hd : false = (x == ("__debug__" : Str))) {M : Model} {A : Around} {E : Value → Shared → Prop} {h₀ : Heap} {L : Addr} {m : Str → Option Value} {v : Value} {Q : Value → Shared → Prop} {s : Shared}
    (F : Fr h₀ L s.heap m) (hx : some NameKind.local = (envX cn cs L a ccd cl).kindOf x) (hv : some v = m x) (h : Q v s) : wpAny M A (eval (.Name x pos) (envX cn cs L a ccd cl)) Q E s := nameX_L F hv.symm h hk.symm hx.symm hd.symm

local macro_rules (kind := PySem.W.tacticKtr_room) | _x => first9 [asmr9, exact9 "Nat.succ_pos _", exact9 "dlt2 @ rfl", exact9 "dlt1 @ rfl", exact9 "dlt0 @", seq9 [show9 "@LT.lt Nat _ _ _", first9 [asm9, exact9 "Nat.succ_pos _", omega9]], omega9]
local macro_rules (kind := PyProof.Rows.tacticWalk_at_) | x => on9 "own sum" x (first9 [exact9 "mulLe @ @", asmr9, seq9 [red9 (refine9 "Nat.add_le_add ?sa ?sb"), case9 "sa" (at9 "own sum"), case9 "sb" (at9 "own sum")], exact9 "Nat.le_refl _"])
local macro_rules (kind := PySem.W.tacticK_ne) | _x => seq9 [refine9 "neN ?", dsimp9, first9 ([asmr9, exact9 "Ne.symm @"] ++ anL9.map (fun n => exact9 (n ++ " @")) ++ anL9.map (fun n => exact9 ("Ne.symm ( " ++ n ++ " @ )")) ++ [exact9 "Nat.ne_of_lt @", exact9 "Nat.ne_of_gt @", omega9])]
local macro_rules (kind := PyProof.Rows.tacticWalk_at_) | x => on9 "own le" x (first9 [
  seq9 [show9 "@LT.lt _ _ _ _", dsimp9, first9 [exact9 "Nat.succ_pos _", asm9, exact9 "ltE @ @", omega9, seq9 [show9 "@LT.lt Nat _ _ _", omega9]]],
  seq9 [show9 "@LE.le _ _ _ _", first9 [asmr9, exact9 "leb @ rfl", exact9 "lenb @ @ rfl", exact9 "lenb1 @ @ rfl", exact9 "leb1 @ rfl", exact9 "leb3 @ @ rfl", exact9 "ltb3 @ @ rfl", exact9 "lek3 @ @ rfl", exact9 "lenb2 @ @ rfl rfl", exact9 "mulTop @ @ rfl", exact9 "mulTop2 @ @ @ rfl", exact9 "mulTop3 @ @ @ @ rfl", seq9 [refine9 "leb0 ?zs ?ze", case9 "zs" (seq9 [lenA9, at9 "own sum"]), case9 "ze" (exact9 "rfl")], asm9, exact9 "Nat.le_of_ble_eq_true rfl", omega9, dec9, seq9 [do `(tactic| try simp only [PySem.Str.length_append, List.length_append, List.length_cons, List.length_nil]), do `(tactic| try size_lits), omega9]]],
  seq9 [show9 "@Ne _ _ _", first9 [asm9, exact9 "Nat.ne_of_lt ( Nat.lt_succ_self _ )", seq9 [show9 "@Ne Nat _ _", omega9]]],
  seq9 [show9 "@Eq _ _ _", first9 [exact9 "rfl", asmr9, dec9, asm9, omega9]]])
local macro_rules (kind := PyProof.Rows.tacticWalk_at_) | x => on9 "own side" x (first9 [
  seq9 [show9 "Fr _ _ _ _", kasm9],
  seq9 [show9 "News _ _ _ _", kasm9],
  seq9 [show9 "Cx _ _ _ _ _ _ _ _ _ _", focus9 (do `(tactic| tb_start))],
  seq9 [show9 "@Membership.mem _ _ _ _ _", focus9 kmem9],
  seq9 [show9 "Upd _ _ _ _ _", focus9 (do `(tactic| k_upd))],
  seq9 [not9 (focus9 (apply9 "isP")), do `(tactic| rotate_left), at9 "own side"],
  seq9 [whole9, focus9 (first9 [seq9 [show9 "@LT.lt _ _ _ _", room9], at9 "own le"])],
  seq9 [focus9 (show9 "@LE.le _ _ _ _"), do `(tactic| rotate_left), at9 "own side"],
  seq9 [not9 (not9 (focus9 (apply9 "isP"))), focus9 (first9 [asmr9, rel9, asm9])]])
local macro_rules (kind := PyProof.Rows.tacticWalk_at_) | x => on9 "own came" x (seq9 [do `(tactic| intros), dsimp9])
local macro_rules (kind := PySem.W.tacticK_steps) | _x => `(tactic| repeat' (first
  | ((fail_if_success (fail_if_success (with_reducible refine $(id9 "seqIntro") ?_))); intro hpos'; (first | (fail_if_success (fail_if_success (with_reducible refine $(id9 "wpTest") ?_))) | (try dsimp only)))
  | (k_unfold; (try dsimp only)) | (k_end; wrow_close) | walk1 | (dsimp only; walk1) | (leave1; walk_say "STEP leave1"; try dsimp only) | fail "no step"))
local macro_rules (kind := PyProof.Rows.tacticWalk_at_) | x => on9 "execs cons" x (seq9 [here9, fold9, first9 [
  seq9 [do `(tactic| refine $(id9 "execs_cons2") (by $(← pos9):tactic) ?_), do `(tactic| intro tk' hpos' $(id9 "qk"):ident)],
  seq9 [dsimp9, do `(tactic| refine $(id9 "execs_cons2") (by $(← pos9):tactic) ?_), do `(tactic| intro tk' hpos' $(id9 "qk"):ident)],
  seq9 [dsimp9, do `(tactic| refine $(id9 "execs_cons1") (by $(← pos9):tactic) ?_), fold9]]])
local macro_rules (kind := PyProof.Rows.tacticWalk_at_) | x => on9 "eval Constant int" x (red9 (refine9 "consI ?"))
local macro_rules (kind := PyProof.Rows.tacticWalk_at_) | x => on9 "eval Constant str" x (red9 (refine9 "consS ?"))
local macro_rules (kind := PyProof.Rows.tacticWalk_at_) | x => rule9 "storeName" "storeP ?F ?N ? ?a ?b" [("F", kasm9), ("N", kasm9), ("a", rfl9), ("b", rfl9)] [whole9, do `(tactic| intro h' $(id9 "mm"):ident F' N'), do `(tactic| try k_sweep)] x
local macro_rules (kind := PyProof.Rows.tacticWalk_at_) | x => new9 "newList" "newListP" x
local macro_rules (kind := PyProof.Rows.tacticWalk_at_) | x => new9 "newTuple" "newTupP" x
local macro_rules (kind := PySem.W.tacticTb_rel) | _x => first9 [asmr9, at9 "own le", asm9]
local macro_rules (kind := PyProof.Rows.tacticWalk_at_) | x => rule9 "eval Name" "nameL rfl rfl ?F ?b ?v ?" [("F", kasm9), ("b", exact9 "rfl"), ("v", exact9 "rfl")] [whole9] x

/-- one sign of a text, escaped -/
noncomputable def escSign (q : Bool) (c : Nat) : List Nat :=
  if c = 38 then [38, 97, 109, 112, 59] else if c = 160 then [38, 110, 98, 115, 112, 59] else if c = 60 then [38, 108, 116, 59] else if c = 62 then [38, 103, 116, 59]
  else if c = 34 ∧ q = true then [38, 113, 117, 111, 116, 59] else [c]
noncomputable def esc (q : Bool) (x : Str) : Str := ⟨(x.cps.toList.flatMap (escSign q)).toArray⟩

noncomputable def subst1 (c : Nat) (z : List Nat) (l : List Nat) : List Nat := l.flatMap fun d => if d = c then z else [d]
theorem subst1_free (c : Nat) (z : List Nat) : ∀ l : List Nat, c ∉ l → subst1 c z l = l
  | [], _ => rfl
  | k :: r, h => by
    have h1 : k ≠ c := fun e => h (e ▸ List.mem_cons_self ..)
    have h2 := subst1_free c z r fun m => h (List.mem_cons_of_mem _ m)
    unfold subst1 at h2 ⊢
    rw [List.flatMap_cons, if_neg h1, h2]; rfl
theorem subst1_append (c : Nat) (z a b : List Nat) : subst1 c z (a ++ b) = subst1 c z a ++ subst1 c z b := by
  unfold subst1; rw [List.flatMap_append]
theorem subst1_one (c : Nat) (z : List Nat) : subst1 c z [c] = z := by
  unfold subst1; simp
theorem subst1_join (c : Nat) (z : Str) : ∀ parts : List Str, (∀ p ∈ parts, c ∉ p.cps.toList) → subst1 c z.cps.toList (Str.join ⟨#[c]⟩ parts).cps.toList = (Str.join z parts).cps.toList
  | [], _ => rfl
  | [p], h => subst1_free c _ _ (h p (List.mem_singleton.mpr rfl))
  | p :: q :: r, h => by
    have ih := subst1_join c z (q :: r) fun a ha => h a (List.mem_cons_of_mem _ ha)
    show subst1 c z.cps.toList (p ++ ⟨#[c]⟩ ++ Str.join ⟨#[c]⟩ (q :: r)).cps.toList = (p ++ z ++ Str.join z (q :: r)).cps.toList
    simp only [Str.cps_append, Array.toList_append]
    rw [subst1_append, subst1_append, ih, subst1_free c _ _ (h p (List.mem_cons_self ..))]
    rw [subst1_one]
theorem replace_map (x z : Str) (c : Nat) : (Txt.replace x ⟨#[c]⟩ z).cps.toList = subst1 c z.cps.toList x.cps.toList := by
  rw [StrLaws.replace_one, ← subst1_join c z _ (StrLaws.split_free x c), StrLaws.join_split]

theorem flatMap_flatMap' (f g : Nat → List Nat) (l : List Nat) : (l.flatMap f).flatMap g = l.flatMap fun x => (f x).flatMap g := by
  induction l with
  | nil => rfl
  | cons a r ih => simp only [List.flatMap_cons, List.flatMap_append, ih]

theorem esc_text (x : Str) : Txt.replace (Txt.replace (Txt.replace (Txt.replace x "&" "&amp;") "\u00a0" "&nbsp;") "<" "&lt;") ">" "&gt;" = esc false x := by
  have e1 : (PySem.Str.ofString "&") = ⟨#[38]⟩ := by decide +kernel
  have e2 : (PySem.Str.ofString "\u00a0") = ⟨#[160]⟩ := by decide +kernel
  have e3 : (PySem.Str.ofString "<") = ⟨#[60]⟩ := by decide +kernel
  have e4 : (PySem.Str.ofString ">") = ⟨#[62]⟩ := by decide +kernel
  have a1 : (PySem.Str.ofString "&amp;").cps.toList = [38, 97, 109, 112, 59] := by decide +kernel
  have a2 : (PySem.Str.ofString "&nbsp;").cps.toList = [38, 110, 98, 115, 112, 59] := by decide +kernel
  have a3 : (PySem.Str.ofString "&lt;").cps.toList = [38, 108, 116, 59] := by decide +kernel
  have a4 : (PySem.Str.ofString "&gt;").cps.toList = [38, 103, 116, 59] := by decide +kernel
  apply Str.ext'
  apply Array.toList_inj.mp
  rw [e1, e2, e3, e4, replace_map, replace_map, replace_map, replace_map, a1, a2, a3, a4]
  show _ = x.cps.toList.flatMap (escSign false)
  unfold subst1
  rw [flatMap_flatMap', flatMap_flatMap', flatMap_flatMap']
  congr 1
  funext c
  unfold escSign
  by_cases h1 : c = 38
  · subst h1; decide
  · by_cases h2 : c = 160
    · subst h2; decide
    · by_cases h3 : c = 60
      · subst h3; decide
      · by_cases h4 : c = 62
        · subst h4; decide
        · simp [h1, h2, h3, h4]
theorem esc_value (x : Str) : Txt.replace (esc false x) "\"" "&quot;" = esc true x := by
  have e1 : (PySem.Str.ofString "\"") = ⟨#[34]⟩ := by decide +kernel
  have a1 : (PySem.Str.ofString "&quot;").cps.toList = [38, 113, 117, 111, 116, 59] := by decide +kernel
  apply Str.ext'
  apply Array.toList_inj.mp
  rw [e1, replace_map, a1]
  show subst1 _ _ (x.cps.toList.flatMap (escSign false)) = x.cps.toList.flatMap (escSign true)
  unfold subst1
  rw [flatMap_flatMap']
  congr 1
  funext c
  unfold escSign
  by_cases h1 : c = 38
  · subst h1; decide
  · by_cases h2 : c = 160
    · subst h2; decide
    · by_cases h3 : c = 60
      · subst h3; decide
      · by_cases h4 : c = 62
        · subst h4; decide
        · by_cases h5 : c = 34
          · subst h5; decide
          · simp [h1, h2, h3, h4, h5]
theorem flatMap_len (f : Nat → List Nat) (k : Nat) (hf : ∀ c, (f c).length ≤ k) : ∀ l : List Nat, (l.flatMap f).length ≤ k * l.length
  | [] => Nat.zero_le _
  | a :: r => by
    rw [List.flatMap_cons, List.length_append, List.length_cons, Nat.mul_succ]
    have := flatMap_len f k hf r
    have := hf a
    omega
theorem escSign_len (q : Bool) (c : Nat) : (escSign q c).length ≤ 6 := by
  unfold escSign
  repeat' split
  all_goals simp
theorem esc_len (q : Bool) (x : Str) : (esc q x).length ≤ 6 * x.length := by
  have := flatMap_len (escSign q) 6 (escSign_len q) x.cps.toList
  simpa [esc, Str.length] using this
theorem replace_len (x z : Str) (c k : Nat) (hk : z.length ≤ k) (h1 : 1 ≤ k) : (Txt.replace x ⟨#[c]⟩ z).length ≤ k * x.length := by
  have h := replace_map x z c
  have h2 := flatMap_len (fun d => if d = c then z.cps.toList else [d]) k (fun d => by
    split
    · simpa [Str.length] using hk
    · simpa using h1) x.cps.toList
  have : (Txt.replace x ⟨#[c]⟩ z).cps.toList.length ≤ k * x.cps.toList.length := by rw [h]; exact h2
  simpa [Str.length] using this

section
variable {prog : Program} {w : World} {A : Around} {E : Value → Shared → Prop} {gh : Heap} {gn : Array GenState} {dr : Drawn} {tk0 : Nat} {os : OsState}
theorem replaceQ {x y z : Str} {t u v : Tok} {Q : Value → Shared → Prop} (hn : 0 < tk0) (hu : 0 < u) (hv : 0 < v) (huv : @Ne Nat u v) (hyz : (y == z) = false) (hy : ∃ c : Nat, y = ⟨#[c]⟩) (hz : z.length ≤ 6) (hx : x.length ≤ 1000000)
    (hq : ∀ t' k, 0 < k → (Txt.replace x y z).length ≤ 6 * x.length → Q (.str (Txt.replace x y z) t') ⟨gh, gn, dr, k, os⟩) : wpAny (model prog w) A (call (.builtin "str.replace") [.str x t, .str y u, .str z v]) Q E ⟨gh, gn, dr, tk0, os⟩ := by
  obtain ⟨c, hy⟩ := hy
  refine replaceP hn hu hv huv hyz ?_ fun t' k hk => hq t' k hk ?_
  · have h1 : (x.length + 1) * z.length ≤ (x.length + 1) * 6 := Nat.mul_le_mul_left _ hz
    omega
  · subst hy; exact replace_len x z c 6 hz (by decide)
end

local macro_rules (kind := PyProof.Rows.tacticWalk_at_) | x => on9 "call builtin:str.replace" x (seq9 [red9 (refine9 "replaceQ ? ? ? ? ? ?hy ? ? ?"), case9 "hy" (exact9 "Exists.intro _ rfl"), iter9 7, at9 "own came"])

section
variable {w : World} {loose : List Str} {mean : ExcName → Option Value} {mg mb : Str → Option Value} {dp un : Nat} {gd : Option (List Code)} {cn : Str} {cs : Scope} {a : Addr} {ccd : Value} {cl : List (Str × Addr)} {outer : List Env} {A₀ : Around} {base h₀ : Heap} {L : Addr} {m : Str → Option Value} {gh : Heap} {gn : Array GenState} {dr : Drawn} {tk0 : Nat} {os : OsState} {Q E : Value → Shared → Prop} {news : Led}

theorem escape_text_spec {x : Str} {t : Tok} (C : Cx w loose mean mg mb outer A₀ base h₀ cs) (F : Fr h₀ L gh m) (N : News h₀ L gh news) (hp : 0 < tk0) (hdp : dp + 2 < recursionLimit) (hun : un + 16 < cLine)
  (hx : x.length ≤ 1000)
  (hret : ∀ (t : Tok) (h' : Heap) (tk' : Nat), 0 < tk' → Fr h₀ L h' m → News h₀ L h' news → Q (.str (esc false x) t) ⟨h', gn, dr, tk', os⟩) :
  wpAny (model PySem.Challenge.rw_nz0091_01.row.prog w) (ktrTop dp un gd cn cs L a ccd cl outer) (call (.ref 42) [.str x t]) Q E ⟨gh, gn, dr, tk0, os⟩ := by
  refine viaF fun hG9 => ?_
  obtain ⟨B, X, T, hk⟩ := C
  refine hG9 ?_
  refine' enterP (binds := [(PySem.Str.ofString "text", Value.str x t)]) B F X N T hk hp (by ktr_room) ?ho ?hcd ?hb ?hl rfl ?_ ?c1 ?c2 ?c3 ?c4
  case ho => k_is
  case hcd => k_is
  case hb => exact BindsTo.of_eq rfl
  case hl => exact locs rfl
  case c1 => rfl
  case c2 => rfl
  case c3 => rfl
  case c4 => decide
  intro g L₁ h₁ tk hp₁ FG mm F₁ N₁ B₁ X₁ T₁ A₁ qk ek
  k_steps
  rw [esc_text]
  exact hret _ _ _ (by assumption) (by k_asm) (by k_asm)
end

local macro_rules (kind := PyProof.Rows.tacticWalk_at_) | x => call9 "call ref" "escape_text_spec" 7 x

section
variable {w : World} {loose : List Str} {mean : ExcName → Option Value} {mg mb : Str → Option Value} {dp un : Nat} {gd : Option (List Code)} {cn : Str} {cs : Scope} {a : Addr} {ccd : Value} {cl : List (Str × Addr)} {outer : List Env} {A₀ : Around} {base h₀ : Heap} {L : Addr} {m : Str → Option Value} {gh : Heap} {gn : Array GenState} {dr : Drawn} {tk0 : Nat} {os : OsState} {Q E : Value → Shared → Prop} {news : Led}

theorem escape_value_spec {x : Str} {t : Tok} (C : Cx w loose mean mg mb outer A₀ base h₀ cs) (F : Fr h₀ L gh m) (N : News h₀ L gh news) (hp : 0 < tk0) (hdp : dp + 4 < recursionLimit) (hun : un + 32 < cLine)
  (hx : x.length ≤ 1000)
  (hret : ∀ (t : Tok) (h' : Heap) (tk' : Nat), 0 < tk' → Fr h₀ L h' m → News h₀ L h' news → Q (.str (esc true x) t) ⟨h', gn, dr, tk', os⟩) :
  wpAny (model PySem.Challenge.rw_nz0091_01.row.prog w) (ktrTop dp un gd cn cs L a ccd cl outer) (call (.ref 49) [.str x t]) Q E ⟨gh, gn, dr, tk0, os⟩ := by
  refine viaF fun hG9 => ?_
  obtain ⟨B, X, T, hk⟩ := C
  have hlen1 := esc_len false x
  refine hG9 ?_
  refine' enterP (binds := [(PySem.Str.ofString "text", Value.str x t)]) B F X N T hk hp (by ktr_room) ?ho ?hcd ?hb ?hl rfl ?_ ?c1 ?c2 ?c3 ?c4
  case ho => k_is
  case hcd => k_is
  case hb => exact BindsTo.of_eq rfl
  case hl => exact locs rfl
  case c1 => rfl
  case c2 => rfl
  case c3 => rfl
  case c4 => decide
  intro g L₁ h₁ tk hp₁ FG mm F₁ N₁ B₁ X₁ T₁ A₁ qk ek
  k_steps
  rw [esc_value]
  exact hret _ _ _ (by assumption) (by k_asm) (by k_asm)
end

local macro_rules (kind := PyProof.Rows.tacticWalk_at_) | x => call9 "call ref" "escape_value_spec" 7 x

inductive All2 {α β : Type} (R : α → β → Prop) : List α → List β → Prop
  | nil : All2 R [] []
  | cons {a b l r} : R a b → All2 R l r → All2 R (a :: l) (b :: r)
namespace All2
variable {α β : Type} {R S : α → β → Prop}
theorem length {l : List α} {r : List β} (h : All2 R l r) : l.length = r.length := by
  induction h with
  | nil => rfl
  | cons _ _ ih => simp [ih]
theorem imp {l : List α} {r : List β} (h : All2 R l r) (k : ∀ a b, R a b → S a b) : All2 S l r := by
  induction h with
  | nil => exact .nil
  | cons h _ ih => exact .cons (k _ _ h) ih
theorem get {l : List α} {r : List β} (h : All2 R l r) : ∀ {i : Nat} {b : β}, r[i]? = some b → ∃ a, l[i]? = some a ∧ R a b := by
  induction h with
  | nil => intro i b hb; simp at hb
  | cons h _ ih =>
    intro i b hb
    cases i with
    | zero => simp at hb; subst hb; exact ⟨_, by simp, h⟩
    | succ i => obtain ⟨a, h1, h2⟩ := ih (i := i) (b := b) (by simpa using hb); exact ⟨a, by simpa using h1, h2⟩
theorem getL {l : List α} {r : List β} (h : All2 R l r) : ∀ {i : Nat} {a : α}, l[i]? = some a → ∃ b, r[i]? = some b ∧ R a b := by
  induction h with
  | nil => intro i b hb; simp at hb
  | cons h _ ih =>
    intro i b hb
    cases i with
    | zero => simp at hb; subst hb; exact ⟨_, by simp, h⟩
    | succ i => obtain ⟨a, h1, h2⟩ := ih (i := i) (a := b) (by simpa using hb); exact ⟨a, by simpa using h1, h2⟩
theorem append {l l' : List α} {r r' : List β} (h : All2 R l r) (h' : All2 R l' r') : All2 R (l ++ l') (r ++ r') := by
  induction h with
  | nil => exact h'
  | cons h _ ih => exact .cons h ih
theorem snoc {l : List α} {r : List β} {a : α} {b : β} (h : All2 R l r) (h' : R a b) : All2 R (l ++ [a]) (r ++ [b]) := h.append (.cons h' .nil)
theorem reverse {l : List α} {r : List β} (h : All2 R l r) : All2 R l.reverse r.reverse := by
  induction h with
  | nil => exact .nil
  | cons h _ ih => simp only [List.reverse_cons]; exact ih.snoc h
theorem set {l : List α} {r : List β} {a : α} {b : β} (h : All2 R l r) (h' : R a b) : ∀ i, All2 R (l.set i a) (r.set i b) := by
  induction h with
  | nil => intro i; exact .nil
  | cons h t ih =>
    intro i
    cases i with
    | zero => exact .cons h' t
    | succ i => exact .cons h (ih i)
theorem take {l : List α} {r : List β} (h : All2 R l r) : ∀ i, All2 R (l.take i) (r.take i) := by
  induction h with
  | nil => intro i; simp; exact .nil
  | cons h t ih =>
    intro i
    cases i with
    | zero => exact .nil
    | succ i => exact .cons h (ih i)
theorem drop {l : List α} {r : List β} (h : All2 R l r) : ∀ i, All2 R (l.drop i) (r.drop i) := by
  induction h with
  | nil => intro i; simp; exact .nil
  | cons h t ih =>
    intro i
    cases i with
    | zero => exact .cons h t
    | succ i => exact ih i
theorem mapR {γ : Type} {T : α → γ → Prop} (f : β → γ) {l : List α} {r : List β} (h : All2 R l r) (k : ∀ a b, R a b → T a (f b)) : All2 T l (r.map f) := by
  induction h with
  | nil => exact .nil
  | cons h _ ih => exact .cons (k _ _ h) ih
end All2

noncomputable abbrev LO (vs : List Value) (n : Nat) : Obj := listOf vs.toArray n
noncomputable abbrev TO (vs : List Value) (n : Nat) : Obj := { cls := .type "tuple", data := .seq vs.toArray n }
noncomputable def IsStr (v : Value) (x : Str) : Prop := ∃ t, v = .str x t
noncomputable def IsNat (v : Value) (i : Nat) : Prop := ∃ t, v = .int (i : Int) t
noncomputable def IsInt (v : Value) (i : Int) : Prop := ∃ t, v = .int i t
noncomputable def IsRef (v : Value) (a : Addr) : Prop := v = .ref a
noncomputable def Sub (news news' : Led) : Prop := ∀ p ∈ news, p ∈ news'
theorem Sub.refl {news : Led} : Sub news news := fun _ h => h
theorem Sub.cons {p : Addr × Obj} {news news' : Led} (h : Sub news news') : Sub news (p :: news') := fun q hq => List.mem_cons_of_mem _ (h q hq)

/-- the item k of the list at l is v -/
structure ItemAt (news : Led) (l : Addr) (k : Int) (v : Value) : Prop where
  ex : ∃ vs n, (l, LO vs n) ∈ news ∧ 0 ≤ k ∧ k < 2 ^ 62 ∧ vs[k.toNat]? = some v
theorem ItemAt.sub {news news' : Led} {l : Addr} {k : Int} {v : Value} (h : ItemAt news l k v) (hs : Sub news news') : ItemAt news' l k v :=
  let ⟨vs, n, h1, h2⟩ := h; ⟨vs, n, hs _ h1, h2⟩
theorem ItemAt.cons {p : Addr × Obj} {news : Led} {l : Addr} {k : Int} {v : Value} (h : ItemAt news l k v) : ItemAt (p :: news) l k v := h.sub (Sub.cons Sub.refl)
theorem ItemAt.of {news : Led} {l : Addr} {vs : List Value} {n i : Nat} {v : Value} (h : (l, LO vs n) ∈ news) (hv : vs[i]? = some v) (hi : i < 2 ^ 62) : ItemAt news l (i : Int) v :=
  ⟨vs, n, h, by omega, by omega, by simpa using hv⟩
theorem ItemAt.setL {D : Addr} {o : Obj} {news : Led} {l : Addr} {k : Int} {v : Value} (h : ItemAt news l k v) (hne : l ≠ D) : ItemAt (setL D o news) l k v :=
  let ⟨vs, n, h1, h2⟩ := h; ⟨vs, n, setL_ne hne h1, h2⟩

structure Nd where
  kind : Str
  space : Str
  name : Str
  text : Str
  attrs : List (Str × Str)
  under : List Nat
  parent : Int
noncomputable def Nd.isTem (d : Nd) : Bool := d.kind == "element" && (d.space == "html" && d.name == "template")

noncomputable def PairAt (news : Led) (v : Value) (p : Str × Str) : Prop := ∃ q t₁ t₂ n, v = .ref q ∧ (q, TO [.str p.1 t₁, .str p.2 t₂] n) ∈ news
theorem PairAt.sub {news news' : Led} {v : Value} {p : Str × Str} (h : PairAt news v p) (hs : Sub news news') : PairAt news' v p :=
  let ⟨q, t₁, t₂, n, e, h⟩ := h; ⟨q, t₁, t₂, n, e, hs _ h⟩
noncomputable def AttrsAt (news : Led) (a : Addr) (ps : List (Str × Str)) : Prop := ∃ vs n, (a, LO vs n) ∈ news ∧ All2 (PairAt news) vs ps
theorem AttrsAt.sub {news news' : Led} {a : Addr} {ps : List (Str × Str)} (h : AttrsAt news a ps) (hs : Sub news news') : AttrsAt news' a ps :=
  let ⟨vs, n, h1, h2⟩ := h; ⟨vs, n, hs _ h1, h2.imp fun _ _ h => h.sub hs⟩

structure TA where
  (t d k s n a x p c ct : Addr)
  (e1 e2 e3 e4 e5 e6 e7 e8 : Tok)
noncomputable abbrev treeEs (P : Params) (T : TA) : List DictEntry :=
  [⟨PyData.keyHash P "kinds", .str "kinds" T.e1, .ref T.k⟩, ⟨PyData.keyHash P "spaces", .str "spaces" T.e2, .ref T.s⟩, ⟨PyData.keyHash P "names", .str "names" T.e3, .ref T.n⟩, ⟨PyData.keyHash P "attrs", .str "attrs" T.e4, .ref T.a⟩,
   ⟨PyData.keyHash P "texts", .str "texts" T.e5, .ref T.x⟩, ⟨PyData.keyHash P "parents", .str "parents" T.e6, .ref T.p⟩, ⟨PyData.keyHash P "children", .str "children" T.e7, .ref T.c⟩, ⟨PyData.keyHash P "contents", .str "contents" T.e8, .ref T.ct⟩]

noncomputable def ContOk (kvs : List (Int × Value)) (nds : List Nd) : Prop := ∀ i : Nat, (∀ d : Nd, nds[i]? = some d → d.isTem = true → ∃ t, valueAt kvs (i : Int) = some (.int ((i + 1 : Nat) : Int) t)) ∧
  ((∀ d : Nd, nds[i]? = some d → d.isTem = false) → valueAt kvs (i : Int) = none)

/-- the tree as the ledger bears it -/
structure TreeRep (w : World) (news : Led) (T : TA) (as qs : List Addr) (nds : List Nd) : Prop where
  inst : (T.t, instObj 250 T.d) ∈ news
  dict : (T.d, dictOf (treeEs w.params T) 8) ∈ news
  kinds : ∃ vs n, (T.k, LO vs n) ∈ news ∧ All2 IsStr vs (nds.map Nd.kind)
  spaces : ∃ vs n, (T.s, LO vs n) ∈ news ∧ All2 IsStr vs (nds.map Nd.space)
  names : ∃ vs n, (T.n, LO vs n) ∈ news ∧ All2 IsStr vs (nds.map Nd.name)
  texts : ∃ vs n, (T.x, LO vs n) ∈ news ∧ All2 IsStr vs (nds.map Nd.text)
  parents : ∃ vs n, (T.p, LO vs n) ∈ news ∧ All2 IsInt vs (nds.map Nd.parent)
  attrs : ∃ n, (T.a, LO (as.map .ref) n) ∈ news
  alen : as.length = nds.length
  attr : ∀ (i : Nat) (d : Nd) (a : Addr), nds[i]? = some d → as[i]? = some a → d.kind = "element" → AttrsAt news a d.attrs
  kids : ∃ n, (T.c, LO (qs.map .ref) n) ∈ news
  klen : qs.length = nds.length
  kid : ∀ (i : Nat) (d : Nd) (q : Addr), nds[i]? = some d → qs[i]? = some q → ∃ vs n, (q, LO vs n) ∈ news ∧ All2 IsNat vs d.under
  conts : ∃ o kvs, (T.ct, o) ∈ news ∧ o.IsDictOf (intKind PySem.Challenge.rw_nz0091_01.row.prog w) kvs ∧ ContOk kvs nds
  lo : (T.ct == sysModules) = false
  room : nds.length ≤ 1000
section
variable {w : World} {news news' : Led} {T : TA} {as qs : List Addr} {nds : List Nd} {i : Nat} {d : Nd}
theorem TreeRep.sub (R : TreeRep w news T as qs nds) (hs : Sub news news') : TreeRep w news' T as qs nds where
  inst := hs _ R.inst
  dict := hs _ R.dict
  kinds := let ⟨vs, n, h, r⟩ := R.kinds; ⟨vs, n, hs _ h, r⟩
  spaces := let ⟨vs, n, h, r⟩ := R.spaces; ⟨vs, n, hs _ h, r⟩
  names := let ⟨vs, n, h, r⟩ := R.names; ⟨vs, n, hs _ h, r⟩
  texts := let ⟨vs, n, h, r⟩ := R.texts; ⟨vs, n, hs _ h, r⟩
  parents := let ⟨vs, n, h, r⟩ := R.parents; ⟨vs, n, hs _ h, r⟩
  attrs := let ⟨n, h⟩ := R.attrs; ⟨n, hs _ h⟩
  alen := R.alen
  attr := fun i d a h1 h2 h3 => (R.attr i d a h1 h2 h3).sub hs
  kids := let ⟨n, h⟩ := R.kids; ⟨n, hs _ h⟩
  klen := R.klen
  kid := fun i d q h1 h2 => let ⟨vs, n, h, r⟩ := R.kid i d q h1 h2; ⟨vs, n, hs _ h, r⟩
  conts := let ⟨o, kvs, h, r⟩ := R.conts; ⟨o, kvs, hs _ h, r⟩
  lo := R.lo
  room := R.room
theorem lt_of_get {α : Type} {l : List α} {i : Nat} {x : α} (h : l[i]? = some x) : i < l.length := (List.getElem?_eq_some_iff.mp h).1
theorem strAt {l : Addr} {f : Nd → Str} (h : ∃ vs n, (l, LO vs n) ∈ news ∧ All2 IsStr vs (nds.map f)) (hr : nds.length ≤ 1000) (hi : nds[i]? = some d) : ∃ t, ItemAt news l (i : Int) (.str (f d) t) := by
  obtain ⟨vs, n, hm, ha⟩ := h
  obtain ⟨v, hv, t, rfl⟩ := ha.get (i := i) (b := f d) (by simp [hi])
  exact ⟨t, .of hm hv (Nat.lt_trans (Nat.lt_of_lt_of_le (lt_of_get hi) hr) (by decide))⟩
theorem TreeRep.kindAt (R : TreeRep w news T as qs nds) (hi : nds[i]? = some d) : ∃ t, ItemAt news T.k (i : Int) (.str d.kind t) := strAt R.kinds R.room hi
theorem TreeRep.spaceAt (R : TreeRep w news T as qs nds) (hi : nds[i]? = some d) : ∃ t, ItemAt news T.s (i : Int) (.str d.space t) := strAt R.spaces R.room hi
theorem TreeRep.nameAt (R : TreeRep w news T as qs nds) (hi : nds[i]? = some d) : ∃ t, ItemAt news T.n (i : Int) (.str d.name t) := strAt R.names R.room hi
theorem TreeRep.textAt (R : TreeRep w news T as qs nds) (hi : nds[i]? = some d) : ∃ t, ItemAt news T.x (i : Int) (.str d.text t) := strAt R.texts R.room hi
theorem TreeRep.parentAt (R : TreeRep w news T as qs nds) (hi : nds[i]? = some d) : ∃ t, ItemAt news T.p (i : Int) (.int d.parent t) := by
  obtain ⟨vs, n, hm, ha⟩ := R.parents
  obtain ⟨v, hv, t, rfl⟩ := ha.get (i := i) (b := d.parent) (by simp [hi])
  exact ⟨t, .of hm hv (Nat.lt_trans (Nat.lt_of_lt_of_le (lt_of_get hi) R.room) (by decide))⟩
theorem refAt {l : Addr} {as : List Addr} {n i : Nat} {a : Addr} (h : (l, LO (as.map .ref) n) ∈ news) (ha : as[i]? = some a) (hi : i < 2 ^ 62) : ItemAt news l (i : Int) (.ref a) :=
  .of h (by simp [ha]) hi
end

section
variable {prog : Program} {w : World} {A : Around} {E : Value → Shared → Prop} {gh : Heap} {gn : Array GenState} {dr : Drawn} {tk0 : Nat} {os : OsState} {h₀ : Heap} {L : Addr} {m : Str → Option Value} {news : Led}
theorem lo_isList {l : Addr} {vs : List Value} {n : Nat} (N : News h₀ L gh news) (h : (l, LO vs n) ∈ news) : gh.IsList l vs.toArray := ⟨_, (N _ h).1, rfl, _, rfl⟩
theorem to_isTup {l : Addr} {vs : List Value} {n : Nat} (N : News h₀ L gh news) (h : (l, TO vs n) ∈ news) : IsTup gh l vs.toArray := ⟨_, (N _ h).1, rfl, _, rfl⟩
theorem itemS {value slice : Expr} {l : Addr} {k : Int} {u : Tok} {v : Value} {Q : Value → Shared → Prop} (N : News h₀ L gh news) (I : ItemAt news l k v) (h : Q v ⟨gh, gn, dr, tk0, os⟩)
    (hs : subscripted slice false (.ref l) (.int k u) = operate [.ref l, .int k u] (getItem (.ref l) (.int k u)) := by with_unfolding_all rfl) :
    wpAny (model prog w) A (subscriptTail value slice (.ref l) (.int k u)) Q E ⟨gh, gn, dr, tk0, os⟩ := by
  obtain ⟨vs, n, hm, h0, h1, hv⟩ := I
  have hl := lo_isList N hm
  exact tail_any hl.typeIs slot_list_getitem.lookup (wpAny_getItem_list hl h0 (by omega) (by simpa using hv) h) hs
theorem appendU {D : Addr} {vs : List Value} {n : Nat} {x : Value} {news' : Led} {Q : Value → Shared → Prop} (F : Fr h₀ L gh m) (N : News h₀ L gh news) (U : Upd D (LO vs n) (LO (vs ++ [x]) (n + 1)) news news')
    (hsz : vs.length ≤ 1000000) (h : ∀ h', Fr h₀ L h' m → News h₀ L h' news' → Q .none ⟨h', gn, dr, tk0, os⟩) : wpAny (model prog w) A (call (.builtin "list.append") [.ref D, x]) Q E ⟨gh, gn, dr, tk0, os⟩ :=
  append_K F N (by rw [List.push_toArray]; exact U) h (by rw [List.size_toArray]; exact Nat.le_trans hsz (by decide))
theorem getItemS {l : Addr} {k : Int} {u : Tok} {v : Value} {Q : Value → Shared → Prop} (N : News h₀ L gh news) (I : ItemAt news l k v) (h : Q v ⟨gh, gn, dr, tk0, os⟩) : wpAny (model prog w) A (getItem (.ref l) (.int k u)) Q E ⟨gh, gn, dr, tk0, os⟩ := by
  obtain ⟨vs, n, hm, h0, h1, hv⟩ := I
  exact wpAny_getItem_list (lo_isList N hm) h0 (by omega) (by simpa using hv) h
end

local macro_rules (kind := PySem.W.tacticK_all) | _x => asm9
local macro_rules (kind := PySem.W.tacticK_mem) | _x => first9 [asmr9, seq9 [do `(tactic| repeat $(← first9 [red9 (exact9 "List.mem_cons_self"), asmr9, red9 (refine9 "List.mem_cons_of_mem _ ?"), red9 (exact9 "List.mem_append_left _ @"), red9 (refine9 "List.mem_append_right _ ?"),
  seq9 [do `(tactic| with_reducible refine $(id9 "setL_ne") (by first | with_reducible assumption | exact Ne.symm (by with_reducible assumption)) ?_)], red9 (apply9 "setL_self")]):tactic), do `(tactic| done)], asm9]
local macro_rules (kind := PySem.W.tacticKtr_rel) | _x => first9 [asmr9, asm9, seq9 [apply9 "ItemAt.cons", rel9]]
local macro_rules (kind := PyProof.Rows.tacticWalk_at_) | x => side9 "subscriptTail" "itemS" 2 x
local macro_rules (kind := PyProof.Rows.tacticWalk_at_) | x => side9 "getItem ref int" "getItemS" 2 x
local macro_rules (kind := PyProof.Rows.tacticWalk_at_) | x => call9 "call builtin:list.append" "appendU" 4 x

/-- the end of a turn of a for loop over the iterator I -/
noncomputable def TurnS (h₀ : Heap) (L I : Addr) (oI : Obj) (Jn : (Str → Option Value) → Led → Prop) (s₁ : Shared) (Q : Flow → Shared → Prop) (f : Flow) (s₂ : Shared) : Prop :=
  match f with
  | .ret v => Q (.ret v) s₂
  | .brk => Q .next s₂
  | _ => ∃ h' tk m' news', s₂ = { s₁ with heap := h', toks := tk } ∧ Fr h₀ L h' m' ∧ News h₀ L h' ((I, oI) :: news') ∧ (∀ p ∈ news', p.1 ≠ I) ∧ Jn m' news'
theorem turnS_next {h₀ : Heap} {L I : Addr} {oI : Obj} {Jn : (Str → Option Value) → Led → Prop} {s₁ : Shared} {Q : Flow → Shared → Prop} {h' : Heap} {tk : Nat} {m' : Str → Option Value} {news' : Led}
    (F : Fr h₀ L h' m') (N : News h₀ L h' ((I, oI) :: news')) (off : ∀ p ∈ news', p.1 ≠ I) (hj : Jn m' news') : TurnS h₀ L I oI Jn s₁ Q .next { s₁ with heap := h', toks := tk } :=
  ⟨h', tk, m', news', rfl, F, N, off, hj⟩
section
variable {prog : Program} {w : World} {A : Around} {s : Shared} {env : Env} {h₀ : Heap}
theorem forGen {x : Str} {px : Pos} {body : List Stmt} {I : Addr} {fp : List Addr} {n : Nat} {P : Nat → Value → Prop} {St : Nat → Heap → Prop} {m : Str → Option Value} {news : Led} {Src : Led → Prop} {Q : Flow → Shared → Prop} {R : Result → Shared → Prop}
    (W : Walks prog w A I fp [I] n P St) (hx : env.kindOf x = some .local)
    (hp : (env.scope.kind == .class || (env.scope.kind == .module && env.locals != env.globals)) = false)
    (hLf : env.locals ∉ fp) (hI0 : h₀.get? I = none) (hIo : ∀ i h, St i h → ∃ o, h.get? I = some o)
    (hSt : ∀ i h h' o nw, St i h → h.get? I = some o → h'.get? I = some o → (∀ b o, h₀.get? b = some o → h'.get? b = some o) → News h₀ env.locals h' nw → Src nw → St i h')
    (J : Nat → (Str → Option Value) → Led → Prop) (hJS : ∀ i m' nw, J i m' nw → Src nw)
    (hst : St 0 s.heap) (F : Fr h₀ env.locals s.heap m) (N : News h₀ env.locals s.heap news) (off : ∀ p ∈ news, p.1 ≠ I) (hpos : 0 < s.toks) (h0 : J 0 m news)
    (step : ∀ i v m' news' h tk oI, i < n → P i v → J i m' news' → 0 < tk → Fr h₀ env.locals h (fun y => if y = x then some v else m' y) → News h₀ env.locals h ((I, oI) :: news') → (∀ p ∈ news', p.1 ≠ I) →
      wpAny (model prog w) A (execs body env) (TurnS h₀ env.locals I oI (J (i + 1)) { s with heap := h, toks := tk } Q) (fun _ _ => False) { s with heap := h, toks := tk })
    (done : ∀ m' news' h tk, J n m' news' → 0 < tk → Fr h₀ env.locals h m' → News h₀ env.locals h news' → Q .next { s with heap := h, toks := tk })
    (hR : ∀ f s', Q f s' → R (.ok f) s') :
    codeAny (model prog w) A (.forLoop (.Name x px) (.ref I) body [] env) R s := by
  have hIf : I ∈ fp := W.sub I (List.mem_singleton.mpr rfl)
  have hLI : env.locals ≠ I := fun e => hLf (e ▸ hIf)
  refine codeAny_forLoop
    (fun k s' => ∃ h' tk m' news' i, s' = { s with heap := h', toks := tk } ∧ 0 < tk ∧ St i h' ∧ Fr h₀ env.locals h' m' ∧ News h₀ env.locals h' news' ∧ (∀ p ∈ news', p.1 ≠ I) ∧ J i m' news' ∧ i ≤ n ∧ k = n + 1 - i) ?_ (n + 1)
    ⟨s.heap, s.toks, m, news, 0, rfl, hpos, hst, F, N, off, h0, Nat.zero_le _, rfl⟩
  rintro k s' ⟨h', tk, m', news', i, rfl, hp', hst', F', N', off', hJ, hi, rfl⟩
  by_cases hlt : i < n
  · refine wpAny_pos hp' ?_
    refine W.item i _ _ _ hlt hst' fun v h₁ tk₁ hP hst₁ hk₁ hp₁ => ?_
    have F₁ := LCg.fr_but F' hk₁ hLI hI0
    have N₁ := LCg.news_but N' hk₁ off'
    refine wpAny_assign_Name (wpAny_storeName_local hx F₁.ns (fun h₂ hn₂ hs₂ => ?_) hp)
    have F₂ := F₁.set hn₂ hs₂
    have N₂ := N₁.set hs₂
    have hst₂ : St (i + 1) h₂ := W.frame _ _ _ hst₁ fun b hb o e => (hs₂.2 b fun q => hLf (by rw [← q]; exact hb)).trans e
    obtain ⟨oI, hoI⟩ := hIo _ _ hst₂
    have N₃ : News h₀ env.locals h₂ ((I, oI) :: news') := fun p hp => by
      rcases List.mem_cons.mp hp with rfl | hp
      · exact ⟨hoI, Ne.symm hLI, hI0⟩
      · exact N₂ p hp
    refine wpAny_pos (s := ⟨h₂, s.gens, s.drawn, tk₁ + 1, s.os⟩) (Nat.succ_pos _) (wpAny_mono (step i v m' news' h₂ (tk₁ + 1) oI hlt hP hJ (Nat.succ_pos _) F₂ N₃ off') (fun f s₃ h₃ hp₃ => ?_) fun _ _ e => e.elim)
    have fin : (∃ h' tk m' news', s₃ = { s with heap := h', toks := tk } ∧ Fr h₀ env.locals h' m' ∧ News h₀ env.locals h' ((I, oI) :: news') ∧ (∀ p ∈ news', p.1 ≠ I) ∧ J (i + 1) m' news') →
        ∃ k, k < n + 1 - i ∧ ∃ h' tk m' news' j, s₃ = { s with heap := h', toks := tk } ∧ 0 < tk ∧ St j h' ∧ Fr h₀ env.locals h' m' ∧ News h₀ env.locals h' news' ∧ (∀ p ∈ news', p.1 ≠ I) ∧ J j m' news' ∧ j ≤ n ∧ k = n + 1 - j := by
      rintro ⟨h₄, tk₄, m₄, news₄, rfl, F₄, N₄, off₄, hJ₄⟩
      have N₅ : News h₀ env.locals h₄ news₄ := fun p hp => N₄ p (List.mem_cons_of_mem _ hp)
      exact ⟨n + 1 - (i + 1), subTurn hlt, h₄, tk₄, m₄, news₄, i + 1, rfl, hp₃, hSt _ _ _ _ _ hst₂ hoI (N₄ _ List.mem_cons_self).1 F₄.keep N₅ (hJS _ _ _ hJ₄), F₄, N₅, off₄, hJ₄, hlt, rfl⟩
    cases f with
    | ret v => exact hR _ _ h₃
    | brk => exact hR _ _ h₃
    | next => exact fin h₃
    | cont => exact fin h₃
  · have hin : i = n := by omega
    subst hin
    refine wpAny_pos hp' (W.done _ _ _ hst' fun h₁ tk₁ hk₁ hp₁ => wpAny_execs_nil ?_)
    exact hR _ _ (done m' news' h₁ tk₁ hJ hp₁ (LCg.fr_but F' hk₁ hLI hI0) (LCg.news_but N' hk₁ off'))

/-- a for over a list of the ledger -/
theorem forList {x : Str} {px : Pos} {body : List Stmt} {l : Addr} {vs : List Value} {n : Nat} {m : Str → Option Value} {news : Led} {Q : Flow → Shared → Prop}
    (hh : A.handled = none) (hx : env.kindOf x = some .local)
    (hp : (env.scope.kind == .class || (env.scope.kind == .module && env.locals != env.globals)) = false)
    (F : Fr h₀ env.locals s.heap m) (N : News h₀ env.locals s.heap news) (hm : (l, LO vs n) ∈ news) (hpos : 0 < s.toks)
    (J : Nat → (Str → Option Value) → Led → Prop) (hJS : ∀ i m' nw, J i m' nw → (l, LO vs n) ∈ nw) (h0 : J 0 m news)
    (step : ∀ i v m' news' h tk I oI, vs[i]? = some v → J i m' news' → 0 < tk → Fr h₀ env.locals h (fun y => if y = x then some v else m' y) → News h₀ env.locals h ((I, oI) :: news') → (∀ p ∈ news', p.1 ≠ I) →
      wpAny (model prog w) A (execs body env) (TurnS h₀ env.locals I oI (J (i + 1)) { s with heap := h, toks := tk } Q) (fun _ _ => False) { s with heap := h, toks := tk })
    (done : ∀ m' news' h tk, J vs.length m' news' → 0 < tk → Fr h₀ env.locals h m' → News h₀ env.locals h news' → Q .next { s with heap := h, toks := tk }) :
    wpAny (model prog w) A (pyIter (.ref l)) (fun it s₂ => codeAny (model prog w) A (.forLoop (.Name x px) it body [] env) (fun r s' => match r with | .ok f => Q f s' | .error e => cameBackBy (model prog w) A env (fun _ _ => False) e s') s₂) (fun _ _ => False) s := by
  have hl := lo_isList N hm
  have hlt : l < s.heap.objs.size := Heap.lt_size (N _ hm).1
  refine wpAny_pyIter_list hl ?_
  have up : ∀ b o, s.heap.get? b = some o → (s.heap.push { cls := .type "list_iterator", data := .fields #[.ref l, .int 0 0] }).get? b = some o := fun b o e => Heap.get?_push_of_some _ e
  have hS : ∀ nw, (l, LO vs n) ∈ nw → LCg.SrcAt h₀ l vs.toArray nw := fun nw h => .inr ⟨_, h, rfl, _, rfl⟩
  refine forGen (Q := Q) (s := { s with heap := _ }) (Src := fun nw => (l, LO vs n) ∈ nw) (Walks.list hh s.heap.objs.size l (Nat.ne_of_lt hlt) vs.toArray) hx hp ?_ (next_is_new F) (fun i h st => by obtain ⟨o, e, _⟩ := st.1; exact ⟨o, e⟩)
    (fun i h h' o nw st e e' k Nw hs => LCg.list_st i h h' o nw st e e' k Nw (hS nw hs)) J hJS ⟨⟨_, Heap.get?_push_size _ rfl, rfl, rfl⟩, hl.push _⟩ (F.keeps up) (N.grown up) (fun p hp => Nat.ne_of_lt (Heap.lt_size (N p hp).1)) hpos h0 ?_ ?_ ?_
  · intro hc
    rcases List.mem_cons.mp hc with e | hc
    · exact absurd F.ns.lt (e ▸ Nat.lt_irrefl _)
    · exact (N _ hm).2.1 (List.mem_singleton.mp hc).symm
  · intro i v m' news' h tk oI hi hv
    exact step i v m' news' h tk _ oI (by simpa using hv)
  · intro m' news' h tk hJ
    rw [List.size_toArray] at hJ
    exact done m' news' h tk hJ
  · intro f s' h; exact h

/-- a for over a range by ones -/
theorem forRange {x : Str} {px : Pos} {body : List Stmt} {r : Addr} {a₀ b₀ c₀ : Int} {t₀ u₀ v₀ : Tok} {n : Nat} {m : Str → Option Value} {news : Led} {Q : Flow → Shared → Prop}
    (hh : A.handled = none) (hx : env.kindOf x = some .local)
    (hp : (env.scope.kind == .class || (env.scope.kind == .module && env.locals != env.globals)) = false)
    (F : Fr h₀ env.locals s.heap m) (N : News h₀ env.locals s.heap news) (hr : IsRange s.heap r a₀ b₀ c₀ t₀ u₀ v₀) (hsmall : Builtin.Range.small a₀ b₀ c₀ = true) (hn : Builtin.Range.rangeSize a₀ b₀ c₀ = (n : Int)) (hpos : 0 < s.toks)
    (J : Nat → (Str → Option Value) → Led → Prop) (h0 : J 0 m news)
    (step : ∀ i t m' news' h tk I oI, i < n → J i m' news' → 0 < tk → Fr h₀ env.locals h (fun y => if y = x then some (.int (a₀ + i * c₀) t) else m' y) → News h₀ env.locals h ((I, oI) :: news') → (∀ p ∈ news', p.1 ≠ I) →
      wpAny (model prog w) A (execs body env) (TurnS h₀ env.locals I oI (J (i + 1)) { s with heap := h, toks := tk } Q) (fun _ _ => False) { s with heap := h, toks := tk })
    (done : ∀ m' news' h tk, J n m' news' → 0 < tk → Fr h₀ env.locals h m' → News h₀ env.locals h news' → Q .next { s with heap := h, toks := tk }) :
    wpAny (model prog w) A (pyIter (.ref r)) (fun it s₂ => codeAny (model prog w) A (.forLoop (.Name x px) it body [] env) (fun r s' => match r with | .ok f => Q f s' | .error e => cameBackBy (model prog w) A env (fun _ _ => False) e s') s₂) (fun _ _ => False) s := by
  refine wpAny_pyIter_range hr hsmall ?_
  have up : ∀ b o, s.heap.get? b = some o → (s.heap.push { cls := .type "range_iterator", data := .fields #[rawInt a₀, rawInt (Builtin.Range.rangeSize a₀ b₀ c₀), rawInt c₀] }).get? b = some o := fun b o e => Heap.get?_push_of_some _ e
  refine forGen (Q := Q) (s := { s with heap := _ }) (Src := fun _ => True) (Walks.range hh s.heap.objs.size a₀ c₀ n) hx hp ?_ (next_is_new F) (fun i h st => ⟨_, st⟩)
    (fun i h h' o nw st e e' k Nw hs => by
      have q : o = _ := Option.some.inj (e.symm.trans st)
      subst q; exact e') J (fun _ _ _ _ => trivial) ?_ (F.keeps up) (N.grown up) (fun p hp => Nat.ne_of_lt (Heap.lt_size (N p hp).1)) hpos h0 ?_ done (fun f s' h => h)
  · intro hc
    exact absurd F.ns.lt ((List.mem_singleton.mp hc) ▸ Nat.lt_irrefl _)
  · show IsRangeIter _ _ _ _ _
    rw [hn]; simpa using Heap.get?_push_size _ rfl
  · rintro i v m' news' h tk oI hi ⟨t, rfl⟩
    exact step i t m' news' h tk _ oI hi

noncomputable def TurnW (h₀ : Heap) (L : Addr) (J : Nat → (Str → Option Value) → Led → Prop) (k : Nat) (s : Shared) (Q : Flow → Shared → Prop) (f : Flow) (s₃ : Shared) : Prop := match f with
  | .ret v => Q (.ret v) s₃
  | .brk => Q .next s₃
  | _ => ∃ k' h' tk' m'' news'', k' < k ∧ s₃ = { s with heap := h', toks := tk' } ∧ Fr h₀ L h' m'' ∧ News h₀ L h' news'' ∧ J k' m'' news''
theorem turnW_next {h₀ : Heap} {L : Addr} {J : Nat → (Str → Option Value) → Led → Prop} {k k' : Nat} {s : Shared} {Q : Flow → Shared → Prop} {h' : Heap} {tk' : Nat} {m' : Str → Option Value} {news' : Led}
    (F : Fr h₀ L h' m') (N : News h₀ L h' news') (hk : k' < k) (hj : J k' m' news') : TurnW h₀ L J k s Q .next { s with heap := h', toks := tk' } := ⟨k', h', tk', m', news', hk, rfl, F, N, hj⟩
theorem whileS {test : Expr} {body : List Stmt} {pos : Pos} {m : Str → Option Value} {news : Led} {Q : Flow → Shared → Prop} {k : Nat}
    (F : Fr h₀ env.locals s.heap m) (N : News h₀ env.locals s.heap news) (hpos : 0 < s.toks)
    (J : Nat → (Str → Option Value) → Led → Prop) (h0 : J k m news)
    (step : ∀ k m' news' h tk, J k m' news' → 0 < tk → Fr h₀ env.locals h m' → News h₀ env.locals h news' →
      wpAny (model prog w) A (isTrue test env (eval test env)) (fun b s₂ => 0 < s₂.toks → if b then wpAny (model prog w) A (execs body env) (fun f s₃ => 0 < s₃.toks → TurnW h₀ env.locals J k s Q f s₃) (fun _ _ => False) s₂
          else Q .next s₂) (fun _ _ => False) { s with heap := h, toks := tk }) :
    wpAny (model prog w) A (exec (.While test body [] pos) env) Q (fun _ _ => False) s := by
  refine wpAny_While (codeAny_whileLoop (fun k s' => ∃ h' tk m' news', s' = { s with heap := h', toks := tk } ∧ 0 < tk ∧ Fr h₀ env.locals h' m' ∧ News h₀ env.locals h' news' ∧ J k m' news') ?_ k ⟨s.heap, s.toks, m, news, rfl, hpos, F, N, h0⟩)
  rintro k s' ⟨h', tk, m', news', rfl, hp', F', N', hJ⟩
  refine wpAny_pos hp' (wpAny_mono (step k m' news' h' tk hJ hp' F' N') (fun b s₂ h₂ hp₂ => ?_) fun _ _ e => e.elim)
  have h₃ := h₂ hp₂
  cases b with
  | true =>
    simp only [if_true] at h₃ ⊢
    refine wpAny_pos hp₂ (wpAny_mono h₃ (fun f s₃ h₄ hp₃ => ?_) fun _ _ e => e.elim)
    have h₅ := h₄ hp₃
    cases f with
    | ret v => exact h₅
    | brk => exact h₅
    | next =>
      obtain ⟨k', h'', tk'', m'', news'', hk, rfl, F'', N'', hJ''⟩ := h₅
      exact ⟨k', hk, h'', tk'', m'', news'', rfl, hp₃, F'', N'', hJ''⟩
    | cont =>
      obtain ⟨k', h'', tk'', m'', news'', hk, rfl, F'', N'', hJ''⟩ := h₅
      exact ⟨k', hk, h'', tk'', m'', news'', rfl, hp₃, F'', N'', hJ''⟩
  | false =>
    simp only [Bool.false_eq_true, if_false] at h₃ ⊢
    exact wpAny_execs_nil h₃
end

noncomputable def voids1 : List Str := ["area", "base", "br", "col", "embed", "hr", "img", "input", "link", "meta", "source", "track", "wbr"]
noncomputable def voids2 : List Str := ["basefont", "bgsound", "frame", "keygen", "param"]
noncomputable def raws : List Str := ["style", "script", "xmp", "iframe", "noembed", "noframes", "plaintext"]
noncomputable def Nd.endless (d : Nd) : Bool := d.space == "html" && (voids1.any (· == d.name) || voids2.any (· == d.name))
theorem endless1 {d : Nd} (h : (d.space != "html") = true) : false = d.endless := by
  have h' : (d.space == "html") = false := by simpa [bne] using h
  unfold Nd.endless; rw [h']; rfl
theorem endless2 {d : Nd} (h : (d.space != "html") = false) (h2 : voids1.any (· == d.name) = true) : voids1.any (· == d.name) = d.endless := by
  have h' : (d.space == "html") = true := by simpa [bne] using h
  unfold Nd.endless; rw [h', h2]; rfl
theorem endless3 {d : Nd} (h : (d.space != "html") = false) (h2 : voids1.any (· == d.name) = false) : voids2.any (· == d.name) = d.endless := by
  have h' : (d.space == "html") = true := by simpa [bne] using h
  unfold Nd.endless; rw [h', h2]; rfl

local macro_rules (kind := PySem.W.tacticKtr_unf) | _x => first9 [exact9 "Sub.refl", seq9 [refine9 "Sub.cons ?", unf9]]
local macro_rules (kind := PySem.W.tacticKtr_rel) | _x => seq9 [apply9 "TreeRep.sub @@", unf9]

section
variable {w : World} {loose : List Str} {mean : ExcName → Option Value} {mg mb : Str → Option Value} {dp un : Nat} {gd : Option (List Code)} {cn : Str} {cs : Scope} {a : Addr} {ccd : Value} {cl : List (Str × Addr)} {outer : List Env} {A₀ : Around} {base h₀ : Heap} {L : Addr} {m : Str → Option Value} {gh : Heap} {gn : Array GenState} {dr : Drawn} {tk0 : Nat} {os : OsState} {Q E : Value → Shared → Prop} {news : Led}
theorem is_void_spec {x : Str} {t : Tok} (C : Cx w loose mean mg mb outer A₀ base h₀ cs) (F : Fr h₀ L gh m) (N : News h₀ L gh news) (hp : 0 < tk0) (hdp : dp + 2 < recursionLimit) (hun : un + 16 < cLine)
  (hret : ∀ (h' : Heap) (tk' : Nat), 0 < tk' → Fr h₀ L h' m → News h₀ L h' news → Q (.bool (voids1.any (· == x))) ⟨h', gn, dr, tk', os⟩) :
  wpAny (model PySem.Challenge.rw_nz0091_01.row.prog w) (ktrTop dp un gd cn cs L a ccd cl outer) (call (.ref 28) [.str x t]) Q E ⟨gh, gn, dr, tk0, os⟩ := by
  refine viaF fun hG9 => ?_
  obtain ⟨B, X, TT, hk⟩ := C
  refine hG9 ?_
  refine' enterP (binds := [(PySem.Str.ofString "name", Value.str x t)]) B F X N TT hk hp (by ktr_room) ?ho ?hcd ?hb ?hl rfl ?_ ?c1 ?c2 ?c3 ?c4
  case ho => k_is
  case hcd => k_is
  case hb => first | exact BindsTo.of_eq rfl | exact hb _ _ _ _ (by k_is) | exact binds_K (by k_in) rfl (by k_is) rfl rfl rfl
  case hl => exact locs rfl
  case c1 => rfl
  case c2 => rfl
  case c3 => rfl
  case c4 => decide
  intro g L₁ h₁ tk hp₁ FG mm F₁ N₁ B₁ X₁ T₁ A₁ qk ek
  k_steps
  exact hret _ _ (by assumption) (by k_asm) (news_sub (by assumption) (by ktr_unf))
theorem is_raw_spec {x : Str} {t : Tok} (C : Cx w loose mean mg mb outer A₀ base h₀ cs) (F : Fr h₀ L gh m) (N : News h₀ L gh news) (hp : 0 < tk0) (hdp : dp + 2 < recursionLimit) (hun : un + 16 < cLine)
  (hret : ∀ (h' : Heap) (tk' : Nat), 0 < tk' → Fr h₀ L h' m → News h₀ L h' news → Q (.bool (raws.any (· == x))) ⟨h', gn, dr, tk', os⟩) :
  wpAny (model PySem.Challenge.rw_nz0091_01.row.prog w) (ktrTop dp un gd cn cs L a ccd cl outer) (call (.ref 35) [.str x t]) Q E ⟨gh, gn, dr, tk0, os⟩ := by
  refine viaF fun hG9 => ?_
  obtain ⟨B, X, TT, hk⟩ := C
  refine hG9 ?_
  refine' enterP (binds := [(PySem.Str.ofString "name", Value.str x t)]) B F X N TT hk hp (by ktr_room) ?ho ?hcd ?hb ?hl rfl ?_ ?c1 ?c2 ?c3 ?c4
  case ho => k_is
  case hcd => k_is
  case hb => first | exact BindsTo.of_eq rfl | exact hb _ _ _ _ (by k_is) | exact binds_K (by k_in) rfl (by k_is) rfl rfl rfl
  case hl => exact locs rfl
  case c1 => rfl
  case c2 => rfl
  case c3 => rfl
  case c4 => decide
  intro g L₁ h₁ tk hp₁ FG mm F₁ N₁ B₁ X₁ T₁ A₁ qk ek
  k_steps
  exact hret _ _ (by assumption) (by k_asm) (news_sub (by assumption) (by ktr_unf))
end

local macro_rules (kind := PyProof.Rows.tacticWalk_at_) | x => call9 "call ref" "is_void_spec" 6 x
local macro_rules (kind := PyProof.Rows.tacticWalk_at_) | x => call9 "call ref" "is_raw_spec" 6 x

section
variable {w : World} {loose : List Str} {mean : ExcName → Option Value} {mg mb : Str → Option Value} {dp un : Nat} {gd : Option (List Code)} {cn : Str} {cs : Scope} {a : Addr} {ccd : Value} {cl : List (Str × Addr)} {outer : List Env} {A₀ : Around} {base h₀ : Heap} {L : Addr} {m : Str → Option Value} {gh : Heap} {gn : Array GenState} {dr : Drawn} {tk0 : Nat} {os : OsState} {Q E : Value → Shared → Prop} {news : Led}
theorem is_endless_spec {T : TA} {as qs : List Addr} {nds : List Nd} {i : Nat} {d : Nd} {ti : Tok} (C : Cx w loose mean mg mb outer A₀ base h₀ cs) (F : Fr h₀ L gh m) (N : News h₀ L gh news) (hp : 0 < tk0) (hdp : dp + 4 < recursionLimit) (hun : un + 32 < cLine)
  (R : TreeRep w news T as qs nds) (hi : nds[i]? = some d)
  (hret : ∀ (h' : Heap) (tk' : Nat), 0 < tk' → Fr h₀ L h' m → News h₀ L h' news → Q (.bool d.endless) ⟨h', gn, dr, tk', os⟩) :
  wpAny (model PySem.Challenge.rw_nz0091_01.row.prog w) (ktrTop dp un gd cn cs L a ccd cl outer) (call (.ref 56) [.ref T.t, .int (i : Int) ti]) Q E ⟨gh, gn, dr, tk0, os⟩ := by
  refine viaF fun hG9 => ?_
  obtain ⟨B, X, TT, hk⟩ := C
  refine hG9 ?_
  refine' enterP (binds := [(PySem.Str.ofString "tree", Value.ref T.t), (PySem.Str.ofString "node", Value.int (i : Int) ti)]) B F X N TT hk hp (by ktr_room) ?ho ?hcd ?hb ?hl rfl ?_ ?c1 ?c2 ?c3 ?c4
  case ho => k_is
  case hcd => k_is
  case hb => first | exact BindsTo.of_eq rfl | exact hb _ _ _ _ (by k_is) | exact binds_K (by k_in) rfl (by k_is) rfl rfl rfl
  case hl => exact locs rfl
  case c1 => rfl
  case c2 => rfl
  case c3 => rfl
  case c4 => decide
  intro g L₁ h₁ tk hp₁ FG mm F₁ N₁ B₁ X₁ T₁ A₁ qk ek
  refine viaF fun hG9 => ?_
  obtain ⟨_, hname⟩ := R.nameAt hi
  obtain ⟨_, hspace⟩ := R.spaceAt hi
  have hinst := R.inst
  have hdict := R.dict
  refine hG9 ?_
  k_steps
  all_goals exact retB (hret _ _ (by assumption) (by k_asm) (news_sub (by assumption) (by ktr_unf))) (by first | exact endless1 (by assumption) | exact endless2 (by assumption) (by assumption) | exact endless3 (by assumption) (by assumption))
end

local macro_rules (kind := PyProof.Rows.tacticWalk_at_) | x => call9 "call ref" "is_endless_spec" 8 x

noncomputable def Stop (P : Prop) : Prop := P
theorem Stop.out {P : Prop} (h : Stop P) : P := h

/-- the dict at d holds r at i -/
noncomputable def DictAt (w : World) (news : Led) (d : Addr) (i : Int) (r : Option Value) : Prop := (d == sysModules) = false ∧ ∃ o kvs, (d, o) ∈ news ∧ o.IsDictOf (intKind PySem.Challenge.rw_nz0091_01.row.prog w) kvs ∧ valueAt kvs i = r
theorem DictAt.sub {w : World} {news news' : Led} {d : Addr} {i : Int} {r : Option Value} (h : DictAt w news d i r) (hs : Sub news news') : DictAt w news' d i r :=
  let ⟨lo, o, kvs, hm, h1, h2⟩ := h; ⟨lo, o, kvs, hs _ hm, h1, h2⟩
section
variable {w : World} {A : Around} {E : Value → Shared → Prop} {gh : Heap} {gn : Array GenState} {dr : Drawn} {tk0 : Nat} {os : OsState} {h₀ : Heap} {L : Addr} {m : Str → Option Value} {news : Led} {Q : Value → Shared → Prop}
theorem inDict {d : Addr} {i : Int} {t : Tok} {r : Option Value} (N : News h₀ L gh news) (D : DictAt w news d i r) (h : Q (.bool r.isSome) ⟨gh, gn, dr, tk0 + 1, os⟩) :
    wpAny (model PySem.Challenge.rw_nz0091_01.row.prog w) A (compareOp .In (.int i t) (.ref d)) Q E ⟨gh, gn, dr, tk0, os⟩ := by
  obtain ⟨lo, o, kvs, hm, ho, rfl⟩ := D
  exact wpAny_in_of (intKind_is PySem.Challenge.rw_nz0091_01.row.prog w i t) lo (Heap.dictOf_iff.mpr ⟨o, (N _ hm).1, ho⟩).mapOf h
theorem itemDict {value slice : Expr} {d : Addr} {i : Int} {t : Tok} {v : Value} (N : News h₀ L gh news) (D : DictAt w news d i (some v)) (h : Q v ⟨gh, gn, dr, tk0 + 1, os⟩)
    (hs : subscripted slice false (.ref d) (.int i t) = operate [.ref d, .int i t] (getItem (.ref d) (.int i t)) := by with_unfolding_all rfl) :
    wpAny (model PySem.Challenge.rw_nz0091_01.row.prog w) A (subscriptTail value slice (.ref d) (.int i t)) Q E ⟨gh, gn, dr, tk0, os⟩ := by
  obtain ⟨lo, o, kvs, hm, ho, hv⟩ := D
  have hD := Heap.dictOf_iff.mpr ⟨o, (N _ hm).1, ho⟩
  exact tail_any hD.typeIs slot_dict_getitem.lookup (wpAny_getItem_of (intKind_is PySem.Challenge.rw_nz0091_01.row.prog w i t) hD.mapOf hv h) hs
end
section
variable {prog : Program} {w : World} {A : Around} {E : Value → Shared → Prop} {gh : Heap} {gn : Array GenState} {dr : Drawn} {tk0 : Nat} {os : OsState} {h₀ : Heap} {L : Addr} {m : Str → Option Value} {news : Led} {Q : Value → Shared → Prop}
theorem addP {x y : Str} {t u : Tok} (hn : 0 < tk0) (hsz : x.length + y.length ≤ 16000000) (h : ∀ t' tk, 0 < tk → Q (.str (x ++ y) t') ⟨gh, gn, dr, tk, os⟩) : wpAny (model prog w) A (binaryOp .Add (.str x t) (.str y u)) Q E ⟨gh, gn, dr, tk0, os⟩ :=
  wpAny_pos hn (add_str (fun t' tk hk => h t' tk hk) (Nat.le_trans hsz (by decide)))

noncomputable def glue : List Str → Str
  | [] => Str.empty
  | x :: r => x ++ glue r
theorem glue_append : ∀ a b : List Str, glue (a ++ b) = glue a ++ glue b
  | [], b => by show glue b = Str.empty ++ glue b; rw [Str.empty_append]
  | x :: r, b => by show x ++ glue (r ++ b) = (x ++ glue r) ++ glue b; rw [glue_append r b, Str.append_assoc]
theorem glue_len : ∀ a : List Str, (glue a).length = (a.map (·.length)).sum
  | [] => rfl
  | x :: r => by show (x ++ glue r).length = _; rw [Str.length_append, glue_len r]; rfl
theorem strsAre_of {vs : List Value} {xs : List Str} (h : All2 IsStr vs xs) : StrsAre vs xs := by
  induction h with
  | nil => exact .nil
  | cons h _ ih => obtain ⟨t, rfl⟩ := h; exact .cons _ _ ih
theorem join_glue : ∀ xs : List Str, Str.join (PySem.Str.ofString "") xs = glue xs
  | [] => rfl
  | [x] => by
    show x = x ++ Str.empty
    apply Str.ext'; simp [Str.cps_append, Str.empty]
  | x :: y :: r => by
    show x ++ PySem.Str.ofString "" ++ Str.join (PySem.Str.ofString "") (y :: r) = x ++ glue (y :: r)
    rw [join_glue (y :: r)]
    have e : PySem.Str.ofString "" = Str.empty := rfl
    rw [e]
    apply Str.ext'
    simp [Str.cps_append, Str.empty]
theorem joinS {l : Addr} {vs : List Value} {n : Nat} {xs : List Str} {t : Tok} (N : News h₀ L gh news) (hm : (l, LO vs n) ∈ news) (ha : All2 IsStr vs xs) (hok : (glue xs).length ≤ 16777216) (hn : 0 < tk0)
    (h : ∀ t k, 0 < k → Q (.str (glue xs) t) ⟨gh, gn, dr, k, os⟩) : wpAny (model prog w) A (call (.builtin "str.join") [.str "" t, .ref l]) Q E ⟨gh, gn, dr, tk0, os⟩ := by
  refine wpAny_pos hn (join_list (lo_isList N hm) (strsAre_of ha) ?_ fun t' k hk => ?_)
  · rw [← glue_len]
    have : (PySem.Str.ofString "").length = 0 := by decide
    rw [this]; omega
  · have e : Txt.join (PySem.Str.ofString "") xs = glue xs := by
      rw [← join_glue]; exact StrLaws.glued_eq_join _ _
    rw [e]; exact h t' k hk
end

local macro_rules (kind := PySem.W.tacticKtr_rel) | _x => seq9 [apply9 "DictAt.sub @@", unf9]
local macro_rules (kind := PyProof.Rows.tacticWalk_at_) | x => on9 "compareOp In int ref" x (seq9 [here9, dflt9 (seq9 [refine9 "inDict ?N ?D ?", case9 "N" kasm9, case9 "D" rel9, whole9]), do `(tactic| try dsimp only [Option.isSome])])
local macro_rules (kind := PyProof.Rows.tacticWalk_at_) | x => side9 "subscriptTail" "itemDict" 2 x
local macro_rules (kind := PyProof.Rows.tacticWalk_at_) | x => call9 "binaryOp Add str str" "addP" 2 x
local macro_rules (kind := PyProof.Rows.tacticWalk_at_) | x => call9 "call builtin:str.join" "joinS" 5 x
local macro_rules (kind := PyProof.Rows.tacticWalk_at_) | x => stop9 "exec For" x
local macro_rules (kind := PyProof.Rows.tacticWalk_at_) | x => stop9 "exec For Name Name cons nil" x
local macro_rules (kind := PyProof.Rows.tacticWalk_at_) | x => stop9 "exec For Name Call cons nil" x
local macro_rules (kind := PyProof.Rows.tacticWalk_at_) | x => stop9 "exec For Name Attribute cons nil" x
local macro_rules (kind := PyProof.Rows.tacticWalk_at_) | x => stop9 "exec For Name Subscript cons nil" x
local macro_rules (kind := PyProof.Rows.tacticWalk_at_) | x => stop9 "exec For Tuple Call cons nil" x
local macro_rules (kind := PyProof.Rows.tacticWalk_at_) | x => stop9 "exec While" x
local macro_rules (kind := PyProof.Rows.tacticWalk_at_) | x => stop9 "pyIter ref" x
local macro_rules (kind := PyProof.Rows.tacticWalk_at_) | x => stop9 "pyIter str" x
local macro_rules (kind := PyProof.Rows.tacticWalk_at_) | x => stop9 "eval ListComp" x
local macro_rules (kind := PyProof.Rows.tacticWalk_at_) | x => stop9 "exec Assign cons ListComp" x

noncomputable def Nd.ix (d : Nd) (i : Nat) : Nat := if d.isTem then i + 1 else i
section
variable {w : World} {loose : List Str} {mean : ExcName → Option Value} {mg mb : Str → Option Value} {dp un : Nat} {gd : Option (List Code)} {cn : Str} {cs : Scope} {a : Addr} {ccd : Value} {cl : List (Str × Addr)} {outer : List Env} {A₀ : Around} {base h₀ : Heap} {L : Addr} {m : Str → Option Value} {gh : Heap} {gn : Array GenState} {dr : Drawn} {tk0 : Nat} {os : OsState} {Q E : Value → Shared → Prop} {news : Led}
theorem TreeRep.dictAt {T : TA} {as qs : List Addr} {nds : List Nd} {i : Nat} {d : Nd} (R : TreeRep w news T as qs nds) (hi : nds[i]? = some d) :
    (d.isTem = true ∧ ∃ t, DictAt w news T.ct (i : Int) (some (.int ((i + 1 : Nat) : Int) t))) ∨ (d.isTem = false ∧ DictAt w news T.ct (i : Int) none) := by
  obtain ⟨o, kvs, hm, ho, hc⟩ := R.conts
  cases ht : d.isTem with
  | true => obtain ⟨t, e⟩ := (hc i).1 d hi ht; exact .inl ⟨rfl, t, R.lo, o, kvs, hm, ho, e⟩
  | false => exact .inr ⟨rfl, R.lo, o, kvs, hm, ho, (hc i).2 fun d' hd' => by rw [hi] at hd'; cases hd'; exact ht⟩

theorem written_children_spec {T : TA} {as qs : List Addr} {nds : List Nd} {i : Nat} {d : Nd} {ti : Tok} {q : Addr} (C : Cx w loose mean mg mb outer A₀ base h₀ cs) (F : Fr h₀ L gh m) (N : News h₀ L gh news) (hp : 0 < tk0) (hdp : dp + 2 < recursionLimit) (hun : un + 16 < cLine)
  (R : TreeRep w news T as qs nds) (hi : nds[i]? = some d) (hq : qs[d.ix i]? = some q)
  (hret : ∀ (h' : Heap) (tk' : Nat), 0 < tk' → Fr h₀ L h' m → News h₀ L h' news → Q (.ref q) ⟨h', gn, dr, tk', os⟩) :
  wpAny (model PySem.Challenge.rw_nz0091_01.row.prog w) (ktrTop dp un gd cn cs L a ccd cl outer) (call (.ref 63) [.ref T.t, .int (i : Int) ti]) Q E ⟨gh, gn, dr, tk0, os⟩ := by
  have hql : d.ix i < 2 ^ 62 := Nat.lt_trans (Nat.lt_of_lt_of_le (lt_of_get hq) (R.klen ▸ R.room)) (by decide)
  have hinst := R.inst
  have hdict := R.dict
  obtain ⟨nk, hkids⟩ := R.kids
  have hitem := refAt hkids hq hql
  rcases R.dictAt hi with ⟨ht, tt, hda⟩ | ⟨ht, hda⟩
  · have e : d.ix i = i + 1 := by unfold Nd.ix; rw [ht]; rfl
    rw [e] at hitem
    refine viaF fun hG9 => ?_
    obtain ⟨B, X, TT, hk⟩ := C
    refine hG9 ?_
    refine' enterP (binds := [(PySem.Str.ofString "tree", Value.ref T.t), (PySem.Str.ofString "node", Value.int (i : Int) ti)]) B F X N TT hk hp (by ktr_room) ?ho ?hcd ?hb ?hl rfl ?_ ?c1 ?c2 ?c3 ?c4
    case ho => k_is
    case hcd => k_is
    case hb => first | exact BindsTo.of_eq rfl | exact hb _ _ _ _ (by k_is) | exact binds_K (by k_in) rfl (by k_is) rfl rfl rfl
    case hl => exact locs rfl
    case c1 => rfl
    case c2 => rfl
    case c3 => rfl
    case c4 => decide
    intro g L₁ h₁ tk hp₁ FG mm F₁ N₁ B₁ X₁ T₁ A₁ qk ek
    k_steps
    exact hret _ _ (by assumption) (by k_asm) (by k_asm)
  · have e : d.ix i = i := by unfold Nd.ix; rw [ht]; rfl
    rw [e] at hitem
    refine viaF fun hG9 => ?_
    obtain ⟨B, X, TT, hk⟩ := C
    refine hG9 ?_
    refine' enterP (binds := [(PySem.Str.ofString "tree", Value.ref T.t), (PySem.Str.ofString "node", Value.int (i : Int) ti)]) B F X N TT hk hp (by ktr_room) ?ho ?hcd ?hb ?hl rfl ?_ ?c1 ?c2 ?c3 ?c4
    case ho => k_is
    case hcd => k_is
    case hb => first | exact BindsTo.of_eq rfl | exact hb _ _ _ _ (by k_is) | exact binds_K (by k_in) rfl (by k_is) rfl rfl rfl
    case hl => exact locs rfl
    case c1 => rfl
    case c2 => rfl
    case c3 => rfl
    case c4 => decide
    intro g L₁ h₁ tk hp₁ FG mm F₁ N₁ B₁ X₁ T₁ A₁ qk ek
    k_steps
    exact hret _ _ (by assumption) (by k_asm) (by k_asm)
end

theorem stopCall (n : Addr) {M : Model} {A : Around} {args : List Value} {kws : List (Str × Value)} {Q E : Value → Shared → Prop} {s : Shared} (h : Stop (wpAny M A (call (.ref n) args kws) Q E s)) : wpAny M A (call (.ref n) args kws) Q E s := h

theorem fr_turn {m' m₀ : Str → Option Value} {x : Str} {v : Value} (h : ∀ y, y ≠ x → m' y = m₀ y) : (fun y => if y = x then some v else m' y) = fun y => if y = x then some v else m₀ y := by
  funext y
  by_cases e : y = x
  · simp [e]
  · simp +zetaDelta only [if_neg e]; exact h y e
theorem fr_end {m' m₀ : Str → Option Value} {x : Str} (h : ∀ y, y ≠ x → m' y = m₀ y) : m' = fun y => if y = x then m' y else m₀ y := by
  funext y
  by_cases e : y = x
  · simp [e]
  · simp +zetaDelta only [if_neg e]; exact h y e
noncomputable def attrText (p : Str × Str) : Str := PySem.Str.ofString " " ++ Txt.replace p.1 " " ":" ++ PySem.Str.ofString "=\"" ++ esc true p.2 ++ PySem.Str.ofString "\""
noncomputable def openText (d : Nd) : Str := glue ((PySem.Str.ofString "<" ++ d.name) :: d.attrs.map attrText) ++ PySem.Str.ofString ">"
theorem attrText_len {p : Str × Str} (h1 : p.1.length ≤ 20) (h2 : p.2.length ≤ 6) : (attrText p).length ≤ 60 := by
  have e : PySem.Str.ofString " " = ⟨#[32]⟩ := by decide +kernel
  have h3 := replace_len p.1 (PySem.Str.ofString ":") 32 1 (by decide) (by decide)
  have h4 := esc_len true p.2
  unfold attrText
  simp only [Str.length_append]
  rw [← e] at h3
  exact attrSum h1 h2 h3 h4 (by decide) (by decide) (by decide)
theorem sum_le (f : Str × Str → Nat) (b : Nat) : ∀ l : List (Str × Str), (∀ p ∈ l, f p ≤ b) → (l.map f).sum ≤ b * l.length
  | [], _ => Nat.zero_le _
  | a :: r, h => by
    have h1 := h a (List.mem_cons_self ..)
    have h2 := sum_le f b r fun p hp => h p (List.mem_cons_of_mem _ hp)
    rw [List.map_cons, List.sum_cons, List.length_cons, Nat.mul_succ]; exact sumLe h1 h2
structure NdOk (d : Nd) : Prop where
  name : d.name.length ≤ 20
  text : d.text.length ≤ 6
  many : d.attrs.length ≤ 3
  key : ∀ p ∈ d.attrs, p.1.length ≤ 20
  val : ∀ p ∈ d.attrs, p.2.length ≤ 6
theorem NdOk.glue {d : Nd} (ok : NdOk d) (k : Nat) : (glue ((PySem.Str.ofString "<" ++ d.name) :: (d.attrs.take k).map attrText)).length ≤ 201 := by
  rw [glue_len, List.map_cons, List.sum_cons, Str.length_append, List.map_map]
  have h1 := sum_le (fun p => (attrText p).length) 60 (d.attrs.take k) fun p hp => attrText_len (ok.key p (List.mem_of_mem_take hp)) (ok.val p (List.mem_of_mem_take hp))
  have h2 : (d.attrs.take k).length ≤ 3 := Nat.le_trans (List.length_take_le' ..) ok.many
  have h3 := ok.name
  have h4 : (List.map ((fun x => x.length) ∘ attrText) (d.attrs.take k)).sum = ((d.attrs.take k).map fun p => (attrText p).length).sum := rfl
  exact openSum h1 h2 h3 h4 (by decide)
theorem openText_len {d : Nd} (ok : NdOk d) : (openText d).length ≤ 202 := by
  have h := ok.glue d.attrs.length
  rw [List.take_length] at h
  unfold openText
  rw [Str.length_append]
  size_lits
  omega
inductive OT (d : Nd) (lo : Addr) (news : Led) (m₀ : Str → Option Value) (k : Nat) (m' : Str → Option Value) (nw : Led) : Prop
  | mk (us : List Value) (n : Nat) (h1 : nw = (lo, LO us n) :: news) (h2 : All2 IsStr us (("<" ++ d.name) :: (d.attrs.take k).map attrText)) (h3 : ∀ y, y ≠ ("pair" : Str) → m' y = m₀ y) : OT d lo news m₀ k m' nw
section
variable {w : World} {loose : List Str} {mean : ExcName → Option Value} {mg mb : Str → Option Value} {dp un : Nat} {gd : Option (List Code)} {cn : Str} {cs : Scope} {a : Addr} {ccd : Value} {cl : List (Str × Addr)} {outer : List Env} {A₀ : Around} {base h₀ : Heap} {L : Addr} {m : Str → Option Value} {gh : Heap} {gn : Array GenState} {dr : Drawn} {tk0 : Nat} {os : OsState} {Q E : Value → Shared → Prop} {news : Led}
theorem open_tag_spec {T : TA} {as qs : List Addr} {nds : List Nd} {i : Nat} {d : Nd} {ti : Tok} (C : Cx w loose mean mg mb outer A₀ base h₀ cs) (F : Fr h₀ L gh m) (N : News h₀ L gh news) (hp : 0 < tk0) (hdp : dp + 6 < recursionLimit) (hun : un + 48 < cLine)
  (R : TreeRep w news T as qs nds) (hi : nds[i]? = some d) (ok : NdOk d) (he : d.kind = "element")
  (hret : ∀ (t : Tok) (h' : Heap) (tk' : Nat), 0 < tk' → Fr h₀ L h' m → News h₀ L h' news → Q (.str (openText d) t) ⟨h', gn, dr, tk', os⟩) :
  wpAny (model PySem.Challenge.rw_nz0091_01.row.prog w) (ktrTop dp un gd cn cs L a ccd cl outer) (call (.ref 70) [.ref T.t, .int (i : Int) ti]) Q E ⟨gh, gn, dr, tk0, os⟩ := by
  refine viaF fun hG9 => ?_
  have hinst := R.inst
  have hdict := R.dict
  obtain ⟨_, hname⟩ := R.nameAt hi
  obtain ⟨na, hattrs⟩ := R.attrs
  have hil : i < 2 ^ 62 := Nat.lt_trans (Nat.lt_of_lt_of_le (lt_of_get hi) R.room) (by decide)
  obtain ⟨q, hq⟩ : ∃ q, as[i]? = some q := ⟨as[i]'(R.alen ▸ lt_of_get hi), by simp⟩
  have hitem := refAt hattrs hq hil
  obtain ⟨vs, nv, hvs, hps⟩ := R.attr i d q hi hq he
  have hnl := ok.name
  obtain ⟨B, X, TT, hk⟩ := C
  refine hG9 ?_
  refine' enterP (binds := [(PySem.Str.ofString "tree", Value.ref T.t), (PySem.Str.ofString "node", Value.int (i : Int) ti)]) B F X N TT hk hp (by ktr_room) ?ho ?hcd ?hb ?hl rfl ?_ ?c1 ?c2 ?c3 ?c4
  case ho => k_is
  case hcd => k_is
  case hb => first | exact BindsTo.of_eq rfl | exact hb _ _ _ _ (by k_is) | exact binds_K (by k_in) rfl (by k_is) rfl rfl rfl
  case hl => exact locs rfl
  case c1 => rfl
  case c2 => rfl
  case c3 => rfl
  case c4 => decide
  intro g L₁ h₁ tk hp₁ FG mm F₁ N₁ B₁ X₁ T₁ A₁ qk ek
  k_steps
  unfold Stop
  refine wpAny_For ?_
  k_steps
  unfold Stop
  rename_i tkA hpA t1 k1 hk1 lo h2 lo_lt h3 F3 N3 hp3 tkB hpB
  have hfresh : ∀ p ∈ news, p.1 ≠ lo := fun p hp => Nat.ne_of_lt (lo_lt p hp)
  refine forList (h₀ := g) (vs := vs) (n := nv) (news := (lo, LO [.str ("<" ++ d.name) t1] 0) :: news) rfl rfl rfl F3 N3 (by k_mem) (Nat.succ_pos _)
    (OT d lo news (fun y => if y = ("out" : Str) then some (Value.ref lo) else List.lookup y [(PySem.Str.ofString "tree", Value.ref T.t), (PySem.Str.ofString "node", Value.int (i : Int) ti)].reverse)) ?src ?init ?step ?done
  case src => rintro k m' nw ⟨us, n, rfl, _, _⟩; exact List.mem_cons_of_mem _ hvs
  case init => exact ⟨_, _, rfl, .cons ⟨_, rfl⟩ .nil, fun _ _ => rfl⟩
  case step =>
    rintro k v m' nw h tk I oI hv ⟨us, n', rfl, hus, hm'⟩ hpk F4 N4 off
    rw [fr_turn hm'] at F4
    refine viaF fun hG9 => ?_
    obtain ⟨p, hp, q', t2, t3, n2, rfl, hq'⟩ := hps.getL hv
    have hpm := List.mem_of_getElem? hp
    have hkey := ok.key p hpm
    have hval := ok.val p hpm
    have hesc := esc_len true p.2
    have hne : @Ne Nat I lo := fun e => off _ (List.mem_cons_self ..) e.symm
    have hul : us.length ≤ 5 := by
      have h5 := hus.length
      have h6 := ok.many
      have h7 : (d.attrs.take k).length ≤ d.attrs.length := List.length_take_le' ..
      simp only [List.length_cons, List.length_map] at h5
      exact us5 h5 h6 h7
    refine hG9 ?_
    try dsimp only
    k_steps
    rename Fr _ _ _ _ => F5
    rename News _ _ _ _ => N5
    refine turnS_next F5 N5 (fun r hr => ?_) ⟨_, _, rfl, ?_, fun y hy => if_neg hy⟩
    · rcases List.mem_cons.mp hr with rfl | hr
      · exact fun e => hne e.symm
      · exact off _ (List.mem_cons_of_mem _ hr)
    · rw [List.take_add_one, hp, List.map_append]
      exact hus.snoc ⟨_, rfl⟩
  case done =>
    rintro m' nw h tk ⟨us, n', rfl, hus, hm'⟩ hpk F4 N4
    rw [fr_end hm'] at F4
    intro hpk2
    have hgl := ok.glue vs.length
    try dsimp only
    k_steps
    rename Fr _ _ _ _ => F5
    rename News _ _ _ _ => N5
    refine retS (hret _ _ _ (by assumption) F5 (news_sub N5 (by ktr_unf))) ?_
    unfold openText
    rw [List.take_of_length_le (Nat.le_of_eq hps.length.symm)]
end

local macro_rules (kind := PyProof.Rows.tacticWalk_at_) | x => call9 "call ref" "open_tag_spec" 10 x

noncomputable def kept (nds : List Nd) (p : Int) (flag : Bool) : Bool := if p = -1 then false else match nds[p.toNat]? with
  | some e => e.space == "html" && (raws.any (· == e.name) || (flag && e.name == "noscript"))
  | none => false
noncomputable def ParOk (nds : List Nd) (p : Int) : Prop := p = -1 ∨ ∃ (j : Nat) (e : Nd), p = (j : Int) ∧ nds[j]? = some e
theorem kept_at {nds : List Nd} {j : Nat} {e : Nd} {flag : Bool} (hj : nds[j]? = some e) : kept nds (j : Int) flag = (e.space == "html" && (raws.any (· == e.name) || (flag && e.name == "noscript"))) := by
  unfold kept
  rw [if_neg (by omega), Int.toNat_natCast, hj]
section
variable {nds : List Nd} {j : Nat} {e : Nd} {flag : Bool}
theorem kept1 (hj : nds[j]? = some e) (h : (e.space != "html") = true) : false = kept nds (j : Int) flag := by
  have h' : (e.space == "html") = false := by simpa [bne] using h
  rw [kept_at hj, h']; rfl
theorem kept2 (hj : nds[j]? = some e) (h : (e.space != "html") = false) (h2 : raws.any (· == e.name) = true) : raws.any (· == e.name) = kept nds (j : Int) flag := by
  have h' : (e.space == "html") = true := by simpa [bne] using h
  rw [kept_at hj, h', h2]; rfl
theorem kept3 (hj : nds[j]? = some e) (h : (e.space != "html") = false) (h2 : raws.any (· == e.name) = false) (h3 : flag = true) : (e.name == "noscript") = kept nds (j : Int) flag := by
  have h' : (e.space == "html") = true := by simpa [bne] using h
  rw [kept_at hj, h', h2, h3]; rfl
theorem kept4 (hj : nds[j]? = some e) (h : (e.space != "html") = false) (h2 : raws.any (· == e.name) = false) (h3 : flag = false) : flag = kept nds (j : Int) flag := by
  have h' : (e.space == "html") = true := by simpa [bne] using h
  rw [kept_at hj, h', h2, h3]; rfl
end
section
variable {w : World} {loose : List Str} {mean : ExcName → Option Value} {mg mb : Str → Option Value} {dp un : Nat} {gd : Option (List Code)} {cn : Str} {cs : Scope} {a : Addr} {ccd : Value} {cl : List (Str × Addr)} {outer : List Env} {A₀ : Around} {base h₀ : Heap} {L : Addr} {m : Str → Option Value} {gh : Heap} {gn : Array GenState} {dr : Drawn} {tk0 : Nat} {os : OsState} {Q E : Value → Shared → Prop} {news : Led}
theorem is_kept_text_spec {T : TA} {as qs : List Addr} {nds : List Nd} {p : Int} {flag : Bool} {ti : Tok} (C : Cx w loose mean mg mb outer A₀ base h₀ cs) (F : Fr h₀ L gh m) (N : News h₀ L gh news) (hp : 0 < tk0) (hdp : dp + 4 < recursionLimit) (hun : un + 32 < cLine)
  (R : TreeRep w news T as qs nds) (hpar : ParOk nds p)
  (hret : ∀ (h' : Heap) (tk' : Nat), 0 < tk' → Fr h₀ L h' m → News h₀ L h' news → Q (.bool (kept nds p flag)) ⟨h', gn, dr, tk', os⟩) :
  wpAny (model PySem.Challenge.rw_nz0091_01.row.prog w) (ktrTop dp un gd cn cs L a ccd cl outer) (call (.ref 77) [.ref T.t, .int p ti, .bool flag]) Q E ⟨gh, gn, dr, tk0, os⟩ := by
  have hinst := R.inst
  have hdict := R.dict
  rcases hpar with rfl | ⟨j, e, rfl, hj⟩
  · refine viaF fun hG9 => ?_
    obtain ⟨B, X, TT, hk⟩ := C
    refine hG9 ?_
    refine' enterP (binds := [(PySem.Str.ofString "tree", Value.ref T.t), (PySem.Str.ofString "parent", Value.int (-1) ti), (PySem.Str.ofString "is_scripting", Value.bool flag)]) B F X N TT hk hp (by ktr_room) ?ho ?hcd ?hb ?hl rfl ?_ ?c1 ?c2 ?c3 ?c4
    case ho => k_is
    case hcd => k_is
    case hb => first | exact BindsTo.of_eq rfl | exact hb _ _ _ _ (by k_is) | exact binds_K (by k_in) rfl (by k_is) rfl rfl rfl
    case hl => exact locs rfl
    case c1 => rfl
    case c2 => rfl
    case c3 => rfl
    case c4 => decide
    intro g L₁ h₁ tk hp₁ FG mm F₁ N₁ B₁ X₁ T₁ A₁ qk ek
    k_steps
    exact hret _ _ (by assumption) (by k_asm) (by k_asm)
  · refine viaF fun hG9 => ?_
    obtain ⟨_, hname⟩ := R.nameAt hj
    obtain ⟨_, hspace⟩ := R.spaceAt hj
    obtain ⟨B, X, TT, hk⟩ := C
    refine hG9 ?_
    refine' enterP (binds := [(PySem.Str.ofString "tree", Value.ref T.t), (PySem.Str.ofString "parent", Value.int (j : Int) ti), (PySem.Str.ofString "is_scripting", Value.bool flag)]) B F X N TT hk hp (by ktr_room) ?ho ?hcd ?hb ?hl rfl ?_ ?c1 ?c2 ?c3 ?c4
    case ho => k_is
    case hcd => k_is
    case hb => first | exact BindsTo.of_eq rfl | exact hb _ _ _ _ (by k_is) | exact binds_K (by k_in) rfl (by k_is) rfl rfl rfl
    case hl => exact locs rfl
    case c1 => rfl
    case c2 => rfl
    case c3 => rfl
    case c4 => decide
    intro g L₁ h₁ tk hp₁ FG mm F₁ N₁ B₁ X₁ T₁ A₁ qk ek
    k_steps
    · omega
    all_goals exact retB (hret _ _ (by assumption) (by k_asm) (news_sub (by assumption) (by ktr_unf))) (by first | exact kept1 hj (by assumption) | exact kept2 hj (by assumption) (by assumption) | exact kept3 hj (by assumption) (by assumption) (by assumption) | exact kept4 hj (by assumption) (by assumption) (by assumption))
end

local macro_rules (kind := PyProof.Rows.tacticWalk_at_) | x => call9 "call ref" "is_kept_text_spec" 8 x

noncomputable def leafText (nds : List Nd) (flag : Bool) (d : Nd) : Str :=
  if (d.kind == "comment") = true then PySem.Str.ofString "<!--" ++ d.text ++ PySem.Str.ofString "-->" else if (d.kind == "doctype") = true then PySem.Str.ofString "<!DOCTYPE " ++ d.name ++ PySem.Str.ofString ">"
  else if kept nds d.parent flag = true then d.text else esc false d.text
section
variable {nds : List Nd} {flag : Bool} {d : Nd}
theorem leaf1 (h : (d.kind == "comment") = true) : PySem.Str.ofString "<!--" ++ d.text ++ PySem.Str.ofString "-->" = leafText nds flag d := by
  unfold leafText; rw [if_pos h]
theorem leaf2 (h : (d.kind == "comment") = false) (h2 : (d.kind == "doctype") = true) : PySem.Str.ofString "<!DOCTYPE " ++ d.name ++ PySem.Str.ofString ">" = leafText nds flag d := by
  unfold leafText; rw [if_neg (by rw [h]; exact Bool.false_ne_true), if_pos h2]
theorem leaf3 (h : (d.kind == "comment") = false) (h2 : (d.kind == "doctype") = false) (h3 : kept nds d.parent flag = true) : d.text = leafText nds flag d := by
  unfold leafText; rw [if_neg (by rw [h]; exact Bool.false_ne_true), if_neg (by rw [h2]; exact Bool.false_ne_true), if_pos h3]
theorem leaf4 (h : (d.kind == "comment") = false) (h2 : (d.kind == "doctype") = false) (h3 : kept nds d.parent flag = false) : esc false d.text = leafText nds flag d := by
  unfold leafText; rw [if_neg (by rw [h]; exact Bool.false_ne_true), if_neg (by rw [h2]; exact Bool.false_ne_true), if_neg (by rw [h3]; exact Bool.false_ne_true)]
theorem leafText_len (ok : NdOk d) : (leafText nds flag d).length ≤ 60 := by
  have h1 := ok.name
  have h2 := ok.text
  have h3 := esc_len false d.text
  unfold leafText
  repeat' split
  all_goals ((try simp only [Str.length_append]); (try size_lits); omega)
end
section
variable {w : World} {loose : List Str} {mean : ExcName → Option Value} {mg mb : Str → Option Value} {dp un : Nat} {gd : Option (List Code)} {cn : Str} {cs : Scope} {a : Addr} {ccd : Value} {cl : List (Str × Addr)} {outer : List Env} {A₀ : Around} {base h₀ : Heap} {L : Addr} {m : Str → Option Value} {gh : Heap} {gn : Array GenState} {dr : Drawn} {tk0 : Nat} {os : OsState} {Q E : Value → Shared → Prop} {news : Led}
theorem leaf_spec {T : TA} {as qs : List Addr} {nds : List Nd} {i : Nat} {d : Nd} {flag : Bool} {ti : Tok} (C : Cx w loose mean mg mb outer A₀ base h₀ cs) (F : Fr h₀ L gh m) (N : News h₀ L gh news) (hp : 0 < tk0) (hdp : dp + 6 < recursionLimit) (hun : un + 48 < cLine)
  (R : TreeRep w news T as qs nds) (hi : nds[i]? = some d) (ok : NdOk d) (hpar : ParOk nds d.parent)
  (hret : ∀ (t : Tok) (h' : Heap) (tk' : Nat), 0 < tk' → Fr h₀ L h' m → News h₀ L h' news → Q (.str (leafText nds flag d) t) ⟨h', gn, dr, tk', os⟩) :
  wpAny (model PySem.Challenge.rw_nz0091_01.row.prog w) (ktrTop dp un gd cn cs L a ccd cl outer) (call (.ref 84) [.ref T.t, .int (i : Int) ti, .bool flag]) Q E ⟨gh, gn, dr, tk0, os⟩ := by
  refine viaF fun hG9 => ?_
  have hinst := R.inst
  have hdict := R.dict
  obtain ⟨_, hname⟩ := R.nameAt hi
  obtain ⟨_, hkind⟩ := R.kindAt hi
  obtain ⟨_, htext⟩ := R.textAt hi
  obtain ⟨_, hparent⟩ := R.parentAt hi
  have hnl := ok.name
  have htl := ok.text
  obtain ⟨B, X, TT, hk⟩ := C
  refine hG9 ?_
  refine' enterP (binds := [(PySem.Str.ofString "tree", Value.ref T.t), (PySem.Str.ofString "node", Value.int (i : Int) ti), (PySem.Str.ofString "is_scripting", Value.bool flag)]) B F X N TT hk hp (by ktr_room) ?ho ?hcd ?hb ?hl rfl ?_ ?c1 ?c2 ?c3 ?c4
  case ho => k_is
  case hcd => k_is
  case hb => first | exact BindsTo.of_eq rfl | exact hb _ _ _ _ (by k_is) | exact binds_K (by k_in) rfl (by k_is) rfl rfl rfl
  case hl => exact locs rfl
  case c1 => rfl
  case c2 => rfl
  case c3 => rfl
  case c4 => decide
  intro g L₁ h₁ tk hp₁ FG mm F₁ N₁ B₁ X₁ T₁ A₁ qk ek
  k_steps
  all_goals exact retS (hret _ _ _ (by assumption) (by k_asm) (news_sub (by assumption) (by ktr_unf))) (by first | exact leaf1 (by assumption) | exact leaf2 (by assumption) (by assumption) | exact leaf3 (by assumption) (by assumption) (by assumption) | exact leaf4 (by assumption) (by assumption) (by assumption))
end

local macro_rules (kind := PyProof.Rows.tacticWalk_at_) | x => call9 "call ref" "leaf_spec" 10 x

section
variable {prog : Program} {w : World} {A : Around} {E : Value → Shared → Prop} {gh : Heap} {gn : Array GenState} {dr : Drawn} {tk0 : Nat} {os : OsState} {h₀ : Heap} {L D : Addr} {m : Str → Option Value} {news news' : Led} {n : Nat}
theorem sliceS {value slice : Expr} {vl vu vk : Value} {lo hi st : Option Int} {l : Addr} {vs zs : List Value} {ops : List Value} {Q : Value → Shared → Prop} (F : Fr h₀ L gh m) (N : News h₀ L gh news) (hm : (l, LO vs n) ∈ news)
    (pl : IsPart vl lo) (pu : IsPart vu hi) (pk : IsPart vk st) (h0 : st ≠ some 0) (e : slicePick vs.toArray lo hi st = zs.toArray) (hsz : vs.length ≤ 1000000)
    (h : ∀ D h', Fr h₀ L h' m → News h₀ L h' ((D, LO zs 0) :: news) → (∀ p ∈ news, p.1 < D) → Q (.ref D) ⟨h', gn, dr, tk0, os⟩)
    (hs : subscripted slice false (.ref l) (.ref gh.objs.size) = operate ops (getItem (.ref l) (.ref gh.objs.size))) :
    wpAny (model prog w) A (subscriptTail value slice (.ref l) (.ref gh.objs.size)) Q E ⟨gh.push { cls := .type "slice", data := .fields #[vl, vu, vk] }, gn, dr, tk0, os⟩ := by
  have hl := lo_isList N hm
  refine tail_any ((hl.push _).typeIs) slot_list_getitem.lookup (wpAny_getItem_list_slice (hl.push _) (Heap.IsSliceOf.new ..) pl pu pk h0 ?_ (by rw [List.size_toArray]; exact Nat.le_trans hsz (by decide))) hs
  rw [e]
  have hz : (gh.push { cls := .type "slice", data := .fields #[vl, vu, vk] }).objs.size = gh.objs.size + 1 := Heap.size_push ..
  have N1 := (N.push F { cls := .type "slice", data := .fields #[vl, vu, vk] })
  refine h _ _ ((F.push _).push _) (fun p hp => ?_) fun p hp => ?_
  · rcases List.mem_cons.mp hp with rfl | hp
    · have := (News.push (F.push _) N1 { cls := .type "list", data := .seq zs.toArray }) _ (List.mem_cons_self ..)
      exact this
    · exact (News.push (F.push _) N1 { cls := .type "list", data := .seq zs.toArray }) _ (List.mem_cons_of_mem _ (List.mem_cons_of_mem _ hp))
  · show p.1 < (gh.push _).objs.size
    rw [hz]; exact Nat.lt_succ_of_lt (Heap.lt_size (N p hp).1)
theorem revPick (vs : List Value) : slicePick vs.toArray none none (some (-1)) = vs.reverse.toArray := krv_pick vs.toArray
theorem truthyS {l : Addr} {vs : List Value} {Q : Bool → Shared → Prop} (N : News h₀ L gh news) (hm : (l, LO vs n) ∈ news) (hsz : vs.length ≤ 1000000) (h : Q (!vs.isEmpty) ⟨gh, gn, dr, tk0 + 1 + 1, os⟩) :
    wpAny (model prog w) A (truthy (.ref l)) Q E ⟨gh, gn, dr, tk0, os⟩ :=
  wpAny_truthy_list (lo_isList N hm) (by rw [List.size_toArray]; omega) (by simpa using h)
theorem lenS {l : Addr} {vs : List Value} {Q : Value → Shared → Prop} (N : News h₀ L gh news) (hm : (l, LO vs n) ∈ news) (hsz : vs.length ≤ 1000000) (h : Q (.int (vs.length : Int) (tk0 + 1)) ⟨gh, gn, dr, tk0 + 1 + 1, os⟩) :
    wpAny (model prog w) A (call (.builtin "len") [.ref l]) Q E ⟨gh, gn, dr, tk0, os⟩ :=
  len_list (lo_isList N hm) (by rw [List.size_toArray]; omega) (by simpa using h)
theorem popU {vs : List Value} {y : Value} {Q : Value → Shared → Prop} (F : Fr h₀ L gh m) (N : News h₀ L gh news) (U : Upd D (LO (vs ++ [y]) n) (LO vs (n + 1)) news news') (hsz : vs.length ≤ 1000000)
    (h : ∀ h', Fr h₀ L h' m → News h₀ L h' news' → Q y ⟨h', gn, dr, tk0, os⟩) : wpAny (model prog w) A (call (.builtin "list.pop") [.ref D]) Q E ⟨gh, gn, dr, tk0, os⟩ :=
  kl_pop F N (p := vs) (y := y) (by rw [List.toList_toArray]; exact kpa_last y vs) U (by rw [List.toList_toArray, List.length_append]; exact Nat.le_trans (Nat.add_le_add_right hsz 1) (by decide)) h
theorem unpack2 {env : Env} {x y : Str} {px py : Pos} {k : Nat} {pos : Pos} {q : Addr} {v u : Value} {Q : Unit → Shared → Prop} (hh : A.handled = none) (F : Fr h₀ env.locals gh m) (N : News h₀ env.locals gh news) (hm : (q, TO [v, u] n) ∈ news)
    (hx : env.kindOf x = some .local) (hy : env.kindOf y = some .local) (hp : (env.scope.kind == .class || (env.scope.kind == .module && env.locals != env.globals)) = false)
    (h : ∀ h', Fr h₀ env.locals h' (fun z => if z = y then some u else if z = x then some v else m z) → News h₀ env.locals h' news → Q () ⟨h', gn, dr, tk0 + 1 + 1, os⟩) :
    wpAny (model prog w) A (assign (.Tuple [.Name x px, .Name y py] k pos) env (.ref q)) Q E ⟨gh, gn, dr, tk0, os⟩ := by
  refine assign_Tuple_tuple hh (to_isTup N hm) rfl rfl fun h₁ he => ?_
  have F₁ := F.extBut he (Nat.le_refl _)
  have N₁ := N.extBut he (Nat.le_refl _)
  refine assignInOrder_cons (wpAny_assign_Name (wpAny_storeName_local hx F₁.ns (fun h₂ hn₂ hs₂ => ?_) hp))
  have F₂ := F₁.set hn₂ hs₂
  refine assignInOrder_cons (wpAny_assign_Name (wpAny_storeName_local hy F₂.ns (fun h₃ hn₃ hs₃ => ?_) hp))
  exact assignInOrder_nil (h h₃ (F₂.set hn₃ hs₃) ((N₁.set hs₂).set hs₃))
theorem compI {s : Shared} {elt : Expr} {x : Str} {scope : Scope} {cl : List (Str × Addr)} {env : Env} {S : Led → Prop} {P : Nat → Value → Prop} {Fin : List Value → Led → Prop} {k : Nat} (J : Nat → List Value → Led → Prop)
    (turn : ∀ i v ys nw I oI C oC D m₂ h tk (E' : Value → Shared → Prop), i < k → P i v → J i ys nw → LCg.NsObj oC m₂ → m₂ x = some v → Fr h₀ L h m → News h₀ L h ((I, oI) :: (C, oC) :: (D, LCg.lst ys) :: nw) → LCg.Off3 I C D nw → ((@Ne Nat I C) ∧ (@Ne Nat I D) ∧ (@Ne Nat C D)) →
      wpAny (model prog w) A (eval elt (compEnvC scope cl C env)) (LCg.CompEnd h₀ L m { s with heap := h, toks := tk } I oI C oC D (LCg.lst ys) S (fun y nw' => J (i + 1) (ys ++ [y]) nw')) E' { s with heap := h, toks := tk })
    (fin : ∀ ys nw, J k ys nw → Fin ys nw) {nw : Led} (h0 : J 0 [] nw) : LCg.CompRest prog w A h₀ L m env elt x scope cl s S P Fin k 0 [] nw := by
  have key : ∀ (j i : Nat) (ys : List Value) (nw : Led), i + j = k → J i ys nw → LCg.CompRest prog w A h₀ L m env elt x scope cl s S P Fin j i ys nw := by
    intro j
    induction j with
    | zero => intro i ys nw hi hj; have e : i = k := by omega
              subst e; exact LCg.CompRest.zero (fin ys nw hj)
    | succ j ih =>
      intro i ys nw hi hj
      refine LCg.CompRest.succ fun v I oI C oC D m₂ h tk E' hv hC hx F N off ne => ?_
      refine wpAny_mono (turn i v ys nw I oI C oC D m₂ h tk E' (by omega) hv hj hC hx F N off ne) (fun y s₂ hq => ?_) fun _ _ e => e
      obtain ⟨h', tk', nw', e, F', N', off', hS, hj'⟩ := hq
      exact ⟨h', tk', nw', e, F', N', off', hS, ih (i + 1) _ _ (by omega) hj'⟩
  exact key k 0 [] nw (by omega) h0
end

local macro_rules (kind := PyProof.Rows.tacticWalk_at_) | x => side9 "truthy ref" "truthyS" 3 x
local macro_rules (kind := PyProof.Rows.tacticWalk_at_) | x => side9 "call builtin:len" "lenS" 3 x
local macro_rules (kind := PyProof.Rows.tacticWalk_at_) | x => call9 "call builtin:list.pop" "popU" 4 x
local macro_rules (kind := PyProof.Rows.tacticWalk_at_) | x => call9 "assign Tuple" "unpack2" 7 x
local macro_rules (kind := PyProof.Rows.tacticWalk_at_) | x => on9 "subscriptTail" x (seq9 [here9, show9 "wpAny _ _ ( subscriptTail _ ( PySem.Expr.Slice none none ( some _ ) _ ) ( Value.ref _ ) ( Value.ref _ ) ) _ _ _", slice9 "sliceS ?F ?N ?m IsPart.none IsPart.none ?k ! ( revPick _ ) ?z ? ?s"])

noncomputable def kidsOf (nds : List Nd) (d : Nd) (i : Nat) : List Nat := match nds[d.ix i]? with
  | some e => e.under
  | none => []
noncomputable def endText (d : Nd) : Str := PySem.Str.ofString "</" ++ d.name ++ PySem.Str.ofString ">"
noncomputable def rendF (nds : List Nd) (flag : Bool) : Nat → Nat → Str
  | 0, _ => Str.empty
  | f + 1, i => match nds[i]? with
    | none => Str.empty
    | some d => if (d.kind == "element") = true then openText d ++ (if d.endless = true then Str.empty else glue ((kidsOf nds d i).map (rendF nds flag f)) ++ endText d) else leafText nds flag d
noncomputable def sizeF (nds : List Nd) : Nat → Nat → Nat
  | 0, _ => 1
  | f + 1, i => match nds[i]? with
    | none => 1
    | some d => if (d.kind == "element") = true then (if d.endless = true then 1 else 2 + ((kidsOf nds d i).map (sizeF nds f)).sum) else 1
noncomputable def rend (nds : List Nd) (flag : Bool) (i : Nat) : Str := rendF nds flag nds.length i
noncomputable def tsize (nds : List Nd) (i : Nat) : Nat := sizeF nds nds.length i
noncomputable def Up (nds : List Nd) : Prop := ∀ i d, nds[i]? = some d → ∀ c ∈ d.under, i < c ∧ c < nds.length
section
variable {nds : List Nd} {flag : Bool}
theorem ix_ge (d : Nd) (i : Nat) : i ≤ d.ix i := by unfold Nd.ix; split <;> omega
theorem Up.kid (U : Up nds) {i : Nat} {d : Nd} {c : Nat} (h : c ∈ kidsOf nds d i) : d.ix i < c ∧ c < nds.length := by
  unfold kidsOf at h
  split at h
  · rename_i e he; exact U _ _ he c h
  · simp at h
theorem rendF_fuel (U : Up nds) : ∀ (f f' i : Nat), nds.length ≤ f + i → nds.length ≤ f' + i → rendF nds flag f i = rendF nds flag f' i
  | 0, 0, _, _, _ => rfl
  | 0, f' + 1, i, h, _ => by
    have e : nds[i]? = none := List.getElem?_eq_none (by omega)
    simp only [rendF, e]
  | f + 1, 0, i, _, h => by
    have e : nds[i]? = none := List.getElem?_eq_none (by omega)
    simp only [rendF, e]
  | f + 1, f' + 1, i, h, h' => by
    simp only [rendF]
    split
    · rfl
    · rename_i d hd
      have e : (kidsOf nds d i).map (rendF nds flag f) = (kidsOf nds d i).map (rendF nds flag f') := by
        apply List.map_congr_left
        intro c hc
        have h1 := U.kid hc
        have h2 := ix_ge d i
        exact rendF_fuel U f f' c (fuel h h1.1 h2) (fuel h' h1.1 h2)
      rw [e]
theorem sizeF_fuel (U : Up nds) : ∀ (f f' i : Nat), nds.length ≤ f + i → nds.length ≤ f' + i → sizeF nds f i = sizeF nds f' i
  | 0, 0, _, _, _ => rfl
  | 0, f' + 1, i, h, _ => by
    have e : nds[i]? = none := List.getElem?_eq_none (by omega)
    simp only [sizeF, e]
  | f + 1, 0, i, _, h => by
    have e : nds[i]? = none := List.getElem?_eq_none (by omega)
    simp only [sizeF, e]
  | f + 1, f' + 1, i, h, h' => by
    simp only [sizeF]
    split
    · rfl
    · rename_i d hd
      have e : (kidsOf nds d i).map (sizeF nds f) = (kidsOf nds d i).map (sizeF nds f') := by
        apply List.map_congr_left
        intro c hc
        have h1 := U.kid hc
        have h2 := ix_ge d i
        exact sizeF_fuel U f f' c (fuel h h1.1 h2) (fuel h' h1.1 h2)
      rw [e]
theorem rend_eq (U : Up nds) {i : Nat} {d : Nd} (hd : nds[i]? = some d) : rend nds flag i =
    if (d.kind == "element") = true then openText d ++ (if d.endless = true then Str.empty else glue ((kidsOf nds d i).map (rend nds flag)) ++ endText d) else leafText nds flag d := by
  have hl := lt_of_get hd
  obtain ⟨n, hn⟩ : ∃ n, nds.length = n + 1 := ⟨nds.length - 1, (Nat.sub_add_cancel (Nat.lt_of_le_of_lt (Nat.zero_le _) hl)).symm⟩
  have e : (kidsOf nds d i).map (rendF nds flag n) = (kidsOf nds d i).map (rend nds flag) := by
    apply List.map_congr_left
    intro c hc
    have h1 := U.kid hc
    have h2 := ix_ge d i
    exact rendF_fuel U n nds.length c (fuel1 hn h1.1) (Nat.le_add_right _ _)
  rw [← e]
  show rendF nds flag nds.length i = _
  rw [hn]
  simp only [rendF, hd]
theorem tsize_eq (U : Up nds) {i : Nat} {d : Nd} (hd : nds[i]? = some d) : tsize nds i =
    if (d.kind == "element") = true then (if d.endless = true then 1 else 2 + ((kidsOf nds d i).map (tsize nds)).sum) else 1 := by
  have hl := lt_of_get hd
  obtain ⟨n, hn⟩ : ∃ n, nds.length = n + 1 := ⟨nds.length - 1, (Nat.sub_add_cancel (Nat.lt_of_le_of_lt (Nat.zero_le _) hl)).symm⟩
  have e : (kidsOf nds d i).map (sizeF nds n) = (kidsOf nds d i).map (tsize nds) := by
    apply List.map_congr_left
    intro c hc
    have h1 := U.kid hc
    have h2 := ix_ge d i
    exact sizeF_fuel U n nds.length c (fuel1 hn h1.1) (Nat.le_add_right _ _)
  rw [← e]
  show sizeF nds nds.length i = _
  rw [hn]
  simp only [sizeF, hd]
theorem sizeF_pos : ∀ f i, 1 ≤ sizeF nds f i
  | 0, _ => Nat.le_refl _
  | f + 1, i => by
    simp only [sizeF]
    repeat' split
    all_goals omega
noncomputable def edges (nds : List Nd) (i : Nat) : Nat := ((nds.drop i).map fun d => d.under.length).sum
theorem edges_succ {i : Nat} {d : Nd} (hd : nds[i]? = some d) : edges nds i = d.under.length + edges nds (i + 1) := by
  unfold edges
  have hl := lt_of_get hd
  rw [List.drop_eq_getElem_cons hl]
  have e : nds[i] = d := by have := List.getElem?_eq_getElem hl; rw [hd] at this; exact (Option.some.inj this).symm
  rw [e]; rfl
theorem edges_le {i j : Nat} (h : i ≤ j) : edges nds j ≤ edges nds i := by
  obtain ⟨k, rfl⟩ : ∃ k, j = i + k := ⟨j - i, (Nat.add_sub_cancel' h).symm⟩
  clear h
  induction k with
  | zero => exact Nat.le_refl _
  | succ k ih =>
    refine Nat.le_trans ?_ ih
    cases hd : nds[i + k]? with
    | none =>
      have : nds.length ≤ i + k := List.getElem?_eq_none_iff.mp hd
      unfold edges
      rw [List.drop_eq_nil_of_le (by omega)]; exact Nat.zero_le _
    | some d => rw [edges_succ hd, ← Nat.add_assoc]; omega
theorem sum_le' (f : Nat → Nat) (b : Nat) : ∀ l : List Nat, (∀ p ∈ l, f p ≤ b) → (l.map f).sum ≤ l.length * b
  | [], _ => Nat.zero_le _
  | a :: r, h => by
    have h1 := h a (List.mem_cons_self ..)
    have h2 := sum_le' f b r fun p hp => h p (List.mem_cons_of_mem _ hp)
    rw [List.map_cons, List.sum_cons, List.length_cons, Nat.succ_mul]; exact sumLe' h1 h2
theorem pow_step (k X : Nat) (hX : 1 ≤ X) : 2 + k * (2 * X) ≤ 2 * (2 ^ k * X) := by
  induction k with
  | zero => simp; omega
  | succ k ih =>
    have e : 2 ^ (k + 1) * X = 2 * (2 ^ k * X) := by rw [Nat.pow_succ, Nat.mul_comm (2 ^ k) 2, Nat.mul_assoc]
    have h1 : X ≤ 2 ^ k * X := Nat.le_mul_of_pos_left X (Nat.pow_pos (by decide))
    rw [e, Nat.succ_mul]
    omega
theorem sizeF_le (U : Up nds) : ∀ f i, sizeF nds f i ≤ 2 * 2 ^ edges nds i
  | 0, i => by
    have := Nat.one_le_two_pow (n := edges nds i)
    simp only [sizeF]; omega
  | f + 1, i => by
    have h1 := Nat.one_le_two_pow (n := edges nds i)
    simp only [sizeF]
    split
    · omega
    · rename_i d hd
      split
      · split
        · omega
        · cases he : nds[d.ix i]? with
          | none =>
            have e : kidsOf nds d i = [] := by unfold kidsOf; rw [he]
            rw [e]; simp only [List.map_nil, List.sum_nil]; omega
          | some e =>
            have hk : kidsOf nds d i = e.under := by unfold kidsOf; rw [he]
            have h2 : ((kidsOf nds d i).map (sizeF nds f)).sum ≤ (kidsOf nds d i).length * (2 * 2 ^ edges nds (d.ix i + 1)) := by
              refine sum_le' _ _ _ fun c hc => Nat.le_trans (sizeF_le U f c) ?_
              have h3 := (U.kid hc).1
              exact Nat.mul_le_mul_left _ (Nat.pow_le_pow_right (by decide) (edges_le h3))
            rw [hk] at h2 ⊢
            have h4 := pow_step e.under.length (2 ^ edges nds (d.ix i + 1)) (Nat.one_le_two_pow)
            have h5 := edges_succ he
            have h6 := edges_le (nds := nds) (ix_ge d i)
            have h7 : 2 ^ e.under.length * 2 ^ edges nds (d.ix i + 1) = 2 ^ edges nds (d.ix i) := by rw [h5, Nat.pow_add]
            have h8 : 2 ^ edges nds (d.ix i) ≤ 2 ^ edges nds i := Nat.pow_le_pow_right (by decide) h6
            rw [h7] at h4
            exact pow7 h2 h4 h8
      · omega
theorem tsize_pos (i : Nat) : 1 ≤ tsize nds i := sizeF_pos _ i
theorem tsize_le (U : Up nds) (he : edges nds 0 ≤ 15) (i : Nat) : tsize nds i ≤ 65536 := by
  refine Nat.le_trans (sizeF_le U _ i) ?_
  have : 2 ^ edges nds i ≤ 2 ^ 15 := Nat.pow_le_pow_right (by decide) (Nat.le_trans (edges_le (Nat.zero_le _)) he)
  omega
theorem glue_map_len (f : Nat → Str) (g : Nat → Nat) (b : Nat) : ∀ l : List Nat, (∀ c ∈ l, (f c).length ≤ b * g c) → (glue (l.map f)).length ≤ b * (l.map g).sum
  | [], _ => Nat.zero_le _
  | a :: r, h => by
    have h1 := h a (List.mem_cons_self ..)
    have h2 := glue_map_len f g b r fun p hp => h p (List.mem_cons_of_mem _ hp)
    show (f a ++ glue (r.map f)).length ≤ b * (g a + (r.map g).sum)
    rw [Str.length_append, Nat.mul_add]; omega
theorem endText_len {d : Nd} (ok : NdOk d) : (endText d).length ≤ 23 := by
  have := ok.name
  unfold endText
  simp only [Str.length_append]
  size_lits; omega
theorem rendF_len (ok : ∀ (i : Nat) (d : Nd), nds[i]? = some d → NdOk d) : ∀ f i, (rendF nds flag f i).length ≤ 202 * sizeF nds f i
  | 0, i => Nat.zero_le _
  | f + 1, i => by
    simp only [rendF, sizeF]
    split
    · exact Nat.zero_le _
    · rename_i d hd
      have h1 := openText_len (ok i d hd)
      split
      · split
        · rw [Str.length_append]; have : Str.empty.length = 0 := rfl
          exact Nat.le_trans h1 (by decide)
        · have h2 := glue_map_len (rendF nds flag f) (sizeF nds f) 202 (kidsOf nds d i) fun c _ => rendF_len ok f c
          have h3 := endText_len (ok i d hd)
          rw [Str.length_append, Str.length_append]
          exact rl h1 h2 h3
      · have := leafText_len (nds := nds) (flag := flag) (ok i d hd)
        exact Nat.le_trans this (by decide)
theorem rend_len (ok : ∀ (i : Nat) (d : Nd), nds[i]? = some d → NdOk d) (i : Nat) : (rend nds flag i).length ≤ 202 * tsize nds i := rendF_len ok _ i
end

theorem All2.snoc_inv {α β : Type} {R : α → β → Prop} {l : List α} {r : List β} {b : β} (h : All2 R l (r ++ [b])) : ∃ l' a, l = l' ++ [a] ∧ All2 R l' r ∧ R a b := by
  induction r generalizing l with
  | nil =>
    cases h with
    | cons h t => cases t; exact ⟨[], _, rfl, .nil, h⟩
  | cons c r ih =>
    cases h with
    | cons h t => obtain ⟨l', a, rfl, h1, h2⟩ := ih t; exact ⟨_ :: l', a, rfl, .cons h h1, h2⟩
theorem All2.nil_inv {α β : Type} {R : α → β → Prop} {l : List α} (h : All2 R l []) : l = [] := by cases h; rfl
/-- an entry of the stack of work -/
noncomputable def WAt (led : Led) (v : Value) (p : Int × Str) : Prop := ∃ q t₁ t₂ c, v = .ref q ∧ (q, TO [.int p.1 t₁, .str p.2 t₂] c) ∈ led
theorem WAt.sub {led led' : Led} {v : Value} {p : Int × Str} (h : WAt led v p) (hs : Sub led led') : WAt led' v p := let ⟨q, t₁, t₂, c, e, h⟩ := h; ⟨q, t₁, t₂, c, e, hs _ h⟩
noncomputable def EOk (nds : List Nd) (p : Int × Str) : Prop := (p.1 = -1 ∧ p.2.length ≤ 100) ∨ ∃ (i : Nat) (d : Nd), p.1 = (i : Int) ∧ nds[i]? = some d
noncomputable def rendE (nds : List Nd) (flag : Bool) (p : Int × Str) : Str := if p.1 = -1 then p.2 else rend nds flag p.1.toNat
noncomputable def costE (nds : List Nd) (p : Int × Str) : Nat := if p.1 = -1 then 1 else tsize nds p.1.toNat
theorem Sub.app {news tups : Led} : Sub news (tups ++ news) := fun _ h => List.mem_append_right _ h
theorem Sub.trans {a b c : Led} (h : Sub a b) (k : Sub b c) : Sub a c := fun p hp => k p (h p hp)
theorem rendE_node {nds : List Nd} {flag : Bool} {i : Nat} {e : Str} : rendE nds flag ((i : Int), e) = rend nds flag i := by
  unfold rendE; rw [if_neg nneg1]; rfl
theorem costE_node {nds : List Nd} {i : Nat} {e : Str} : costE nds ((i : Int), e) = tsize nds i := by
  unfold costE; rw [if_neg nneg1]; rfl
theorem costE_pos {nds : List Nd} (p : Int × Str) : 1 ≤ costE nds p := by
  unfold costE; split
  · exact Nat.le_refl _
  · exact tsize_pos _
theorem allLt_all {d : Addr} {l : Led} (h : AllLt d l) : ∀ p ∈ l, @LT.lt Nat _ p.1 d := by
  induction l with
  | nil => intro p hp; simp at hp
  | cons a r ih =>
    intro p hp
    rcases List.mem_cons.mp hp with e | hp
    · rw [e]; exact h.1
    · exact ih h.2 p hp
theorem off1_all {d : Addr} {l : Led} (h : LCg.Off1 d l) : ∀ p ∈ l, p.1 ≠ d := by
  induction l with
  | nil => intro p hp; simp at hp
  | cons a r ih =>
    intro p hp
    rcases List.mem_cons.mp hp with e | hp
    · rw [e]; exact h.1
    · exact ih h.2 p hp
theorem fr_many {m' m₀ : Str → Option Value} {l : List Str} (h : ∀ y, l.contains y = false → m' y = m₀ y) : m' = fun y => if l.contains y = true then m' y else m₀ y := by
  funext y
  cases e : l.contains y with
  | true => simp
  | false => simp only [Bool.false_eq_true, if_false]; exact h y e
theorem sum_rev (f : Nat → Nat) (l : List Nat) : (l.reverse.map f).sum = (l.map f).sum := by
  induction l with
  | nil => rfl
  | cons a r ih => rw [List.reverse_cons, List.map_append, List.sum_append, ih, List.map_cons, List.sum_cons]; simp; omega
theorem len_le_cost {nds : List Nd} : ∀ ws : List (Int × Str), ws.length ≤ (ws.map (costE nds)).sum
  | [] => Nat.le_refl _
  | p :: r => by
    rw [List.map_cons, List.sum_cons, List.length_cons]; exact pos1 (len_le_cost (nds := nds) r) (costE_pos (nds := nds) p)
theorem len_le_size {nds : List Nd} : ∀ l : List Nat, l.length ≤ (l.map (tsize nds)).sum
  | [] => Nat.le_refl _
  | a :: r => by
    rw [List.map_cons, List.sum_cons, List.length_cons]; exact pos1 (len_le_size (nds := nds) r) (tsize_pos (nds := nds) a)
theorem glue_snoc {a : List Str} {x : Str} : glue (a ++ [x]) = glue a ++ x := by
  rw [glue_append]; show glue a ++ (x ++ Str.empty) = _; rw [Str.append_empty]
noncomputable abbrev kidEs (l : List Nat) : List (Int × Str) := l.map fun (n : Nat) => ((n : Int), PySem.Str.ofString "")
/-- what the stack of work and the written pieces hold ahead of a turn -/
inductive WJ (nds : List Nd) (flag : Bool) (lo wo : Addr) (news : Led) (m₀ : Str → Option Value) (target : Str) (k : Nat) (m' : Str → Option Value) (nw : Led) : Prop
  | mk (vo : List Value) (no : Nat) (outs : List Str) (vw : List Value) (nn : Nat) (ws : List (Int × Str)) (tups : Led) (h1 : nw = (lo, LO vo no) :: (wo, LO vw nn) :: (tups ++ news)) (h2 : All2 IsStr vo outs) (h3 : All2 (WAt tups) vw ws) (h4 : ∀ p ∈ ws, EOk nds p) (h5 : (ws.map (costE nds)).sum = k) (h6 : outs.length + k ≤ 80000)
    (h7 : glue outs ++ glue (ws.reverse.map (rendE nds flag)) = target) (h8 : ∀ p ∈ tups, p.1 ≠ lo ∧ p.1 ≠ wo) (h9 : ∀ y, ([PySem.Str.ofString "node", PySem.Str.ofString "end_tag", PySem.Str.ofString "child"].contains y) = false → m' y = m₀ y) : WJ nds flag lo wo news m₀ target k m' nw
/-- the children put on the stack -/
inductive WK (d : Nd) (d2 : Nd) (D lo wo : Addr) (vk vo : List Value) (ws' : List (Int × Str)) (news : Led) (m₀ : Str → Option Value) (j : Nat) (m'' : Str → Option Value) (nw : Led) : Prop
  | mk (tt : Tok) (no' : Nat) (vx : List Value) (nx : Nat) (tx : Led) (h1 : nw = (D, LO vk.reverse 0) :: (lo, LO (vo ++ [.str (openText d) tt]) no') :: (wo, LO vx nx) :: (tx ++ news)) (h2 : All2 (WAt tx) vx (ws' ++ ((-1, endText d) :: kidEs (d2.under.reverse.take j)))) (h3 : ∀ p ∈ tx, p.1 ≠ lo ∧ p.1 ≠ wo ∧ p.1 ≠ D)
    (h4 : ∀ y, ([PySem.Str.ofString "node", PySem.Str.ofString "end_tag", PySem.Str.ofString "child"].contains y) = false → m'' y = m₀ y) : WK d d2 D lo wo vk vo ws' news m₀ j m'' nw
/-- the stack's first entries -/
inductive WC (D1 lo : Addr) (vs : List Value) (is : List Nat) (news : Led) (i : Nat) (ys : List Value) (nw : Led) : Prop
  | mk (tups : Led) (h1 : nw = (tups ++ ((D1, LO vs.reverse 0) :: (lo, LO [] 0) :: news))) (h2 : ∀ p ∈ tups, @LT.lt Nat _ lo p.1) (h3 : All2 (WAt tups) ys ((is.reverse.take i).map fun (n : Nat) => ((n : Int), PySem.Str.ofString ""))) : WC D1 lo vs is news i ys nw
theorem kidEs_rend {nds : List Nd} {flag : Bool} (l : List Nat) : (kidEs l).map (rendE nds flag) = l.map (rend nds flag) := by
  rw [List.map_map]; exact List.map_congr_left fun n _ => rendE_node
theorem kidEs_cost {nds : List Nd} (l : List Nat) : (kidEs l).map (costE nds) = l.map (tsize nds) := by
  rw [List.map_map]; exact List.map_congr_left fun n _ => costE_node
theorem turn_text {nds : List Nd} {flag : Bool} {outs : List Str} {o e : Str} {ws : List (Int × Str)} {l : List Nat} :
    glue (outs ++ [o]) ++ glue ((ws ++ ((-1, e) :: kidEs l.reverse)).reverse.map (rendE nds flag)) = glue outs ++ ((o ++ (glue (l.map (rend nds flag)) ++ e)) ++ glue (ws.reverse.map (rendE nds flag))) := by
  have e1 : (kidEs l.reverse).reverse = kidEs l := by rw [← List.map_reverse, List.reverse_reverse]
  have e2 : glue ([(-1, e)].map (rendE nds flag)) = e := by show e ++ Str.empty = e; exact Str.append_empty e
  rw [glue_snoc, List.reverse_append, List.reverse_cons, e1, List.map_append, List.map_append, glue_append, glue_append, kidEs_rend, e2]
  simp only [Str.append_assoc]
theorem turn_cost {nds : List Nd} {e : Str} {ws : List (Int × Str)} {l : List Nat} :
    ((ws ++ ((-1, e) :: kidEs l.reverse)).map (costE nds)).sum = (ws.map (costE nds)).sum + (1 + (l.map (tsize nds)).sum) := by
  rw [List.map_append, List.sum_append, List.map_cons, List.sum_cons, kidEs_cost, sum_rev]; rfl
theorem news_order1 {h₀ h : Heap} {L : Addr} {p1 p2 p3 p4 : Addr × Obj} {r1 r2 : Led} (N : News h₀ L h (p1 :: p2 :: p3 :: p4 :: (r1 ++ r2))) : News h₀ L h (p1 :: p3 :: p4 :: ((p2 :: r1) ++ r2)) := news_sub N fun p hp => by
  simp only [List.mem_cons, List.mem_append] at hp ⊢
  rcases hp with h | h | h | (h | h) | h <;> simp [h]
theorem news_order2 {h₀ h : Heap} {L : Addr} {p1 p2 p3 p4 p5 : Addr × Obj} {r1 r2 : Led} (N : News h₀ L h (p1 :: p2 :: p3 :: p4 :: p5 :: (r1 ++ r2))) : News h₀ L h (p2 :: p3 :: p4 :: p5 :: ((p1 :: r1) ++ r2)) := news_sub N fun p hp => by
  simp only [List.mem_cons, List.mem_append] at hp ⊢
  rcases hp with h | h | h | h | (h | h) | h <;> simp [h]
theorem news_tail {h₀ h : Heap} {L : Addr} {p1 : Addr × Obj} {r : Led} (N : News h₀ L h (p1 :: r)) : News h₀ L h r := fun p hp => N p (List.mem_cons_of_mem _ hp)
theorem off_names {y : Str} (h : ([PySem.Str.ofString "node", PySem.Str.ofString "end_tag", PySem.Str.ofString "child"].contains y) = false) : y ≠ "node" ∧ y ≠ "end_tag" ∧ y ≠ "child" := by
  refine ⟨?_, ?_, ?_⟩ <;> (rintro rfl; revert h; decide)

local macro_rules (kind := PyProof.Rows.tacticWalk_at_) | x => call9 "call ref" "written_children_spec" 9 x
local macro_rules (kind := PySem.W.tacticKtr_unf) | _x => exact9 "Sub.app"
local macro_rules (kind := PySem.W.tacticKtr_rel) | _x => seq9 [refine9 "ItemAt.sub @@ ?", unf9]

section
variable {w : World} {loose : List Str} {mean : ExcName → Option Value} {mg mb : Str → Option Value} {dp un : Nat} {gd : Option (List Code)} {cn : Str} {cs : Scope} {a : Addr} {ccd : Value} {cl : List (Str × Addr)} {outer : List Env} {A₀ : Around} {base h₀ : Heap} {L : Addr} {m : Str → Option Value} {gh : Heap} {gn : Array GenState} {dr : Drawn} {tk0 : Nat} {os : OsState} {Q E : Value → Shared → Prop} {news : Led}
theorem written_spec {T : TA} {as qs : List Addr} {nds : List Nd} {flag : Bool} {nl : Addr} {vs : List Value} {nn : Nat} {is : List Nat} (C : Cx w loose mean mg mb outer A₀ base h₀ cs) (F : Fr h₀ L gh m) (N : News h₀ L gh news) (hp : 0 < tk0) (hdp : dp + 8 < recursionLimit) (hun : un + 64 < cLine)
  (R : TreeRep w news T as qs nds) (U : Up nds) (ok : ∀ (i : Nat) (d : Nd), nds[i]? = some d → NdOk d) (par : ∀ (i : Nat) (d : Nd), nds[i]? = some d → ParOk nds d.parent)
  (ixok : ∀ (i : Nat) (d : Nd), nds[i]? = some d → d.ix i < nds.length)
  (hl : (nl, LO vs nn) ∈ news) (hvs : All2 IsNat vs is) (his : ∀ i ∈ is, i < nds.length) (hcost : (is.map (tsize nds)).sum ≤ 80000)
  (hret : ∀ (t : Tok) (h' : Heap) (tk' : Nat), 0 < tk' → Fr h₀ L h' m → News h₀ L h' news → Q (.str (glue (is.map (rend nds flag))) t) ⟨h', gn, dr, tk', os⟩) :
  wpAny (model PySem.Challenge.rw_nz0091_01.row.prog w) (ktrTop dp un gd cn cs L a ccd cl outer) (call (.ref 89) [.ref T.t, .ref nl, .bool flag]) Q E ⟨gh, gn, dr, tk0, os⟩ := by
  refine viaF fun hG9 => ?_
  have hinst := R.inst
  have hdict := R.dict
  have hvl : vs.length ≤ 80000 := by
    exact eqLe hvs.length (Nat.le_trans (len_le_size is) hcost)
  obtain ⟨B, X, TT, hk⟩ := C
  refine hG9 ?_
  refine' enterP (binds := [(PySem.Str.ofString "tree", Value.ref T.t), (PySem.Str.ofString "nodes", Value.ref nl), (PySem.Str.ofString "is_scripting", Value.bool flag)]) B F X N TT hk hp (by ktr_room) ?ho ?hcd ?hb ?hl rfl ?_ ?c1 ?c2 ?c3 ?c4
  case ho => k_is
  case hcd => k_is
  case hb => first | exact BindsTo.of_eq rfl | exact hb _ _ _ _ (by k_is) | exact binds_K (by k_in) rfl (by k_is) rfl rfl rfl
  case hl => exact locs rfl
  case c1 => rfl
  case c2 => rfl
  case c3 => rfl
  case c4 => decide
  intro g L₁ h₁ tk hp₁ FG mm F₁ N₁ B₁ X₁ T₁ A₁ qk ek
  k_steps
  unfold Stop
  rename_i tkA hpA lo h2 lo_lt h3 F3 N3 hp3 tkB hpB
  refine LCg.Assign_ListComp_U (F₀ := F3) rfl (by with_unfolding_all rfl) (by rfl) (by decide) (by rfl) (by decide) (by rfl) (by rfl) (by rfl) ?_
  k_steps
  rename_i D1 h4 F4 N4 lt4
  refine LCg.CompSrc.ledger rfl F4 N4 (List.mem_cons_self ..) (by rw [List.size_toArray, List.length_reverse]; exact Nat.le_trans hvl (by decide)) fun g4 => ?_
  refine compI (WC D1 lo vs is news) ?turn ?fin ⟨[], rfl, (by intro p hp; simp at hp), .nil⟩
  case turn =>
    rintro i v ys nw I oI C oC D m₂ h tk E' hik hv ⟨tups, rfl, hlo, hw⟩ hC hx F5 N5 off ne
    refine viaF fun hG9 => ?_
    obtain ⟨n, hn, tn, rfl⟩ := hvs.reverse.getL (i := i) (a := v) (by simpa using hv)
    refine hG9 ?_
    k_steps
    rename_i q h6 F6 N6 l6
    refine viaF fun hG9 => ?_
    obtain ⟨lI, lC, lD, lA⟩ := l6
    have hA := allLt_all lA
    refine hG9 ?_
    refine LCg.CompEnd.intro F6 N6 ((q, TO [.int (n : Int) tn, .str "" tk] 0) :: (tups ++ ((D1, LO vs.reverse 0) :: (lo, LO [] 0) :: news))) (fun p hp => ?_) ⟨⟨Nat.ne_of_gt lI, Nat.ne_of_gt lC, Nat.ne_of_gt lD⟩, off⟩
      (.inr ⟨_, List.mem_cons_of_mem _ (List.mem_append_right _ (List.mem_cons_self ..)), rfl, _, rfl⟩) ⟨(q, TO [.int (n : Int) tn, .str "" tk] 0) :: tups, rfl, fun p hp => ?_, ?_⟩
    · simp only [List.mem_cons] at hp ⊢
      rcases hp with h | h | h | h | h <;> simp [h]
    · rcases List.mem_cons.mp hp with rfl | hp
      · exact hA (lo, _) (List.mem_append_right _ (List.mem_cons_of_mem _ (List.mem_cons_self ..)))
      · exact hlo p hp
    · rw [List.take_add_one, hn, List.map_append]
      exact (hw.imp fun _ _ h => h.sub (Sub.cons Sub.refl)).snoc ⟨q, _, _, _, rfl, List.mem_cons_self ..⟩
  case fin =>
    rintro ys nw ⟨tups, rfl, hlo, hw⟩ wo h5 tk5 F5 N5 off5 hp5
    rw [show vs.reverse.toArray.size = is.reverse.length by rw [List.size_toArray, List.length_reverse, List.length_reverse, hvs.length], List.take_length] at hw
    dsimp only at hp5 ⊢
    k_steps
    unfold Stop
    rename_i tk6 hp6
    have hlw : @Ne Nat lo wo := off1_all off5 (lo, _) (List.mem_append_right _ (List.mem_cons_of_mem _ (List.mem_cons_self ..)))
    have hnlo : ∀ p ∈ news, p.1 ≠ lo := fun p hp => Nat.ne_of_lt (lo_lt p hp)
    have hnwo : ∀ p ∈ news, p.1 ≠ wo := fun p hp => off1_all off5 p (List.mem_append_right _ (List.mem_cons_of_mem _ (List.mem_cons_of_mem _ hp)))
    refine whileS (k := (is.map (tsize nds)).sum) F5 (news := (lo, LO [] 0) :: (wo, LO ys ys.length) :: (tups ++ news)) (news_sub N5 (fun p hp => ?_)) hp6
      (WJ nds flag lo wo news _ (glue (is.map (rend nds flag)))) ⟨[], 0, [], ys, _, is.reverse.map fun (n : Nat) => ((n : Int), PySem.Str.ofString ""), tups, rfl, .nil, hw, ?_, ?_, ?_, ?_, ?_, fun y _ => rfl⟩ ?_
    · simp only [List.mem_cons, List.mem_append] at hp ⊢
      rcases hp with h | h | h | h <;> simp [h]
    · intro p hp
      refine viaF fun hG9 => ?_
      obtain ⟨n, hn, rfl⟩ := List.mem_map.mp hp
      have hn' := his n (List.mem_reverse.mp hn)
      refine hG9 ?_
      exact .inr ⟨n, nds[n], rfl, by simp [hn']⟩
    · rw [List.map_map, ← sum_rev (tsize nds) is]
      exact congrArg List.sum (List.map_congr_left fun n _ => costE_node)
    · simpa using hcost
    · show Str.empty ++ _ = _
      rw [Str.empty_append, ← List.map_reverse, List.reverse_reverse, List.map_map]
      exact congrArg glue (List.map_congr_left fun n _ => rendE_node)
    · intro p hp
      exact ⟨Nat.ne_of_gt (hlo p hp), off1_all off5 p (List.mem_append_left _ hp)⟩
    clear hw hlo off5 N5 F5 F3 N3 F4 N4 lt4
    rintro k m' nw h tk ⟨vo, no, outs, vw, nw', ws, tups', rfl, ho, hw, hws, hk, hout, htar, hoff, hm'⟩ hpk F6 N6
    rw [fr_many hm'] at F6
    have hwl := hw.length
    have hol := ho.length
    have hkl := len_le_cost (nds := nds) ws
    have hAl : ∀ p ∈ tups' ++ news, p.1 ≠ lo := fun p hp => (List.mem_append.mp hp).elim (fun h => (hoff p h).1) (hnlo p)
    have hAw : ∀ p ∈ tups' ++ news, p.1 ≠ wo := fun p hp => (List.mem_append.mp hp).elim (fun h => (hoff p h).2) (hnwo p)
    rcases List.eq_nil_or_concat ws with rfl | ⟨ws', p, rfl⟩
    · have hv := hw.nil_inv
      subst hv
      have hgl : (glue outs).length ≤ 16777216 := by
        have e : glue outs = glue (is.map (rend nds flag)) := by
          rw [← htar]; show _ = _ ++ Str.empty
          exact (Str.append_empty _).symm
        have h1 := glue_map_len (rend nds flag) (tsize nds) 202 is fun c _ => rend_len ok c
        rw [e]; exact mulTop h1 hcost rfl
      try dsimp only
      k_steps
      rename News _ _ _ _ => N9
      refine retS (hret _ _ _ (by assumption) (by k_asm) (news_sub N9 fun p hp => List.mem_cons_of_mem _ (List.mem_cons_of_mem _ (List.mem_append_right _ hp)))) ?_
      rw [← htar]; show _ = _ ++ Str.empty
      exact (Str.append_empty _).symm
    · rw [List.concat_eq_append] at *
      refine viaF fun hG9 => ?_
      obtain ⟨vw', v, rfl, hw', q, t₁, t₂, c, rfl, hq⟩ := hw.snoc_inv
      have hne0 : (vw' ++ [Value.ref q]).isEmpty = false := by simp
      have hwl' : vw'.length ≤ 80000 := by
        simp only [List.length_append] at hwl hkl
        exact cost6 hout hk hwl hkl
      have hwl2 : (vw' ++ [Value.ref q]).length ≤ 80001 := by rw [List.length_append]; exact Nat.add_le_add_right hwl' 1
      obtain ⟨x, e⟩ := p
      have hcost' : (ws'.map (costE nds)).sum + costE nds (x, e) = k := by rw [← hk, List.map_append, List.sum_append]; simp
      have htar' : glue outs ++ (rendE nds flag (x, e) ++ glue (ws'.reverse.map (rendE nds flag))) = glue (is.map (rend nds flag)) := by rw [← htar, List.reverse_append]; rfl
      have hws' : ∀ p ∈ ws', EOk nds p := fun p hp => hws p (List.mem_append_left _ hp)
      refine hG9 ?_
      dsimp only at hq ⊢
      clear hk htar hkl hwl hw
      rcases hws _ (List.mem_append_right _ (List.mem_cons_self ..)) with ⟨hx, hel⟩ | ⟨i, d, hx, hd⟩
      · dsimp only at hx hel
        subst hx
        k_steps
        rename Fr _ _ _ _ => F9
        rename News _ _ _ _ => N9
        refine turnW_next (k' := (ws'.map (costE nds)).sum) F9 N9 ?_ ⟨vo ++ [.str e t₂], _, outs ++ [e], vw', _, ws', tups', rfl, ho.snoc ⟨_, rfl⟩, hw', hws', rfl, ?_, ?_, hoff, fun y hy => ?_⟩
        · exact cost1 hcost' (costE_pos (nds := nds) ((-1, e) : Int × Str))
        · rw [List.length_append]; exact cost2 hout hcost' (costE_pos (nds := nds) ((-1, e) : Int × Str))
        · rw [glue_snoc, Str.append_assoc]; exact htar'
        · refine viaF fun hG9 => ?_
          obtain ⟨h1, h2, h3⟩ := off_names hy
          refine hG9 ?_
          simp +zetaDelta only [if_neg h1, if_neg h2, hy, Bool.false_eq_true, if_false]
      · dsimp only at hx
        subst hx
        rw [costE_node] at hcost'
        rw [rendE_node] at htar'
        refine viaF fun hG9 => ?_
        have okd := ok i d hd
        have hnl := okd.name
        have pard := par i d hd
        obtain ⟨q2, hq2⟩ : ∃ q2, qs[d.ix i]? = some q2 := ⟨qs[d.ix i]'(R.klen ▸ ixok i d hd), by simp⟩
        obtain ⟨d2, hd2⟩ : ∃ d2, nds[d.ix i]? = some d2 := ⟨nds[d.ix i]'(ixok i d hd), by simp⟩
        obtain ⟨vk, nk, hvk, hvkk⟩ := R.kid _ _ _ hd2 hq2
        have hki : kidsOf nds d i = d2.under := by unfold kidsOf; rw [hd2]
        have hte := tsize_eq U hd
        have hre := rend_eq (flag := flag) U hd
        refine hG9 ?_
        rw [hki] at hte hre
        refine viaF fun hG9 => ?_
        obtain ⟨_, hkind⟩ := R.kindAt hd
        obtain ⟨_, hname⟩ := R.nameAt hd
        refine hG9 ?_
        cases hel2 : (d.kind == "element") with
        | true =>
          have hel : d.kind = "element" := eq_of_beq hel2
          rw [hel2, if_pos rfl] at hte hre
          cases hen : d.endless with
          | true =>
            rw [hen, if_pos rfl] at hte hre
            k_steps
            · exact absurd (by assumption) (nneg1 (i := i))
            rename Fr _ _ _ _ => F9
            rename News _ _ _ _ => N9
            refine turnW_next (k' := (ws'.map (costE nds)).sum) F9 N9 (cost1 hcost' (tsize_pos i)) ⟨_, _, outs ++ [openText d], vw', _, ws', tups', rfl, ho.snoc ⟨_, rfl⟩, hw', hws', rfl, ?_, ?_, hoff, fun y hy => ?_⟩
            · rw [List.length_append]; exact cost2 hout hcost' (tsize_pos i)
            · rw [glue_snoc, Str.append_assoc, ← htar', hre, Str.append_empty]
            · refine viaF fun hG9 => ?_
              obtain ⟨h1, h2, h3⟩ := off_names hy
              refine hG9 ?_
              simp +zetaDelta only [if_neg h1, if_neg h2, hy, Bool.false_eq_true, if_false]
          | false =>
            rw [hen, if_neg Bool.false_ne_true] at hte hre
            have hlk : vk.length ≤ 80000 := by
              have h1 := hvkk.length
              have h2 := len_le_size (nds := nds) d2.under
              exact cost5 hout hcost' hte h1 h2
            k_steps
            · exact absurd (by assumption) (nneg1 (i := i))
            unfold Stop
            refine wpAny_For ?_
            k_steps
            rename_i M hM FM NM lM hA FA NA hpA1 tkB1 hpB1 hC tkC hkC FC NC D hD FD ND lD
            refine viaF fun hG9 => ?_
            obtain ⟨lM1, lM2, lM3⟩ := lM
            have hDlo : @LT.lt Nat _ lo D := lD (lo, _) (List.mem_cons_of_mem _ (List.mem_cons_self ..))
            have hDwo : @LT.lt Nat _ wo D := lD (wo, _) (List.mem_cons_of_mem _ (List.mem_cons_of_mem _ (List.mem_cons_self ..)))
            have hDM : @LT.lt Nat _ M D := lD (M, _) (List.mem_cons_self ..)
            have hDt : ∀ p ∈ tups' ++ news, @LT.lt Nat _ p.1 D := fun p hp => lD p (List.mem_cons_of_mem _ (List.mem_cons_of_mem _ (List.mem_cons_of_mem _ hp)))
            refine hG9 ?_
            unfold Stop
            have ND' := news_order1 ND
            refine forList (h₀ := g) (vs := vk.reverse) (n := 0) rfl rfl rfl FD ND' (List.mem_cons_self ..) (by tb_rel)
              (WK d d2 D lo wo vk vo ws' news m') ?src ?init ?step ?done
            case src => rintro j m'' nw ⟨tt, no', vx, nx, tx, rfl, _, _, _⟩; exact List.mem_cons_self ..
            case init =>
              refine ⟨_, _, _, _, _, rfl, ?_, fun p hp => ?_, fun y hy => ?_⟩
              · exact (hw'.imp fun _ _ h => h.sub (Sub.cons Sub.refl)).snoc ⟨M, _, _, _, rfl, List.mem_cons_self ..⟩
              · rcases List.mem_cons.mp hp with rfl | hp
                · exact ⟨Nat.ne_of_gt lM1, Nat.ne_of_gt lM2, Nat.ne_of_lt hDM⟩
                · exact ⟨(hoff p hp).1, (hoff p hp).2, Nat.ne_of_lt (hDt p (List.mem_append_left _ hp))⟩
              · refine viaF fun hG9 => ?_
                obtain ⟨h1, h2, h3⟩ := off_names hy
                refine hG9 ?_
                simp +zetaDelta only [if_neg h1, if_neg h2, hy, Bool.false_eq_true, if_false]
                exact (hm' y hy).symm
            case step =>
              rintro j v m'' nw h tk I oI hv ⟨tt, no', vx, nx, tx, rfl, hwx, hoffx, hmx⟩ hpk F4 N4 off
              rw [fr_many fun y hy => (hmx y hy).trans (hm' y hy)] at F4
              refine viaF fun hG9 => ?_
              obtain ⟨n, hn, tn, rfl⟩ := hvkk.reverse.getL hv
              have hIlo : @Ne Nat I lo := fun e => off (lo, _) (List.mem_cons_of_mem _ (List.mem_cons_self ..)) e.symm
              have hIwo : @Ne Nat I wo := fun e => off (wo, _) (List.mem_cons_of_mem _ (List.mem_cons_of_mem _ (List.mem_cons_self ..))) e.symm
              have hID : @Ne Nat I D := fun e => off (D, _) (List.mem_cons_self ..) e.symm
              have hAx : ∀ p ∈ tx ++ news, p.1 ≠ wo := fun p hp => (List.mem_append.mp hp).elim (fun h => (hoffx p h).2.1) (hnwo p)
              have hxl : vx.length ≤ 200000 := by
                have h1 := hwx.length
                have h2 := hw'.length
                have h3 : (d2.under.reverse.take j).length ≤ d2.under.length := Nat.le_trans (List.length_take_le' ..) (Nat.le_of_eq List.length_reverse)
                have h4 := hvkk.length
                rw [List.length_append, List.length_cons, List.length_map] at h1
                exact cost7 hwl' hlk h1 h2 h3 h4
              refine hG9 ?_
              try dsimp only
              k_steps
              rename_i M2 hM2 FM2 NM2 lM2 hA2 FA2 NA2 hpA2
              refine viaF fun hG9 => ?_
              obtain ⟨lM21, lM22, lM23, lM24, lM25⟩ := lM2
              refine hG9 ?_
              refine turnS_next FA2 (news_order2 NA2) (fun p hp => ?_) ⟨tt, no', _, _, _, rfl, ?_, fun p hp => ?_, fun y hy => ?_⟩
              · simp only [List.mem_cons, List.cons_append] at hp
                rcases hp with rfl | rfl | rfl | rfl | hp
                · exact hID.symm
                · exact hIlo.symm
                · exact hIwo.symm
                · exact Nat.ne_of_gt lM21
                · exact off p (List.mem_cons_of_mem _ (List.mem_cons_of_mem _ (List.mem_cons_of_mem _ hp)))
              · rw [List.take_add_one, hn]
                show All2 _ _ (ws' ++ ((-1, endText d) :: kidEs (_ ++ [n])))
                unfold kidEs
                rw [List.map_append, ← List.cons_append, ← List.append_assoc]
                exact (hwx.imp fun _ _ h => h.sub (Sub.cons Sub.refl)).snoc ⟨M2, _, _, _, rfl, List.mem_cons_self ..⟩
              · rcases List.mem_cons.mp hp with rfl | hp
                · exact ⟨Nat.ne_of_gt lM23, Nat.ne_of_gt lM24, Nat.ne_of_gt lM22⟩
                · exact hoffx p hp
              · refine viaF fun hG9 => ?_
                obtain ⟨h1, h2, h3⟩ := off_names hy
                refine hG9 ?_
                simp +zetaDelta only [if_neg h3, hy, Bool.false_eq_true, if_false]
                exact (hm' y hy).symm
            case done =>
              rintro m'' nw h tk ⟨tt, no', vx, nx, tx, rfl, hwx, hoffx, hmx⟩ hpk F4 N4
              intro hpk2
              try dsimp only
              k_steps
              rw [show vk.reverse.length = d2.under.reverse.length by rw [List.length_reverse, List.length_reverse, hvkk.length], List.take_length] at hwx
              refine turnW_next (k' := (ws'.map (costE nds)).sum + (1 + (d2.under.map (tsize nds)).sum)) F4 (news_tail N4) (cost3 hcost' hte) ⟨_, _, outs ++ [openText d], vx, _, _, tx, rfl, ho.snoc ⟨_, rfl⟩, hwx, ?_, turn_cost, ?_, ?_, fun p hp => ⟨(hoffx p hp).1, (hoffx p hp).2.1⟩, fun y hy => (hmx y hy).trans (hm' y hy)⟩
              · intro p hp
                rcases List.mem_append.mp hp with hp | hp
                · exact hws' p hp
                rcases List.mem_cons.mp hp with rfl | hp
                · exact .inl ⟨rfl, Nat.le_trans (endText_len okd) (by decide)⟩
                · refine viaF fun hG9 => ?_
                  obtain ⟨n, hn, rfl⟩ := List.mem_map.mp hp
                  have hn' := (U _ _ hd2 n (List.mem_reverse.mp hn)).2
                  refine hG9 ?_
                  exact .inr ⟨n, nds[n], rfl, by simp [hn']⟩
              · rw [List.length_append]; exact cost4 hout hcost' hte
              · rw [turn_text, ← hre]; exact htar'
        | false =>
          rw [hel2, if_neg Bool.false_ne_true] at hte hre
          k_steps
          · exact absurd (by assumption) (nneg1 (i := i))
          rename Fr _ _ _ _ => F9
          rename News _ _ _ _ => N9
          refine turnW_next (k' := (ws'.map (costE nds)).sum) F9 N9 (cost1 hcost' (tsize_pos i)) ⟨_, _, outs ++ [leafText nds flag d], vw', _, ws', tups', rfl, ho.snoc ⟨_, rfl⟩, hw', hws', rfl, ?_, ?_, hoff, fun y hy => ?_⟩
          · rw [List.length_append]; exact cost2 hout hcost' (tsize_pos i)
          · rw [glue_snoc, Str.append_assoc, ← htar', hre]
          · refine viaF fun hG9 => ?_
            obtain ⟨h1, h2, h3⟩ := off_names hy
            refine hG9 ?_
            simp +zetaDelta only [if_neg h1, if_neg h2, hy, Bool.false_eq_true, if_false]
end

local macro_rules (kind := PyProof.Rows.tacticWalk_at_) | x => call9 "call ref" "written_spec" 15 x

theorem kids_cost2 {nds : List Nd} (U : Up nds) (he : edges nds 0 ≤ 15) (d : Nd) (i : Nat) : ((kidsOf nds d i).map (tsize nds)).sum ≤ 65536 := by
  cases hd : nds[d.ix i]? with
  | none =>
    have e : kidsOf nds d i = [] := by unfold kidsOf; rw [hd]
    rw [e]; simp
  | some e =>
    have hk : kidsOf nds d i = e.under := by unfold kidsOf; rw [hd]
    have h2 : ((kidsOf nds d i).map (tsize nds)).sum ≤ (kidsOf nds d i).length * (2 * 2 ^ edges nds (d.ix i + 1)) := by
      refine sum_le' _ _ _ fun c hc => Nat.le_trans (sizeF_le U _ c) ?_
      have h3 := (U.kid hc).1
      exact Nat.mul_le_mul_left _ (Nat.pow_le_pow_right (by decide) (edges_le h3))
    rw [hk] at h2 ⊢
    have h4 := pow_step e.under.length (2 ^ edges nds (d.ix i + 1)) (Nat.one_le_two_pow)
    have h5 := edges_succ hd
    have h6 := edges_le (nds := nds) (i := 0) (j := d.ix i) (Nat.zero_le _)
    have h7 : 2 ^ e.under.length * 2 ^ edges nds (d.ix i + 1) = 2 ^ edges nds (d.ix i) := by rw [h5, Nat.pow_add]
    have h8 : 2 ^ edges nds (d.ix i) ≤ 2 ^ 15 := Nat.pow_le_pow_right (by decide) (Nat.le_trans h6 he)
    rw [h7] at h4
    exact pow6 h2 h4 h8
theorem kids_cost {nds : List Nd} (U : Up nds) (he : edges nds 0 ≤ 15) (d : Nd) (i : Nat) : ((kidsOf nds d i).map (tsize nds)).sum ≤ 80000 := Nat.le_trans (kids_cost2 U he d i) (by decide)
structure Good (nds : List Nd) : Prop where
  up : Up nds
  ok : ∀ (i : Nat) (d : Nd), nds[i]? = some d → NdOk d
  par : ∀ (i : Nat) (d : Nd), nds[i]? = some d → ParOk nds d.parent
  ix : ∀ (i : Nat) (d : Nd), nds[i]? = some d → d.ix i < nds.length
  few : edges nds 0 ≤ 15
noncomputable def inText (nds : List Nd) (flag : Bool) (i : Nat) (d : Nd) : Str := if d.endless = true then Str.empty else glue ((kidsOf nds d i).map (rend nds flag))
noncomputable def isHold (d : Nd) : Bool := [PySem.Str.ofString "document", PySem.Str.ofString "fragment"].any (· == d.kind)
theorem isHold_eq (d : Nd) : isHold d = [PySem.Str.ofString "document", PySem.Str.ofString "fragment"].any (· == d.kind) := rfl
noncomputable def outText (nds : List Nd) (flag : Bool) (i : Nat) (d : Nd) : Str := if isHold d = true then inText nds flag i d else rend nds flag i
theorem outText1 {nds : List Nd} {flag : Bool} {i : Nat} {d : Nd} (h : [PySem.Str.ofString "document", PySem.Str.ofString "fragment"].any (· == d.kind) = true) : inText nds flag i d = outText nds flag i d := by
  unfold outText; rw [isHold_eq, if_pos h]
theorem outText2 {nds : List Nd} {flag : Bool} {i : Nat} {d : Nd} (h : [PySem.Str.ofString "document", PySem.Str.ofString "fragment"].any (· == d.kind) = false) : glue ([i].map (rend nds flag)) = outText nds flag i d := by
  unfold outText; rw [isHold_eq, h, if_neg Bool.false_ne_true]
  show rend nds flag i ++ Str.empty = _
  exact Str.append_empty _
section
variable {w : World} {loose : List Str} {mean : ExcName → Option Value} {mg mb : Str → Option Value} {dp un : Nat} {gd : Option (List Code)} {cn : Str} {cs : Scope} {a : Addr} {ccd : Value} {cl : List (Str × Addr)} {outer : List Env} {A₀ : Around} {base h₀ : Heap} {L : Addr} {m : Str → Option Value} {gh : Heap} {gn : Array GenState} {dr : Drawn} {tk0 : Nat} {os : OsState} {Q E : Value → Shared → Prop} {news : Led}
theorem inner_spec {T : TA} {as qs : List Addr} {nds : List Nd} {flag : Bool} {i : Nat} {d : Nd} {ti : Tok} (C : Cx w loose mean mg mb outer A₀ base h₀ cs) (F : Fr h₀ L gh m) (N : News h₀ L gh news) (hp : 0 < tk0) (hdp : dp + 10 < recursionLimit) (hun : un + 80 < cLine)
  (R : TreeRep w news T as qs nds) (G : Good nds) (hi : nds[i]? = some d)
  (hret : ∀ (t : Tok) (h' : Heap) (tk' : Nat), 0 < tk' → Fr h₀ L h' m → News h₀ L h' news → Q (.str (inText nds flag i d) t) ⟨h', gn, dr, tk', os⟩) :
  wpAny (model PySem.Challenge.rw_nz0091_01.row.prog w) (ktrTop dp un gd cn cs L a ccd cl outer) (call (.ref 97) [.ref T.t, .int (i : Int) ti, .bool flag]) Q E ⟨gh, gn, dr, tk0, os⟩ := by
  refine viaF fun hG9 => ?_
  obtain ⟨U, ok, par, ixok, hfew⟩ := G
  have hinst := R.inst
  have hdict := R.dict
  obtain ⟨q2, hq2⟩ : ∃ q2, qs[d.ix i]? = some q2 := ⟨qs[d.ix i]'(R.klen ▸ ixok i d hi), by simp⟩
  obtain ⟨d2, hd2⟩ : ∃ d2, nds[d.ix i]? = some d2 := ⟨nds[d.ix i]'(ixok i d hi), by simp⟩
  obtain ⟨vk, nk, hvk, hvkk⟩ := R.kid _ _ _ hd2 hq2
  have hki : kidsOf nds d i = d2.under := by unfold kidsOf; rw [hd2]
  have hcost := kids_cost U hfew d i
  refine hG9 ?_
  rw [hki] at hcost
  have his : ∀ c ∈ d2.under, c < nds.length := fun c hc => (U _ _ hd2 c hc).2
  cases hen : d.endless with
  | true =>
    refine viaF fun hG9 => ?_
    obtain ⟨B, X, TT, hk⟩ := C
    refine hG9 ?_
    refine' enterP (binds := [(PySem.Str.ofString "tree", Value.ref T.t), (PySem.Str.ofString "node", Value.int (i : Int) ti), (PySem.Str.ofString "is_scripting", Value.bool flag)]) B F X N TT hk hp (by ktr_room) ?ho ?hcd ?hb ?hl rfl ?_ ?c1 ?c2 ?c3 ?c4
    case ho => k_is
    case hcd => k_is
    case hb => first | exact BindsTo.of_eq rfl | exact hb _ _ _ _ (by k_is) | exact binds_K (by k_in) rfl (by k_is) rfl rfl rfl
    case hl => exact locs rfl
    case c1 => rfl
    case c2 => rfl
    case c3 => rfl
    case c4 => decide
    intro g L₁ h₁ tk hp₁ FG mm F₁ N₁ B₁ X₁ T₁ A₁ qk ek
    k_steps
    rename News _ _ _ _ => N9
    refine retS (hret _ _ _ (by assumption) (by k_asm) (news_sub N9 (by ktr_unf))) ?_
    unfold inText; rw [hen]; rfl
  | false =>
    refine viaF fun hG9 => ?_
    obtain ⟨B, X, TT, hk⟩ := C
    refine hG9 ?_
    refine' enterP (binds := [(PySem.Str.ofString "tree", Value.ref T.t), (PySem.Str.ofString "node", Value.int (i : Int) ti), (PySem.Str.ofString "is_scripting", Value.bool flag)]) B F X N TT hk hp (by ktr_room) ?ho ?hcd ?hb ?hl rfl ?_ ?c1 ?c2 ?c3 ?c4
    case ho => k_is
    case hcd => k_is
    case hb => first | exact BindsTo.of_eq rfl | exact hb _ _ _ _ (by k_is) | exact binds_K (by k_in) rfl (by k_is) rfl rfl rfl
    case hl => exact locs rfl
    case c1 => rfl
    case c2 => rfl
    case c3 => rfl
    case c4 => decide
    intro g L₁ h₁ tk hp₁ FG mm F₁ N₁ B₁ X₁ T₁ A₁ qk ek
    k_steps
    rename News _ _ _ _ => N9
    refine retS (hret _ _ _ (by assumption) (by k_asm) (news_sub N9 (by ktr_unf))) ?_
    unfold inText; rw [hen, hki]; rfl
end

local macro_rules (kind := PyProof.Rows.tacticWalk_at_) | x => call9 "call ref" "inner_spec" 9 x

section
variable {w : World} {loose : List Str} {mean : ExcName → Option Value} {mg mb : Str → Option Value} {dp un : Nat} {gd : Option (List Code)} {cn : Str} {cs : Scope} {a : Addr} {ccd : Value} {cl : List (Str × Addr)} {outer : List Env} {A₀ : Around} {base h₀ : Heap} {L : Addr} {m : Str → Option Value} {gh : Heap} {gn : Array GenState} {dr : Drawn} {tk0 : Nat} {os : OsState} {Q E : Value → Shared → Prop} {news : Led}
theorem outer_spec {T : TA} {as qs : List Addr} {nds : List Nd} {flag : Bool} {i : Nat} {d : Nd} {ti : Tok} (C : Cx w loose mean mg mb outer A₀ base h₀ cs) (F : Fr h₀ L gh m) (N : News h₀ L gh news) (hp : 0 < tk0) (hdp : dp + 12 < recursionLimit) (hun : un + 96 < cLine)
  (R : TreeRep w news T as qs nds) (G : Good nds) (hi : nds[i]? = some d)
  (hret : ∀ (t : Tok) (h' : Heap) (tk' : Nat), 0 < tk' → Fr h₀ L h' m → News h₀ L h' news → Q (.str (outText nds flag i d) t) ⟨h', gn, dr, tk', os⟩) :
  wpAny (model PySem.Challenge.rw_nz0091_01.row.prog w) (ktrTop dp un gd cn cs L a ccd cl outer) (call (.ref 105) [.ref T.t, .int (i : Int) ti, .bool flag]) Q E ⟨gh, gn, dr, tk0, os⟩ := by
  refine viaF fun hG9 => ?_
  obtain ⟨U, ok, par, ixok, hfew⟩ := id G
  have hinst := R.inst
  have hdict := R.dict
  obtain ⟨_, hkind⟩ := R.kindAt hi
  have hcost : ([i].map (tsize nds)).sum ≤ 80000 := by
    have := tsize_le U hfew i
    simp only [List.map_cons, List.map_nil, List.sum_cons, List.sum_nil]; exact Nat.le_trans this (by decide)
  have his : ∀ c ∈ [i], c < nds.length := fun c hc => by rw [List.mem_singleton.mp hc]; exact lt_of_get hi
  have hvs : All2 IsNat [Value.int (i : Int) ti] [i] := .cons ⟨_, rfl⟩ .nil
  obtain ⟨B, X, TT, hk⟩ := C
  refine hG9 ?_
  refine' enterP (binds := [(PySem.Str.ofString "tree", Value.ref T.t), (PySem.Str.ofString "node", Value.int (i : Int) ti), (PySem.Str.ofString "is_scripting", Value.bool flag)]) B F X N TT hk hp (by ktr_room) ?ho ?hcd ?hb ?hl rfl ?_ ?c1 ?c2 ?c3 ?c4
  case ho => k_is
  case hcd => k_is
  case hb => first | exact BindsTo.of_eq rfl | exact hb _ _ _ _ (by k_is) | exact binds_K (by k_in) rfl (by k_is) rfl rfl rfl
  case hl => exact locs rfl
  case c1 => rfl
  case c2 => rfl
  case c3 => rfl
  case c4 => decide
  intro g L₁ h₁ tk hp₁ FG mm F₁ N₁ B₁ X₁ T₁ A₁ qk ek
  k_steps
  · rename News _ _ _ _ => N9
    refine retS (hret _ _ _ (by assumption) (by k_asm) (news_sub N9 (by ktr_unf))) (outText1 (by assumption))
  · rename News _ _ _ _ => N9
    refine retS (hret _ _ _ (by assumption) (by k_asm) (news_sub N9 (by ktr_unf))) (outText2 (by assumption))
theorem inner2_spec {T : TA} {as qs : List Addr} {nds : List Nd} {i : Nat} {d : Nd} {ti : Tok} (C : Cx w loose mean mg mb outer A₀ base h₀ cs) (F : Fr h₀ L gh m) (N : News h₀ L gh news) (hp : 0 < tk0) (hdp : dp + 10 < recursionLimit) (hun : un + 80 < cLine)
  (R : TreeRep w news T as qs nds) (G : Good nds) (hi : nds[i]? = some d)
  (hret : ∀ (t : Tok) (h' : Heap) (tk' : Nat), 0 < tk' → Fr h₀ L h' m → News h₀ L h' news → Q (.str (inText nds false i d) t) ⟨h', gn, dr, tk', os⟩) :
  wpAny (model PySem.Challenge.rw_nz0091_01.row.prog w) (ktrTop dp un gd cn cs L a ccd cl outer) (call (.ref 97) [.ref T.t, .int (i : Int) ti]) Q E ⟨gh, gn, dr, tk0, os⟩ := by
  refine viaF fun hG9 => ?_
  obtain ⟨U, ok, par, ixok, hfew⟩ := G
  have hinst := R.inst
  have hdict := R.dict
  obtain ⟨q2, hq2⟩ : ∃ q2, qs[d.ix i]? = some q2 := ⟨qs[d.ix i]'(R.klen ▸ ixok i d hi), by simp⟩
  obtain ⟨d2, hd2⟩ : ∃ d2, nds[d.ix i]? = some d2 := ⟨nds[d.ix i]'(ixok i d hi), by simp⟩
  obtain ⟨vk, nk, hvk, hvkk⟩ := R.kid _ _ _ hd2 hq2
  have hki : kidsOf nds d i = d2.under := by unfold kidsOf; rw [hd2]
  have hcost := kids_cost U hfew d i
  refine hG9 ?_
  rw [hki] at hcost
  have his : ∀ c ∈ d2.under, c < nds.length := fun c hc => (U _ _ hd2 c hc).2
  cases hen : d.endless with
  | true =>
    refine viaF fun hG9 => ?_
    obtain ⟨B, X, TT, hk⟩ := C
    refine hG9 ?_
    refine' enterP (binds := [(PySem.Str.ofString "tree", Value.ref T.t), (PySem.Str.ofString "node", Value.int (i : Int) ti), (PySem.Str.ofString "is_scripting", Value.bool false)]) B F X N TT hk hp (by ktr_room) ?ho ?hcd ?hb ?hl rfl ?_ ?c1 ?c2 ?c3 ?c4
    case ho => k_is
    case hcd => k_is
    case hb => first | exact BindsTo.of_eq rfl | exact hb _ _ _ _ (by k_is) | exact binds_K (by k_in) rfl (by k_is) rfl rfl rfl
    case hl => exact locs rfl
    case c1 => rfl
    case c2 => rfl
    case c3 => rfl
    case c4 => decide
    intro g L₁ h₁ tk hp₁ FG mm F₁ N₁ B₁ X₁ T₁ A₁ qk ek
    k_steps
    rename News _ _ _ _ => N9
    refine retS (hret _ _ _ (by assumption) (by k_asm) (news_sub N9 (by ktr_unf))) ?_
    unfold inText; rw [hen]; rfl
  | false =>
    refine viaF fun hG9 => ?_
    obtain ⟨B, X, TT, hk⟩ := C
    refine hG9 ?_
    refine' enterP (binds := [(PySem.Str.ofString "tree", Value.ref T.t), (PySem.Str.ofString "node", Value.int (i : Int) ti), (PySem.Str.ofString "is_scripting", Value.bool false)]) B F X N TT hk hp (by ktr_room) ?ho ?hcd ?hb ?hl rfl ?_ ?c1 ?c2 ?c3 ?c4
    case ho => k_is
    case hcd => k_is
    case hb => first | exact BindsTo.of_eq rfl | exact hb _ _ _ _ (by k_is) | exact binds_K (by k_in) rfl (by k_is) rfl rfl rfl
    case hl => exact locs rfl
    case c1 => rfl
    case c2 => rfl
    case c3 => rfl
    case c4 => decide
    intro g L₁ h₁ tk hp₁ FG mm F₁ N₁ B₁ X₁ T₁ A₁ qk ek
    k_steps
    rename News _ _ _ _ => N9
    refine retS (hret _ _ _ (by assumption) (by k_asm) (news_sub N9 (by ktr_unf))) ?_
    unfold inText; rw [hen, hki]; rfl
theorem outer2_spec {T : TA} {as qs : List Addr} {nds : List Nd} {i : Nat} {d : Nd} {ti : Tok} (C : Cx w loose mean mg mb outer A₀ base h₀ cs) (F : Fr h₀ L gh m) (N : News h₀ L gh news) (hp : 0 < tk0) (hdp : dp + 12 < recursionLimit) (hun : un + 96 < cLine)
  (R : TreeRep w news T as qs nds) (G : Good nds) (hi : nds[i]? = some d)
  (hret : ∀ (t : Tok) (h' : Heap) (tk' : Nat), 0 < tk' → Fr h₀ L h' m → News h₀ L h' news → Q (.str (outText nds false i d) t) ⟨h', gn, dr, tk', os⟩) :
  wpAny (model PySem.Challenge.rw_nz0091_01.row.prog w) (ktrTop dp un gd cn cs L a ccd cl outer) (call (.ref 105) [.ref T.t, .int (i : Int) ti]) Q E ⟨gh, gn, dr, tk0, os⟩ := by
  refine viaF fun hG9 => ?_
  obtain ⟨U, ok, par, ixok, hfew⟩ := id G
  have hinst := R.inst
  have hdict := R.dict
  obtain ⟨_, hkind⟩ := R.kindAt hi
  have hcost : ([i].map (tsize nds)).sum ≤ 80000 := by
    have := tsize_le U hfew i
    simp only [List.map_cons, List.map_nil, List.sum_cons, List.sum_nil]; exact Nat.le_trans this (by decide)
  have his : ∀ c ∈ [i], c < nds.length := fun c hc => by rw [List.mem_singleton.mp hc]; exact lt_of_get hi
  have hvs : All2 IsNat [Value.int (i : Int) ti] [i] := .cons ⟨_, rfl⟩ .nil
  obtain ⟨B, X, TT, hk⟩ := C
  refine hG9 ?_
  refine' enterP (binds := [(PySem.Str.ofString "tree", Value.ref T.t), (PySem.Str.ofString "node", Value.int (i : Int) ti), (PySem.Str.ofString "is_scripting", Value.bool false)]) B F X N TT hk hp (by ktr_room) ?ho ?hcd ?hb ?hl rfl ?_ ?c1 ?c2 ?c3 ?c4
  case ho => k_is
  case hcd => k_is
  case hb => first | exact BindsTo.of_eq rfl | exact hb _ _ _ _ (by k_is) | exact binds_K (by k_in) rfl (by k_is) rfl rfl rfl
  case hl => exact locs rfl
  case c1 => rfl
  case c2 => rfl
  case c3 => rfl
  case c4 => decide
  intro g L₁ h₁ tk hp₁ FG mm F₁ N₁ B₁ X₁ T₁ A₁ qk ek
  k_steps
  · rename News _ _ _ _ => N9
    refine retS (hret _ _ _ (by assumption) (by k_asm) (news_sub N9 (by ktr_unf))) (outText1 (by assumption))
  · rename News _ _ _ _ => N9
    refine retS (hret _ _ _ (by assumption) (by k_asm) (news_sub N9 (by ktr_unf))) (outText2 (by assumption))
end

local macro_rules (kind := PyProof.Rows.tacticWalk_at_) | x => call9 "call ref" "outer_spec" 9 x
local macro_rules (kind := PyProof.Rows.tacticWalk_at_) | x => call9 "call ref" "inner2_spec" 9 x
local macro_rules (kind := PyProof.Rows.tacticWalk_at_) | x => call9 "call ref" "outer2_spec" 9 x

theorem strs_of {l : List (Str × Tok)} {xs : List Str} (e : l.map (fun x => x.1) = xs) : All2 IsStr (strValues l) xs := by
  subst e
  induction l with
  | nil => exact .nil
  | cons a r ih => exact .cons ⟨a.2, rfl⟩ ih
noncomputable def wstep (st : List Str × List Nat) (c : Nat) : List Str × List Nat := if c == 32 then (match st.2 with | [] => st | r => (st.1 ++ [⟨r.toArray⟩], [])) else (st.1, st.2 ++ [c])
theorem space_is : ∀ c, c < 127 → 32 ≤ c → Unicode.isSpace c = (c == 32) := by decide +kernel
theorem wstep_is : ∀ (l : List Nat) (ws : List Str) (r : List Nat), (l.all fun c => decide (c < 127) && decide (32 ≤ c)) = true → l.foldl KWd.step (ws, ⟨r.toArray⟩) = ((l.foldl wstep (ws, r)).1, ⟨(l.foldl wstep (ws, r)).2.toArray⟩)
  | [], _, _, _ => rfl
  | c :: l, ws, r, h => by
    simp only [List.all_cons, Bool.and_eq_true, decide_eq_true_eq] at h
    obtain ⟨⟨h1, h2⟩, h3⟩ := h
    rw [List.foldl_cons, List.foldl_cons]
    unfold KWd.step wstep
    rw [space_is c h1 h2]
    cases hc : (c == 32) with
    | true =>
      simp only [if_true]
      cases r with
      | nil => exact wstep_is l ws [] h3
      | cons a r => exact wstep_is l _ [] h3
    | false =>
      simp only [Bool.false_eq_true, if_false]
      have e : (⟨r.toArray⟩ : Str) ++ ⟨#[c]⟩ = ⟨(r ++ [c]).toArray⟩ := by apply Str.ext'; simp [Str.cps_append]
      rw [e]
      exact wstep_is l ws (r ++ [c]) h3
theorem words_is {x : Str} {ws : List Str} {r : List Nat} (h : (x.cps.toList.all fun c => decide (c < 127) && decide (32 ≤ c)) = true) (e : x.cps.toList.foldl wstep ([], []) = (ws, r)) (hr : r ≠ []) : Txt.words x = ws ++ [⟨r.toArray⟩] := by
  have e1 := wstep_is x.cps.toList [] [] h
  rw [e] at e1
  rw [KWd.words_scan]
  show KWd.fin (x.cps.toList.foldl KWd.step ([], ⟨[].toArray⟩)) = _
  rw [e1]
  unfold KWd.fin
  rw [if_neg]
  show ¬ r.toArray.size = 0
  cases r with
  | nil => exact absurd rfl hr
  | cons a r => simp
noncomputable def wcodes : List Nat := [104, 116, 109, 108, 46, 116, 101, 109, 112, 108, 97, 116, 101, 32, 104, 116, 109, 108, 46, 98, 114, 32, 104, 116, 109, 108, 46, 115, 116, 121, 108, 101, 32, 104, 116, 109, 108, 46, 110, 111, 115, 99, 114, 105, 112, 116, 32, 104, 116, 109, 108, 46, 100, 105, 118, 32, 115, 118, 103, 46, 115, 116, 121, 108, 101, 32, 115, 118, 103, 46, 98, 114, 32, 104, 116, 109, 108, 46, 112, 97, 114, 97, 109, 32, 115, 118, 103, 46, 116, 101, 109, 112, 108, 97, 116, 101, 32, 104, 116, 109, 108, 46, 116, 101, 120, 116, 97, 114, 101, 97, 32, 109, 97, 116, 104, 46, 110, 111, 115, 99, 114, 105, 112, 116, 32, 104, 116, 109, 108, 46, 115, 99, 114, 105, 112, 116, 32, 104, 116, 109, 108, 46, 120, 109, 112, 32, 104, 116, 109, 108, 46, 105, 102, 114, 97, 109, 101, 32, 104, 116, 109, 108, 46, 110, 111, 115, 99, 114, 105, 112, 116, 32, 104, 116, 109, 108, 46, 110, 111, 101, 109, 98, 101, 100, 32, 104, 116, 109, 108, 46, 110, 111, 102, 114, 97, 109, 101, 115, 32, 104, 116, 109, 108, 46, 112, 108, 97, 105, 110, 116, 101, 120, 116, 32, 104, 116, 109, 108, 46, 97, 114, 101, 97, 32, 104, 116, 109, 108, 46, 98, 97, 115, 101, 32, 104, 116, 109, 108, 46, 99, 111, 108, 32, 104, 116, 109, 108, 46, 101, 109, 98, 101, 100, 32, 104, 116, 109, 108, 46, 104, 114, 32, 104, 116, 109, 108, 46, 105, 109, 103, 32, 104, 116, 109, 108, 46, 105, 110, 112, 117, 116, 32, 104, 116, 109, 108, 46, 108, 105, 110, 107, 32, 104, 116, 109, 108, 46, 109, 101, 116, 97, 32, 104, 116, 109, 108, 46, 115, 111, 117, 114, 99, 101, 32, 104, 116, 109, 108, 46, 116, 114, 97, 99, 107, 32, 104, 116, 109, 108, 46, 119, 98, 114, 32, 104, 116, 109, 108, 46, 98, 97, 115, 101, 102, 111, 110, 116, 32, 104, 116, 109, 108, 46, 98, 103, 115, 111, 117, 110, 100, 32, 104, 116, 109, 108, 46, 102, 114, 97, 109, 101, 32, 104, 116, 109, 108, 46, 107, 101, 121, 103, 101, 110, 32, 104, 116, 109, 108, 46, 116, 105, 116, 108, 101, 32, 104, 116, 109, 108, 46, 112, 114, 101, 32, 104, 116, 109, 108, 46, 108, 105, 115, 116, 105, 110, 103, 32, 104, 116, 109, 108, 46, 112, 32, 104, 116, 109, 108, 46, 105, 109, 97, 103, 101, 32, 104, 116, 109, 108, 46, 109, 101, 110, 117, 105, 116, 101, 109, 32, 104, 116, 109, 108, 46, 102, 114, 97, 109, 101, 115, 101, 116, 32, 104, 116, 109, 108, 46, 111, 98, 106, 101, 99, 116, 32, 104, 116, 109, 108, 46, 99, 111, 108, 103, 114, 111, 117, 112, 32, 115, 118, 103, 46, 115, 99, 114, 105, 112, 116, 32, 115, 118, 103, 46, 116, 105, 116, 108, 101, 32, 115, 118, 103, 46, 112, 97, 114, 97, 109, 32, 109, 97, 116, 104, 46, 112, 108, 97, 105, 110, 116, 101, 120, 116, 32, 109, 97, 116, 104, 46, 105, 109, 103, 32, 115, 118, 103, 46, 120, 109, 112, 32, 115, 118, 103, 46, 110, 111, 115, 99, 114, 105, 112, 116, 32, 115, 118, 103, 46, 102, 111, 114, 101, 105, 103, 110, 79, 98, 106, 101, 99, 116, 32, 109, 97, 116, 104, 46, 97, 110, 110, 111, 116, 97, 116, 105, 111, 110, 45, 120, 109, 108, 32, 115, 118, 103, 46, 105, 102, 114, 97, 109, 101]
noncomputable def lawWords : List Str := List.map PySem.Str.ofString (["html.template", "html.br", "html.style", "html.noscript", "html.div", "svg.style", "svg.br", "html.param", "svg.template", "html.textarea", "math.noscript", "html.script", "html.xmp", "html.iframe", "html.noscript", "html.noembed",
  "html.noframes", "html.plaintext", "html.area", "html.base", "html.col", "html.embed", "html.hr", "html.img", "html.input", "html.link", "html.meta", "html.source", "html.track", "html.wbr", "html.basefont", "html.bgsound", "html.frame",
  "html.keygen", "html.title", "html.pre", "html.listing", "html.p", "html.image", "html.menuitem", "html.frameset", "html.object", "html.colgroup", "svg.script", "svg.title", "svg.param", "math.plaintext", "math.img", "svg.xmp",
  "svg.noscript", "svg.foreignObject", "math.annotation-xml", "svg.iframe"] : List String)
noncomputable abbrev wtext : Str := (PySem.Str.ofString "html.template html.br html.style html.noscript html.div svg.style svg.br html.param svg.template html.textarea math.noscript html.script html.xmp html.iframe html.noscript html.noembed " ++
                PySem.Str.ofString "html.noframes html.plaintext html.area html.base html.col html.embed html.hr html.img html.input " ++
              PySem.Str.ofString "html.link html.meta html.source html.track html.wbr html.basefont html.bgsound html.frame " ++
            PySem.Str.ofString "html.keygen html.title html.pre html.listing html.p html.image html.menuitem html.frameset " ++
          PySem.Str.ofString "html.object html.colgroup svg.script svg.title svg.param math.plaintext math.img svg.xmp " ++
        PySem.Str.ofString "svg.noscript svg.foreignObject math.annotation-xml svg.iframe")

theorem wtext_codes : wtext.cps.toList = wcodes := by decide +kernel
theorem wtext_words : Txt.words wtext = lawWords := by
  refine (words_is (ws := lawWords.dropLast) (r := (lawWords.getLast (by decide)).cps.toList) (by rw [wtext_codes]; decide +kernel) (by rw [wtext_codes]; decide +kernel) (by decide +kernel)).trans (by decide +kernel)
section
variable {prog : Program} {w : World} {A : Around} {E : Value → Shared → Prop} {gh : Heap} {gn : Array GenState} {dr : Drawn} {tk0 : Nat} {os : OsState} {h₀ : Heap} {L : Addr} {m : Str → Option Value} {news : Led} {x y : Str} {t u : Tok} {Q : Value → Shared → Prop}
theorem splitW (F : Fr h₀ L gh m) (N : News h₀ L gh news) (hp : 0 < tk0) (hsz : x.length ≤ 16000000)
    (h : ∀ D vs h' k, 0 < k → All2 IsStr vs (Txt.words x) → Fr h₀ L h' m → News h₀ L h' ((D, LO vs 0) :: news) → (∀ p ∈ news, @LT.lt Nat _ p.1 D) → Q (.ref D) ⟨h', gn, dr, k, os⟩) :
    wpAny (model prog w) A (call (.builtin "str.split") [.str x t]) Q E ⟨gh, gn, dr, tk0, os⟩ :=
  wpAny_pos hp (KSpl.split0 F N (fun D l h' k e _ F' N' lt hk => h D _ h' k hk (e ▸ strs_of rfl) F' N' lt) (Nat.le_trans (Nat.add_le_add_right hsz 2) (by decide)))
theorem splitB (F : Fr h₀ L gh m) (N : News h₀ L gh news) (hp : 0 < tk0) (hy : (y.length == 0) = false) (hsz : x.length ≤ 16000000)
    (h : ∀ D vs h' k, 0 < k → All2 IsStr vs (Txt.split x y) → Fr h₀ L h' m → News h₀ L h' ((D, LO vs 0) :: news) → (∀ p ∈ news, @LT.lt Nat _ p.1 D) → Q (.ref D) ⟨h', gn, dr, k, os⟩) :
    wpAny (model prog w) A (call (.builtin "str.split") [.str x t, .str y u]) Q E ⟨gh, gn, dr, tk0, os⟩ :=
  wpAny_pos hp (KSpl.split1 F N hy (fun D l h' k e _ F' N' lt hk => h D _ h' k hk (e ▸ strs_of rfl) F' N' lt) (Nat.le_trans (Nat.add_le_add_right hsz 2) (by decide)))
end

local macro_rules (kind := PyProof.Rows.tacticWalk_at_) | x => call9 "call builtin:str.split" "splitW" 4 x
local macro_rules (kind := PyProof.Rows.tacticWalk_at_) | x => call9 "call builtin:str.split" "splitB" 5 x

noncomputable def pieces : List Str := ["<", "&", "\u00a0", "\"", ">", "a", "'", ";", "amp;", "\n", "--", "\x00", "="]
theorem piece_len : ∀ x ∈ pieces, x.length ≤ 4 := by decide
inductive LT9 (n : Nat) (lp : Addr) (news : Led) (m₀ : Str → Option Value) (i : Nat) (m' : Str → Option Value) (nw : Led) : Prop
  | mk (vp : List Value) (x : Str) (t : Tok) (q : Int) (u tm : Tok) (h1 : nw = (lp, LO vp 0) :: news) (h2 : All2 IsStr vp pieces) (h3 : x.length ≤ 4 * i)
    (h4 : ∀ y : Str, y ≠ "k" → m' y = (fun y : Str => if y = "out" then some (Value.str x t) else if y = "digit" then some (Value.int q u) else if y = "many" then some (Value.int (n : Int) tm) else if y = "pieces" then some (Value.ref lp) else m₀ y) y) : LT9 n lp news m₀ i m' nw
section
variable {w : World} {loose : List Str} {mean : ExcName → Option Value} {mg mb : Str → Option Value} {dp un : Nat} {gd : Option (List Code)} {cn : Str} {cs : Scope} {a : Addr} {ccd : Value} {cl : List (Str × Addr)} {outer : List Env} {A₀ : Around} {base h₀ : Heap} {L : Addr} {m : Str → Option Value} {gh : Heap} {gn : Array GenState} {dr : Drawn} {tk0 : Nat} {os : OsState} {Q E : Value → Shared → Prop} {news : Led}
--TT
theorem law_text_spec {dg : Int} {td : Tok} (C : Cx w loose mean mg mb outer A₀ base h₀ cs) (F : Fr h₀ L gh m) (N : News h₀ L gh news) (hp : 0 < tk0) (hdp : dp + 2 < recursionLimit) (hun : un + 16 < cLine)
  (hret : ∀ (x : Str) (t : Tok) (h' : Heap) (tk' : Nat), x.length ≤ 6 → 0 < tk' → Fr h₀ L h' m → News h₀ L h' news → Q (.str x t) ⟨h', gn, dr, tk', os⟩) :
  wpAny (model PySem.Challenge.rw_nz0091_01.row.prog w) (ktrTop dp un gd cn cs L a ccd cl outer) (call (.ref 282) [.int dg td]) Q E ⟨gh, gn, dr, tk0, os⟩ := by
  refine viaF fun hG9 => ?_
  obtain ⟨B, X, TT, hk⟩ := C
  refine hG9 ?_
  refine' enterP (binds := [(PySem.Str.ofString "digit", Value.int dg td)]) B F X N TT hk hp (by ktr_room) ?ho ?hcd ?hb ?hl rfl ?_ ?c1 ?c2 ?c3 ?c4
  case ho => k_is
  case hcd => k_is
  case hb => first | exact BindsTo.of_eq rfl | exact hb _ _ _ _ (by k_is) | exact binds_K (by k_in) rfl (by k_is) rfl rfl rfl
  case hl => exact locs rfl
  case c1 => rfl
  case c2 => rfl
  case c3 => rfl
  case c4 => decide
  intro g L₁ h₁ tk hp₁ FG mm F₁ N₁ B₁ X₁ T₁ A₁ qk ek
  k_steps
  unfold Stop
  refine wpAny_For (wpAny_pos (by tb_rel) ?_)
  k_steps
  unfold Stop
  rename Fr _ _ _ _ => F9
  rename News _ _ _ _ => N9
  rename IsRange _ _ _ _ _ _ _ _ => R9
  rename_i lp _ _ _ _ _ _ _ _ _ _ _ _ _ _ _ _ _ _ _ _ _ _ _ _ _ _ _ _ _ _ _ _ _
  refine viaF fun hG9 => ?_
  obtain ⟨n, hn, hn5⟩ : ∃ n : Nat, dg.fmod 5 = (n : Int) ∧ n ≤ 4 := let ⟨n, h1, h2⟩ := fmodN 5 rfl rfl; ⟨n, h1, Nat.le_of_lt_succ h2⟩
  refine hG9 ?_
  dsimp +zetaDelta only at F9
  rw [hn] at R9 F9
  refine forRange (n := n) rfl rfl rfl F9 N9 R9 (small1 (Nat.le_trans hn5 (by decide))) size1 (by tb_rel)
    (LT9 n lp news (List.lookup · [(PySem.Str.ofString "digit", Value.int dg td)].reverse)) ?init ?step ?done
  case init => exact ⟨_, PySem.Str.ofString "", _, _, _, _, rfl, .cons ⟨_, rfl⟩ (.cons ⟨_, rfl⟩ (.cons ⟨_, rfl⟩ (.cons ⟨_, rfl⟩ (.cons ⟨_, rfl⟩ (.cons ⟨_, rfl⟩ (.cons ⟨_, rfl⟩ (.cons ⟨_, rfl⟩ (.cons ⟨_, rfl⟩ (.cons ⟨_, rfl⟩ (.cons ⟨_, rfl⟩ (.cons ⟨_, rfl⟩ (.cons ⟨_, rfl⟩ .nil)))))))))))), (by decide), fun y _ => rfl⟩
  case step =>
    rintro i tk0 m' nw h tk I oI hi ⟨vp, x, t, q, u, tm, rfl, hvp, hx, hm'⟩ hpk F4 N4 off
    rw [fr_turn hm'] at F4
    refine viaF fun hG9 => ?_
    obtain ⟨j, hj, hj13⟩ : ∃ j : Nat, q.fmod 13 = (j : Int) ∧ j < 13 := fmodN 13 rfl rfl
    have hj14 : j < pieces.length := hj13
    obtain ⟨z, hz⟩ : ∃ z, pieces[j]? = some z := ⟨pieces[j], by simp [hj14]⟩
    obtain ⟨v, hv, tv, rfl⟩ := hvp.get hz
    have hpl := piece_len z (List.mem_of_getElem? hz)
    have hx16 : x.length ≤ 4 * 4 := Nat.le_trans hx (Nat.mul_le_mul_left 4 (Nat.le_trans (Nat.le_of_lt hi) hn5))
    have hitem : ItemAt ((lp, LO vp 0) :: news) lp (q.fmod 13) (.str z tv) := hj ▸ .of (List.mem_cons_self ..) hv (lt62b hj13 rfl)
    refine hG9 ?_
    try dsimp only
    k_steps
    rename Fr _ _ _ _ => F5
    rename News _ _ _ _ => N5
    refine turnS_next F5 N5 off ⟨vp, x ++ z, ?t, q.fdiv 13, ?u, tm, rfl, hvp, ?len, ?fr⟩
    case fr =>
      intro y hy
      by_cases h1 : y = "out"
      · subst h1; rfl
      by_cases h2 : y = "digit"
      · subst h2; rfl
      simp +zetaDelta only [if_neg h1, if_neg h2, if_neg hy]
    case len => rw [Str.length_append]; exact Nat.add_le_add hx hpl
  case done =>
    rintro m' nw h tk ⟨vp, x, t, q, u, tm, rfl, hvp, hx, hm'⟩ hpk F4 N4
    rw [fr_end hm'] at F4
    intro hpk2
    try dsimp only
    k_steps
    rename Fr _ _ _ _ => F5
    rename News _ _ _ _ => N5
    refine hret _ _ _ _ ?_ (by assumption) F5 (news_sub N5 (by ktr_unf))
    have h1 := fact_slice_ns x 6
    rcases Nat.le_total x.length 6 with h | h
    · have := h1.2 (by omega); omega
    · have := h1.1 (by omega) (by omega); omega
end

local macro_rules (kind := PyProof.Rows.tacticWalk_at_) | x => call9 "call ref" "law_text_spec" 6 x

noncomputable def lawBase : List Nat := [7, 0, 67, 32, 1, 118810, 0, 1, 0, 4, 3, 67, 5, 2, 272, 16, 3, 1877, 4, 4, 527, 24, 1, 0, 4, 5, 67, 8, 11, 118810, 4, 6, 272, 40, 11, 0, 4, 7, 67, 6, 16, 15524, 48, 9, 7635, 67, 0, 0]
theorem news_head {h₀ h : Heap} {L : Addr} {p1 : Addr × Obj} {r1 r2 : Led} (N : News h₀ L h (p1 :: (r1 ++ r2))) : News h₀ L h (p1 :: r2) := news_sub N fun p hp => by
  simp only [List.mem_cons, List.mem_append] at hp ⊢
  rcases hp with h | h <;> simp [h]
section
variable {w : World} {loose : List Str} {mean : ExcName → Option Value} {mg mb : Str → Option Value} {dp un : Nat} {gd : Option (List Code)} {cn : Str} {cs : Scope} {a : Addr} {ccd : Value} {cl : List (Str × Addr)} {outer : List Env} {A₀ : Around} {base h₀ : Heap} {L : Addr} {m : Str → Option Value} {gh : Heap} {gn : Array GenState} {dr : Drawn} {tk0 : Nat} {os : OsState} {Q E : Value → Shared → Prop} {news : Led}
theorem law_words_spec (C : Cx w loose mean mg mb outer A₀ base h₀ cs) (F : Fr h₀ L gh m) (N : News h₀ L gh news) (hp : 0 < tk0) (hdp : dp + 2 < recursionLimit) (hun : un + 16 < cLine)
  (hret : ∀ (a : Addr) (vs : List Value) (h' : Heap) (tk' : Nat), 0 < tk' → All2 IsStr vs lawWords → (∀ p ∈ news, @LT.lt Nat _ p.1 a) → Fr h₀ L h' m → News h₀ L h' ((a, LO vs 0) :: news) → Q (.ref a) ⟨h', gn, dr, tk', os⟩) :
  wpAny (model PySem.Challenge.rw_nz0091_01.row.prog w) (ktrTop dp un gd cn cs L a ccd cl outer) (call (.ref 275) []) Q E ⟨gh, gn, dr, tk0, os⟩ := by
  refine viaF fun hG9 => ?_
  obtain ⟨B, X, TT, hk⟩ := C
  refine hG9 ?_
  refine' enterP (binds := []) B F X N TT hk hp (by ktr_room) ?ho ?hcd ?hb ?hl rfl ?_ ?c1 ?c2 ?c3 ?c4
  case ho => k_is
  case hcd => k_is
  case hb => first | exact BindsTo.of_eq rfl | exact hb _ _ _ _ (by k_is) | exact binds_K (by k_in) rfl (by k_is) rfl rfl rfl
  case hl => exact locs rfl
  case c1 => rfl
  case c2 => rfl
  case c3 => rfl
  case c4 => decide
  intro g L₁ h₁ tk hp₁ FG mm F₁ N₁ B₁ X₁ T₁ A₁ qk ek
  k_steps
  rename Fr _ _ _ _ => F9
  rename News _ _ _ _ => N9
  rename All2 _ _ _ => e9
  refine hret _ _ _ _ (by assumption) (wtext_words ▸ e9) (by assumption) F9 N9
theorem law_base_spec (C : Cx w loose mean mg mb outer A₀ base h₀ cs) (F : Fr h₀ L gh m) (N : News h₀ L gh news) (hp : 0 < tk0) (hdp : dp + 2 < recursionLimit) (hun : un + 16 < cLine)
  (hret : ∀ (a : Addr) (vs : List Value) (h' : Heap) (tk' : Nat), 0 < tk' → All2 IsNat vs lawBase → Fr h₀ L h' m → News h₀ L h' ((a, TO vs 0) :: news) → Q (.ref a) ⟨h', gn, dr, tk', os⟩) :
  wpAny (model PySem.Challenge.rw_nz0091_01.row.prog w) (ktrTop dp un gd cn cs L a ccd cl outer) (call (.ref 268) []) Q E ⟨gh, gn, dr, tk0, os⟩ := by
  refine viaF fun hG9 => ?_
  obtain ⟨B, X, TT, hk⟩ := C
  refine hG9 ?_
  refine' enterP (binds := []) B F X N TT hk hp (by ktr_room) ?ho ?hcd ?hb ?hl rfl ?_ ?c1 ?c2 ?c3 ?c4
  case ho => k_is
  case hcd => k_is
  case hb => first | exact BindsTo.of_eq rfl | exact hb _ _ _ _ (by k_is) | exact binds_K (by k_in) rfl (by k_is) rfl rfl rfl
  case hl => exact locs rfl
  case c1 => rfl
  case c2 => rfl
  case c3 => rfl
  case c4 => decide
  intro g L₁ h₁ tk hp₁ FG mm F₁ N₁ B₁ X₁ T₁ A₁ qk ek
  k_steps
  rename Fr _ _ _ _ => F9
  rename News _ _ _ _ => N9
  refine hret _ _ _ _ (Nat.succ_pos _) ?_ F9 (news_head (r1 := [_, _, _, _]) N9)
  unfold lawBase
  repeat first | exact .nil | refine .cons ⟨_, rfl⟩ ?_
end

section
variable {prog : Program} {w : World} {loose : List Str} {mean : ExcName → Option Value} {mg mb : Str → Option Value} {dp un : Nat} {gd : Option (List Code)} {cn : Str} {cs : Scope} {a : Addr} {ccd : Value} {cl : List (Str × Addr)} {outer : List Env} {A₀ : Around} {base h₀ : Heap} {L : Addr} {m : Str → Option Value} {gh : Heap} {gn : Array GenState} {dr : Drawn} {tk0 : Nat} {os : OsState} {Q E : Value → Shared → Prop} {news : Led} {K : Frag} {p : Program}
theorem kinds_of {scope : Scope} {binds : List (Str × Value)} (hk : (binds.all fun y => scope.names.lookup y.1 == some .local || scope.names.lookup y.1 == some .cell) = true) (n : Nat) :
    ∀ x ∈ binds, scope.names.lookup x.1 = some .local ∨ (scope.names.lookup x.1 = some .cell ∧ ((cellsFrom n scope.names []).lookup x.1).isSome = true) := by
  intro x hx
  have h := List.all_eq_true.mp hk x hx
  rcases Bool.or_eq_true _ _ ▸ h with h | h
  · exact .inl (eq_of_beq h)
  · exact .inr ⟨eq_of_beq h, cellsFrom_some _ _ _ (.inl (eq_of_beq h))⟩
/-- a def with cells is entered; its body ends by no exception -/
theorem enterC {name qual : Str} {params : Arguments} {body : List Stmt} {scope : Scope} {dV kV doc pm cdv ct oc : Value} {an od : Option Addr} {osl : Array (Option Value)} {f : Addr} {args : List Value} {kws : List (Str × Value)} {binds : List (Str × Value)}
    (B : Below A₀ base outer h₀) (F : Fr h₀ L gh m) (X₀ : K.In h₀) (N : News h₀ L gh news) (T : Top p loose mean mg mb h₀) (hke : cs.kind = .function) (hpos : 0 < tk0) (hroom : dp < recursionLimit)
    (ho : K.lookup f = some ⟨oc, od, .func (fnOf name qual params body scope dV kV doc pm an cdv ct), osl⟩) (hcd : codeIn K cdv qual = true)
    (hbind : BindsTo ⟨gh, gn, dr, tk0, os⟩ (fnOf name qual params body scope dV kV doc pm an cdv ct) ⟨args, kws⟩ binds) (hkind : (binds.all fun y => scope.names.lookup y.1 == some .local || scope.names.lookup y.1 == some .cell) = true)
    (hnd : ((cellsFrom 0 scope.names []).map (·.1)).Nodup)
    (h : ∀ (g : Heap) (L' : Addr) (h₁ : Heap) (tk : Nat) (cells : Led), 0 < tk → Fr h₀ L g m → Fr g L' h₁ (bindL (envOfC qual scope L' f cdv).kindOf binds fun _ => none) → News g L' h₁ (cells ++ news) →
      CellsAre (bindC (envOfC qual scope L' f cdv).kindOf binds fun _ => none) (cellsFrom (L' + 1) scope.names []) cells →
      Below (ktrTop dp un gd cn cs L a ccd cl outer) base (envX cn cs L a ccd cl :: outer) g → K.In g → Top p loose mean mg mb g → (∀ p ∈ news, p.1 < L') →
      let A₁ : Around := ktrTop (dp + 1) (un + 3) gd qual scope L' f cdv (cellsFrom (L' + 1) scope.names []) (envX cn cs L a ccd cl :: outer);
      wpAny (model prog w) A₁ (execs body (envOfC qual scope L' f cdv))
        (fun fl s' => LeaveK h₀ L m g (fun r s'' => match r with | .ok (.ret v) => Q v s'' | .ok _ => False | .error e => E e s'') (match fl with | .ret v => v | _ => .none) s') (fun _ _ => False)
        ⟨h₁, gn, dr, tk, os⟩)
    (hco : scope.isCoroutine = false) (hgen : scope.isGenerator = false) (hk : scope.kind = .function) :
    wpAny (model prog w) (ktrTop dp un gd cn cs L a ccd cl outer) (call (.ref f) args kws) Q E ⟨gh, gn, dr, tk0, os⟩ := by
  refine wpAny_call ?_
  obtain ⟨FG, BG, st, lv⟩ := groundX (s := ⟨gh, gn, dr, tk0, os⟩) (A := ktrTop dp un gd cn cs L a ccd cl outer) (R := fun r s'' => match r with | .ok (.ret v) => Q v s'' | .ok _ => False | .error e => E e s'') B F N rfl rfl hke
  refine codeAny_call_function hroom ((X₀.keeps F.keep) _ _ ho) rfl hco hgen rfl (codeRec_of (X₀.keeps F.keep) hcd) (hbind _ _ _ _ ?_)
  refine wpAny_pos hpos (wpAny_newFunctionEnv_cells hk (kinds_of hkind _) fun env' he s' x hps => ?_)
  subst he
  refine ⟨(T.nolimit.keeps F.keep).keeps x.toInCall.keep, codeAny_func ?_⟩
  obtain ⟨h₁, tk, rfl, _⟩ := x.done
  have hk₁ := x.toInCall.keep
  obtain ⟨cells, NC, Y⟩ := Cl.news (h₀ := gh) (Nat.le_refl _) fun n c hm => ⟨x.cell n c (lookup_of_mem_nodup (cellsFrom_names scope.names 0 (gh.objs.size + 1) [] [] rfl ▸ hnd) hm), x.above n c hm⟩
  refine wpAny_mono (h _ gh.objs.size h₁ tk cells hps FG ⟨x.toInCall.ns, fun b o e => hk₁ b o (of_hideAll _ e), Nat.le_of_eq (hideAll_size _ _)⟩ (fun p hp => ?_) Y BG (X₀.keeps st) (T.keeps st) (fun p hp => Heap.lt_size (N p hp).1)) (fun fl s' hl => lv _ _ hl) fun _ _ y => y.elim
  rcases List.mem_append.mp hp with hp | hp
  · refine ⟨(NC p hp).1, (NC p hp).2.1, ?_⟩
    cases q : (hideAll gh (news.map (·.1))).get? p.1 with
    | none => rfl
    | some o => have := of_hideAll _ q; rw [(NC p hp).2.2] at this; cases this
  · exact ⟨hk₁ _ _ (N p hp).1, Nat.ne_of_lt (Heap.lt_size (N p hp).1), hideAll_none _ (List.mem_map_of_mem hp)⟩
end

theorem allLt_ne {d : Addr} {l : Led} (h : AllLt d l) : ∀ p ∈ l, p.1 ≠ d := fun p hp => Nat.ne_of_lt (allLt_all h p hp)

local macro_rules (kind := PySem.W.tacticK_all) | _x => seq9 [refine9 "allLt_ne ?", first9 [asm9, exact9 "And.right @@", exact9 "And.right ( And.right @@ )", exact9 "And.right ( And.right ( And.right @@ ) )"]]
local macro_rules (kind := PySem.W.tacticK_all) | _x => asm9
local macro_rules (kind := PyProof.Rows.tacticWalk_at_) | x => call9 "call ref" "law_words_spec" 6 x
local macro_rules (kind := PyProof.Rows.tacticWalk_at_) | x => on9 "compareOp In str ref" x (seq9 [red9 (refine9 "in_list_strs ( lo_isList ? ? ) ( strsAre_of ? ) ?"), iter9 3])

noncomputable def voidsL : List Str := ["area", "base", "basefont", "bgsound", "br", "col", "embed", "frame", "hr", "img", "input", "keygen", "link", "meta", "param", "source", "track", "wbr"]
theorem voidsL_any (x : Str) : voidsL.any (· == x) = (voids1.any (· == x) || voids2.any (· == x)) := by
  simp only [voidsL, voids1, voids2, List.any_cons, List.any_nil, Bool.or_false]
  ac_rfl
theorem voids_words : Txt.words "area base basefont bgsound br col embed frame hr img input keygen link meta param source track wbr" = voidsL := by
  rw [KWd.words_scan]; decide +kernel
theorem void_yes {d : Nd} (h : (d.space == "html") = true) : (Txt.words "area base basefont bgsound br col embed frame hr img input keygen link meta param source track wbr").any (· == d.name) = d.endless := by
  rw [voids_words, voidsL_any]; unfold Nd.endless; rw [h]; rfl
theorem void_no {d : Nd} (h : (d.space == "html") = false) : false = d.endless := by
  unfold Nd.endless; rw [h]; rfl
section
variable {w : World} {loose : List Str} {mean : ExcName → Option Value} {mg mb : Str → Option Value} {dp un : Nat} {gd : Option (List Code)} {cn : Str} {cs : Scope} {a : Addr} {ccd : Value} {cl : List (Str × Addr)} {outer : List Env} {A₀ : Around} {base h₀ : Heap} {L : Addr} {m : Str → Option Value} {gh : Heap} {gn : Array GenState} {dr : Drawn} {tk0 : Nat} {os : OsState} {Q E : Value → Shared → Prop} {news : Led}
theorem law_is_void_spec {nn : Addr} {d : Nd} {t1 t2 : Tok} (C : Cx w loose mean mg mb outer A₀ base h₀ cs) (F : Fr h₀ L gh m) (N : News h₀ L gh news) (hp : 0 < tk0) (hdp : dp + 2 < recursionLimit) (hun : un + 16 < cLine)
  (h1 : ItemAt news nn 1 (.str d.space t1)) (h2 : ItemAt news nn 2 (.str d.name t2))
  (hret : ∀ (h' : Heap) (tk' : Nat), 0 < tk' → Fr h₀ L h' m → News h₀ L h' news → Q (.bool d.endless) ⟨h', gn, dr, tk', os⟩) :
  wpAny (model PySem.Challenge.rw_nz0091_01.row.prog w) (ktrTop dp un gd cn cs L a ccd cl outer) (call (.ref 299) [.ref nn]) Q E ⟨gh, gn, dr, tk0, os⟩ := by
  refine viaF fun hG9 => ?_
  obtain ⟨B, X, TT, hk⟩ := C
  refine hG9 ?_
  refine' enterP (binds := [(PySem.Str.ofString "note", Value.ref nn)]) B F X N TT hk hp (by ktr_room) ?ho ?hcd ?hb ?hl rfl ?_ ?c1 ?c2 ?c3 ?c4
  case ho => k_is
  case hcd => k_is
  case hb => first | exact BindsTo.of_eq rfl | exact hb _ _ _ _ (by k_is) | exact binds_K (by k_in) rfl (by k_is) rfl rfl rfl
  case hl => exact locs rfl
  case c1 => rfl
  case c2 => rfl
  case c3 => rfl
  case c4 => decide
  intro g L₁ h₁ tk hp₁ FG mm F₁ N₁ B₁ X₁ T₁ A₁ qk ek
  k_steps
  · rename News _ _ _ _ => N9
    exact retB (hret _ _ (by assumption) (by k_asm) (news_sub N9 (by ktr_unf))) (void_yes (by assumption))
  · rename News _ _ _ _ => N9
    exact retB (hret _ _ (Nat.succ_pos _) (by k_asm) (news_sub N9 (by ktr_unf))) (Eq.trans (by assumption) (void_no (by assumption)))
end

local macro_rules (kind := PyProof.Rows.tacticWalk_at_) | x => call9 "call ref" "law_is_void_spec" 8 x

noncomputable def RowsFun (q : Bool) (kvs : List (Str × Value)) : Prop := ∀ c u, IsStr ((valueAt kvs ⟨#[c]⟩).getD (.str ⟨#[c]⟩ u)) ⟨(escSign q c).toArray⟩
theorem key_is (k c : Nat) : (decide ((⟨#[k]⟩ : Str) = ⟨#[c]⟩)) = decide (c = k) := by
  by_cases h : c = k
  · subst h; simp
  · have : ¬ ((⟨#[k]⟩ : Str) = ⟨#[c]⟩) := fun e => by
      have := congrArg (fun x : Str => x.cps.toList) e
      simp at this; exact h this.symm
    simp [h, this]
theorem rows4 (t1 t2 t3 t4 : Tok) : RowsFun false [(PySem.Str.ofString "&", .str "&amp;" t1), (PySem.Str.ofString "\u00a0", .str "&nbsp;" t2), (PySem.Str.ofString "<", .str "&lt;" t3), (PySem.Str.ofString ">", .str "&gt;" t4)] := by
  have e1 : (PySem.Str.ofString "&") = ⟨#[38]⟩ := by decide +kernel
  have e2 : (PySem.Str.ofString "\u00a0") = ⟨#[160]⟩ := by decide +kernel
  have e3 : (PySem.Str.ofString "<") = ⟨#[60]⟩ := by decide +kernel
  have e4 : (PySem.Str.ofString ">") = ⟨#[62]⟩ := by decide +kernel
  have a1 : (PySem.Str.ofString "&amp;") = ⟨[38, 97, 109, 112, 59].toArray⟩ := by decide +kernel
  have a2 : (PySem.Str.ofString "&nbsp;") = ⟨[38, 110, 98, 115, 112, 59].toArray⟩ := by decide +kernel
  have a3 : (PySem.Str.ofString "&lt;") = ⟨[38, 108, 116, 59].toArray⟩ := by decide +kernel
  have a4 : (PySem.Str.ofString "&gt;") = ⟨[38, 103, 116, 59].toArray⟩ := by decide +kernel
  intro c u
  rw [e1, e2, e3, e4, a1, a2, a3, a4]
  unfold valueAt escSign
  simp only [List.find?_cons, List.find?_nil, key_is]
  by_cases h1 : c = 38
  · simp [h1, IsStr]
  by_cases h2 : c = 160
  · simp [h2, IsStr]
  by_cases h3 : c = 60
  · simp [h3, IsStr]
  by_cases h4 : c = 62
  · simp [h4, IsStr]
  simp [h1, h2, h3, h4, IsStr]
theorem rows5 (t1 t2 t3 t4 t5 : Tok) : RowsFun true [(PySem.Str.ofString "&", .str "&amp;" t1), (PySem.Str.ofString "\u00a0", .str "&nbsp;" t2), (PySem.Str.ofString "<", .str "&lt;" t3), (PySem.Str.ofString ">", .str "&gt;" t4), (PySem.Str.ofString "\"", .str "&quot;" t5)] := by
  have e1 : (PySem.Str.ofString "&") = ⟨#[38]⟩ := by decide +kernel
  have e2 : (PySem.Str.ofString "\u00a0") = ⟨#[160]⟩ := by decide +kernel
  have e3 : (PySem.Str.ofString "<") = ⟨#[60]⟩ := by decide +kernel
  have e4 : (PySem.Str.ofString ">") = ⟨#[62]⟩ := by decide +kernel
  have e5 : (PySem.Str.ofString "\"") = ⟨#[34]⟩ := by decide +kernel
  have a1 : (PySem.Str.ofString "&amp;") = ⟨[38, 97, 109, 112, 59].toArray⟩ := by decide +kernel
  have a2 : (PySem.Str.ofString "&nbsp;") = ⟨[38, 110, 98, 115, 112, 59].toArray⟩ := by decide +kernel
  have a3 : (PySem.Str.ofString "&lt;") = ⟨[38, 108, 116, 59].toArray⟩ := by decide +kernel
  have a4 : (PySem.Str.ofString "&gt;") = ⟨[38, 103, 116, 59].toArray⟩ := by decide +kernel
  have a5 : (PySem.Str.ofString "&quot;") = ⟨[38, 113, 117, 111, 116, 59].toArray⟩ := by decide +kernel
  intro c u
  rw [e1, e2, e3, e4, e5, a1, a2, a3, a4, a5]
  unfold valueAt escSign
  simp only [List.find?_cons, List.find?_nil, key_is]
  by_cases h1 : c = 38
  · simp [h1, IsStr]
  by_cases h2 : c = 160
  · simp [h2, IsStr]
  by_cases h3 : c = 60
  · simp [h3, IsStr]
  by_cases h4 : c = 62
  · simp [h4, IsStr]
  by_cases h5 : c = 34
  · simp [h5, IsStr]
  simp [h1, h2, h3, h4, h5, IsStr]
theorem glue_signs (q : Bool) : ∀ l : List Nat, glue (l.map fun c => (⟨(escSign q c).toArray⟩ : Str)) = ⟨(l.flatMap (escSign q)).toArray⟩
  | [] => rfl
  | c :: l => by
    show (⟨(escSign q c).toArray⟩ : Str) ++ glue _ = _
    rw [glue_signs q l]
    apply Str.ext'
    simp [Str.cps_append]
section
variable {prog : Program} {w : World} {A : Around} {E : Value → Shared → Prop} {gh : Heap} {gn : Array GenState} {dr : Drawn} {tk0 : Nat} {os : OsState} {h₀ : Heap} {L : Addr} {m : Str → Option Value} {env : Env}
open LCg in
noncomputable def StrSrc (prog : Program) (w : World) (A : Around) (h₀ : Heap) (L : Addr) (m : Str → Option Value) (env : Env) (elt : Expr) (x : Str) (scope : Scope) (cl : List (Str × Addr)) (Q : Value → Shared → Prop) (v : Value) (s₁ : Shared) : Prop :=
  ∃ y u news, v = .str y u ∧ Fr h₀ L s₁.heap m ∧ News h₀ L s₁.heap news ∧ y.cps.size ≤ sizeLine ∧
      ∀ g, CompRest prog w A h₀ L m env elt x scope cl { s₁ with heap := g } (fun _ => True) (SignAt y) (FinE h₀ L m { s₁ with heap := g } Q) y.cps.size 0 [] news
open LCg in
theorem ListComp_S {elt iter : Expr} {x : Str} {px : Pos} {scope : Scope} {cl : List (Str × Addr)} {pos : Pos} {Q : Value → Shared → Prop} (_F₀ : Fr h₀ L gh m) (hh : A.handled = none) (hcloses : closureFor scope env = pure cl) (hcell : ∀ y ∈ scope.names, y.2 ≠ .cell) (hkind : scope.kind = .function)
    (hnames : ∀ y ∈ scope.names, y.2 = .local → scope.names.lookup y.1 = some .local) (hx : scope.names.lookup x = some .local)
    (h : wpAny (model prog w) A (eval iter env) (StrSrc prog w A h₀ L m env elt x scope cl Q) E ⟨gh, gn, dr, tk0, os⟩)
    (hs : ∀ x, foldedSetIterable iter env x = pure x := by intro _; rfl) :
    wpAny (model prog w) A (eval (.ListComp elt [⟨.Name x px, iter, [], 0⟩] scope pos) env) Q E ⟨gh, gn, dr, tk0, os⟩ := by
  rw [eval_ListComp]
  refine wpAny_comprehension_free (use := none) rfl hs hcloses hkind hnames (wpAny_mono h (fun xv s₁ h₁ => ?_) fun _ _ e => e)
  obtain ⟨y, u, news, rfl, F, N, hsz, R⟩ := h₁
  have up : ∀ (o₁ : Obj), ∀ b o, s₁.heap.get? b = some o → (s₁.heap.push o₁).get? b = some o := fun o₁ b o e => Heap.get?_push_of_some _ e
  have go : ∀ (nm : String), Walks prog w A s₁.heap.objs.size [s₁.heap.objs.size] [s₁.heap.objs.size] y.cps.size (SignAt y) (fun i h => h.IsStrIter s₁.heap.objs.size nm y u i) →
      wpAny (model prog w) A (newList []) (fun acc s₃ => wpAny (model prog w) A (newFunctionEnv scope env.globals cl [] env.qual none .none (some env)) (fun cenv s₄ =>
        codeAny (model prog w) A (.compStart (.ListComp elt [⟨.Name x px, iter, [], 0⟩] scope pos) 0 (.ref s₁.heap.objs.size) acc { cenv with scope := relabel scope env }) (compPost (model prog w) A E none Q acc cenv.locals) s₄) E s₃) E
        { s₁ with heap := s₁.heap.push { cls := .type nm, data := .fields #[.str y u, .int 0 0] } } := by
    intro nm W
    refine block_U W hsz (fun i h st => by obtain ⟨o, e, _⟩ := st; exact ⟨o, e⟩) (S := fun _ => True) (fun i h h' o nw st e e' _ _ _ => by obtain ⟨o', q, r⟩ := st; rw [e] at q; cases q; exact ⟨o, e', r⟩) hcell hkind hx ⟨_, Heap.get?_push_size _ rfl, rfl, rfl⟩ (fun b hb => ?_)
      (F.keeps (up _)) (N.grown (up _)) (Nat.ne_of_lt F.ns.lt) (next_is_new F) (fun p hp => Nat.ne_of_lt (Heap.lt_size (N p hp).1)) trivial (R _) ?_
    · rw [List.mem_singleton.mp hb]
      show s₁.heap.objs.size < (s₁.heap.push _).objs.size
      rw [Heap.size_push]; exact Nat.lt_succ_self _
    · intro D C h tk m' ys news' F' N' o1 hn hC₀ hD₀ hCL hDL hCD offC fin
      refine ⟨m', hn, fun h'' hs'' => fin D h'' tk (F'.change hs'' hCL hC₀) (fun p hp => ?_) o1⟩
      refine ⟨hs''.extBut _ _ ?_ (N' p hp).1, (N' p hp).2⟩
      rcases List.mem_cons.mp hp with rfl | hp
      · exact Ne.symm hCD
      · exact offC p hp
  cases ha : y.cps.all (· < 128)
  · exact wpAny_pyIter_wide ha (go "str_iterator" (Walks.strWide hh _ y u))
  · exact wpAny_pyIter_ascii ha (go "str_ascii_iterator" (Walks.strAscii hh _ y u))
end

local macro_rules (kind := PyProof.Rows.tacticWalk_at_) | x => on9 "call builtin:dict.get" x (seq9 [do `(tactic| with_reducible refine' $(id9 "kdg_get2") ($(id9 "knd"):ident := $(← tm9 "PySem.strKind PySem.Challenge.rw_nz0091_01.row.prog _")) ?_ ?_ ?_ ?_ $(← tm9 "( strKind_is _ _ _ _ )") _ rfl ?_), iter9 4])

section
variable {w : World} {loose : List Str} {mean : ExcName → Option Value} {mg mb : Str → Option Value} {dp un : Nat} {gd : Option (List Code)} {cn : Str} {cs : Scope} {a : Addr} {ccd : Value} {cl : List (Str × Addr)} {outer : List Env} {A₀ : Around} {base h₀ : Heap} {L : Addr} {m : Str → Option Value} {gh : Heap} {gn : Array GenState} {dr : Drawn} {tk0 : Nat} {os : OsState} {Q E : Value → Shared → Prop} {news : Led}
theorem law_escaped_spec {x : Str} {t : Tok} {q : Bool} (C : Cx w loose mean mg mb outer A₀ base h₀ cs) (F : Fr h₀ L gh m) (N : News h₀ L gh news) (hp : 0 < tk0) (hdp : dp + 2 < recursionLimit) (hun : un + 16 < cLine) (hx : x.length ≤ 6)
  (hret : ∀ (t' : Tok) (h' : Heap) (tk' : Nat), 0 < tk' → Fr h₀ L h' m → News h₀ L h' news → Q (.str (esc q x) t') ⟨h', gn, dr, tk', os⟩) :
  wpAny (model PySem.Challenge.rw_nz0091_01.row.prog w) (ktrTop dp un gd cn cs L a ccd cl outer) (call (.ref 292) [.str x t, .bool q]) Q E ⟨gh, gn, dr, tk0, os⟩ := by
  refine viaF fun hG9 => ?_
  obtain ⟨B, X, TT, hk⟩ := C
  refine hG9 ?_
  refine' enterC (binds := [(PySem.Str.ofString "text", Value.str x t), (PySem.Str.ofString "quote", Value.bool q)]) B F X N TT hk hp (by ktr_room) ?ho ?hcd ?hb ?hl ?hnd ?_ ?c1 ?c2 ?c3
  case ho => k_is
  case hcd => k_is
  case hb => first | exact BindsTo.of_eq rfl | exact binds_K (by k_in) rfl (by k_is) rfl rfl rfl
  case hl => exact rfl
  case hnd => decide +kernel
  case c1 => rfl
  case c2 => rfl
  case c3 => rfl
  intro g L₁ h₁ tk cells hp₁ FG F₁ N₁ Y₁ B₁ X₁ T₁ lt₁ A₁
  k_cells Y₁
  simp only [List.cons_append, List.nil_append] at N₁
  have hnc : ∀ p ∈ news, p.1 ≠ L₁ + 1 := fun p hp e => by have := lt₁ p hp; rw [e] at this; exact absurd this (Nat.not_lt.mpr (Nat.le_succ _))
  try dsimp only
  k_steps
  all_goals unfold Stop
  all_goals (rename News _ _ _ _ => N9; rename Fr _ _ _ _ => F9; rename Obj.IsDictOf _ _ _ => D9; rename (h₁.objs.size == sysModules) = false => lo9)
  · refine viaF fun hG9 => ?_
    obtain ⟨ro, co, kvs, hq, cd, hr, N8⟩ : ∃ ro co kvs, Obj.IsDictOf (PySem.strKind PySem.Challenge.rw_nz0091_01.row.prog w) ro kvs ∧ co.data = .cell (some (.ref h₁.objs.size)) ∧ RowsFun q kvs ∧ News g L₁ _ ((h₁.objs.size, ro) :: (L₁ + 1, co) :: news) :=
      ⟨_, _, _, D9, by assumption, by rename q = true => hq; rw [hq]; exact rows5 _ _ _ _ _, N9⟩
    refine hG9 ?_
    clear N9 D9
    refine wpAny_pos (Nat.succ_pos _) (ListComp_S F9 rfl (by with_unfolding_all rfl) (by decide) (by rfl) (by decide) (by rfl) ?_)
    k_steps
    refine ⟨x, t, _, rfl, F9, N8, by show x.length ≤ _; exact Nat.le_trans hx (by decide), fun g2 => ?_⟩
    refine compI (fun i ys nw => nw = ((h₁.objs.size, ro) :: (L₁ + 1, co) :: news) ∧ All2 IsStr ys ((x.cps.toList.take i).map fun c => (⟨(escSign q c).toArray⟩ : Str))) ?turn ?fin ⟨rfl, .nil⟩
    case turn =>
      rintro i v ys nw I oI C oC D m₂ h tk E' hik ⟨c, u, hc, rfl⟩ ⟨rfl, hys⟩ hC hx2 F5 N5 off ne
      k_steps
      obtain ⟨t9, h9⟩ := hr c u
      refine LCg.CompEnd.intro F5 N5 _ (fun p hp => by simp only [List.mem_cons] at hp ⊢; rcases hp with h | h | h | h <;> simp [h]) off trivial ⟨rfl, ?_⟩
      have hc' : x.cps.toList[i]? = some c := by simpa using hc
      rw [List.take_add_one, hc', List.map_append]
      exact hys.snoc ⟨t9, h9⟩
    case fin =>
      rintro ys nw ⟨rfl, hys⟩ D h5 tk5 F5 N5 off5
      have hgl : (glue ((x.cps.toList.take x.cps.size).map fun c => (⟨(escSign q c).toArray⟩ : Str))).length ≤ 16777216 := by
        rw [List.take_of_length_le (by simp), glue_signs]
        have := esc_len q x
        exact mulTop this hx rfl
      try dsimp only
      intro hp5
      k_steps
      rename Fr _ _ _ _ => F6
      rename News _ _ _ _ => N6
      refine retS (hret _ _ _ (by assumption) F6 (news_sub N6 (by ktr_unf))) ?_
      rw [List.take_of_length_le (by simp), glue_signs]; rfl
  · refine viaF fun hG9 => ?_
    obtain ⟨ro, co, kvs, hq, cd, hr, N8⟩ : ∃ ro co kvs, Obj.IsDictOf (PySem.strKind PySem.Challenge.rw_nz0091_01.row.prog w) ro kvs ∧ co.data = .cell (some (.ref h₁.objs.size)) ∧ RowsFun q kvs ∧ News g L₁ _ ((h₁.objs.size, ro) :: (L₁ + 1, co) :: news) :=
      ⟨_, _, _, D9, by assumption, by rename q = false => hq; rw [hq]; exact rows4 _ _ _ _, N9⟩
    refine hG9 ?_
    clear N9 D9
    refine wpAny_pos (Nat.succ_pos _) (ListComp_S F9 rfl (by with_unfolding_all rfl) (by decide) (by rfl) (by decide) (by rfl) ?_)
    k_steps
    refine ⟨x, t, _, rfl, F9, N8, by show x.length ≤ _; exact Nat.le_trans hx (by decide), fun g2 => ?_⟩
    refine compI (fun i ys nw => nw = ((h₁.objs.size, ro) :: (L₁ + 1, co) :: news) ∧ All2 IsStr ys ((x.cps.toList.take i).map fun c => (⟨(escSign q c).toArray⟩ : Str))) ?turn ?fin ⟨rfl, .nil⟩
    case turn =>
      rintro i v ys nw I oI C oC D m₂ h tk E' hik ⟨c, u, hc, rfl⟩ ⟨rfl, hys⟩ hC hx2 F5 N5 off ne
      k_steps
      obtain ⟨t9, h9⟩ := hr c u
      refine LCg.CompEnd.intro F5 N5 _ (fun p hp => by simp only [List.mem_cons] at hp ⊢; rcases hp with h | h | h | h <;> simp [h]) off trivial ⟨rfl, ?_⟩
      have hc' : x.cps.toList[i]? = some c := by simpa using hc
      rw [List.take_add_one, hc', List.map_append]
      exact hys.snoc ⟨t9, h9⟩
    case fin =>
      rintro ys nw ⟨rfl, hys⟩ D h5 tk5 F5 N5 off5
      have hgl : (glue ((x.cps.toList.take x.cps.size).map fun c => (⟨(escSign q c).toArray⟩ : Str))).length ≤ 16777216 := by
        rw [List.take_of_length_le (by simp), glue_signs]
        have := esc_len q x
        exact mulTop this hx rfl
      try dsimp only
      intro hp5
      k_steps
      rename Fr _ _ _ _ => F6
      rename News _ _ _ _ => N6
      refine retS (hret _ _ _ (by assumption) F6 (news_sub N6 (by ktr_unf))) ?_
      rw [List.take_of_length_le (by simp), glue_signs]; rfl
end

local macro_rules (kind := PyProof.Rows.tacticWalk_at_) | x => call9 "call ref" "law_escaped_spec" 7 x

section
variable {prog : Program} {w : World} {A : Around} {s : Shared} {env : Env} {h₀ : Heap}
/-- a for over a tuple of the ledger -/
theorem forTuple {x : Str} {px : Pos} {body : List Stmt} {l : Addr} {vs : List Value} {n : Nat} {m : Str → Option Value} {news : Led} {Q : Flow → Shared → Prop}
    (hh : A.handled = none) (hx : env.kindOf x = some .local)
    (hp : (env.scope.kind == .class || (env.scope.kind == .module && env.locals != env.globals)) = false)
    (F : Fr h₀ env.locals s.heap m) (N : News h₀ env.locals s.heap news) (hm : (l, TO vs n) ∈ news) (hpos : 0 < s.toks)
    (J : Nat → (Str → Option Value) → Led → Prop) (hJS : ∀ i m' nw, J i m' nw → (l, TO vs n) ∈ nw) (h0 : J 0 m news)
    (step : ∀ i v m' news' h tk I oI, vs[i]? = some v → J i m' news' → 0 < tk → Fr h₀ env.locals h (fun y => if y = x then some v else m' y) → News h₀ env.locals h ((I, oI) :: news') → (∀ p ∈ news', p.1 ≠ I) →
      wpAny (model prog w) A (execs body env) (TurnS h₀ env.locals I oI (J (i + 1)) { s with heap := h, toks := tk } Q) (fun _ _ => False) { s with heap := h, toks := tk })
    (done : ∀ m' news' h tk, J vs.length m' news' → 0 < tk → Fr h₀ env.locals h m' → News h₀ env.locals h news' → Q .next { s with heap := h, toks := tk }) :
    wpAny (model prog w) A (pyIter (.ref l)) (fun it s₂ => codeAny (model prog w) A (.forLoop (.Name x px) it body [] env) (fun r s' => match r with | .ok f => Q f s' | .error e => cameBackBy (model prog w) A env (fun _ _ => False) e s') s₂) (fun _ _ => False) s := by
  have hl : s.heap.IsTuple l vs.toArray := to_isTup N hm
  have hlt : l < s.heap.objs.size := Heap.lt_size (N _ hm).1
  refine wpAny_pyIter_tuple hl ?_
  have up : ∀ b o, s.heap.get? b = some o → (s.heap.push { cls := .type "tuple_iterator", data := .fields #[.ref l, .int 0 0] }).get? b = some o := fun b o e => Heap.get?_push_of_some _ e
  have hl2 : (s.heap.push { cls := .type "tuple_iterator", data := .fields #[.ref l, .int 0 0] }).IsTuple l vs.toArray := by obtain ⟨o, e, r⟩ := hl; exact ⟨o, up _ _ e, r⟩
  refine forGen (Q := Q) (s := { s with heap := _ }) (Src := fun nw => (l, TO vs n) ∈ nw) (Walks.tuple hh s.heap.objs.size l (Nat.ne_of_lt hlt) vs.toArray) hx hp ?_ (next_is_new F) (fun i h st => by obtain ⟨o, e, _⟩ := st.1; exact ⟨o, e⟩)
    (fun i h h' o nw st e e' k Nw hs => ⟨by obtain ⟨o', q, r⟩ := st.1; rw [e] at q; cases q; exact ⟨o, e', r⟩, ⟨_, (Nw _ hs).1, rfl, _, rfl⟩⟩) J hJS ⟨⟨_, Heap.get?_push_size _ rfl, rfl, rfl⟩, hl2⟩ (F.keeps up) (N.grown up) (fun p hp => Nat.ne_of_lt (Heap.lt_size (N p hp).1)) hpos h0 ?_ ?_ ?_
  · intro hc
    rcases List.mem_cons.mp hc with e | hc
    · exact absurd F.ns.lt (e ▸ Nat.lt_irrefl _)
    · exact (N _ hm).2.1 (List.mem_singleton.mp hc).symm
  · intro i v m' news' h tk oI hi hv
    exact step i v m' news' h tk _ oI (by simpa using hv)
  · intro m' news' h tk hJ
    rw [List.size_toArray] at hJ
    exact done m' news' h tk hJ
  · intro f s' h; exact h
end

theorem join_len1 {sep : Str} (hs : sep.length = 1) : ∀ ys : List Str, (ys.map (·.length)).sum + ys.length ≤ (Str.join sep ys).length + 1
  | [] => Nat.zero_le _
  | [x] => by show x.length + 0 + 1 ≤ x.length + 1; exact Nat.le_refl _
  | x :: y :: r => by
    have ih := join_len1 hs (y :: r)
    show _ ≤ (x ++ sep ++ Str.join sep (y :: r)).length + 1
    rw [Str.length_append, Str.length_append, hs]
    rw [List.map_cons, List.sum_cons, List.length_cons]
    exact join1 ih
theorem split_small (x : Str) : ((Txt.split x " ").map (·.length)).sum + (Txt.split x " ").length ≤ x.length + 1 := by
  have h := join_len1 (sep := " ") (by decide) (Txt.split x " ")
  rw [StrLaws.join_split] at h
  exact h
theorem colon_eq (x : Str) : Txt.join ":" (Txt.split x " ") = Txt.replace x " " ":" := by
  have e : PySem.Str.ofString " " = ⟨#[32]⟩ := by decide +kernel
  rw [e, StrLaws.replace_one]
  exact StrLaws.glued_eq_join _ _
section
variable {prog : Program} {w : World} {A : Around} {E : Value → Shared → Prop} {gh : Heap} {gn : Array GenState} {dr : Drawn} {tk0 : Nat} {os : OsState} {h₀ : Heap} {L : Addr} {m : Str → Option Value} {news : Led} {Q : Value → Shared → Prop}
theorem joinC {l : Addr} {vs : List Value} {n : Nat} {x : Str} {t : Tok} (N : News h₀ L gh news) (hm : (l, LO vs n) ∈ news) (ha : All2 IsStr vs (Txt.split x " ")) (hok : x.length ≤ 16000000) (hn : 0 < tk0)
    (h : ∀ t k, 0 < k → Q (.str (Txt.replace x " " ":") t) ⟨gh, gn, dr, k, os⟩) : wpAny (model prog w) A (call (.builtin "str.join") [.str ":" t, .ref l]) Q E ⟨gh, gn, dr, tk0, os⟩ := by
  refine wpAny_pos hn (join_list (lo_isList N hm) (strsAre_of ha) ?_ fun t' k hk => ?_)
  · have h1 := split_small x
    have h2 : (PySem.Str.ofString ":").length = 1 := by decide
    rw [h2]; exact join2 hok h1
  · rw [colon_eq]; exact h t' k hk
end

local macro_rules (kind := PyProof.Rows.tacticWalk_at_) | x => call9 "call builtin:str.join" "joinC" 5 x

/-- the addresses of a note: its list, its attrs, its children -/
structure NR where
  (a at' u : Addr)
inductive RowAt (news : Led) (r : NR) (d : Nd) : Prop
  | mk (n : Nat) (t1 t2 t3 t4 t5 : Tok) (h : (r.a, LO [.str d.kind t1, .str d.space t2, .str d.name t3, .ref r.at', .str d.text t4, .ref r.u, .int d.parent t5] n) ∈ news) : RowAt news r d
structure NoteAt (news : Led) (r : NR) (d : Nd) : Prop where
  row : RowAt news r d
  attrs : ∃ vs n, (r.at', TO vs n) ∈ news ∧ All2 (PairAt news) vs d.attrs
  kids : ∃ vs n, (r.u, LO vs n) ∈ news ∧ All2 IsNat vs d.under
theorem NoteAt.sub {news news' : Led} {r : NR} {d : Nd} (h : NoteAt news r d) (hs : Sub news news') : NoteAt news' r d where
  row := let ⟨n, t1, t2, t3, t4, t5, h⟩ := h.row; ⟨n, t1, t2, t3, t4, t5, hs _ h⟩
  attrs := let ⟨vs, n, h1, h2⟩ := h.attrs; ⟨vs, n, hs _ h1, h2.imp fun _ _ h => h.sub hs⟩
  kids := let ⟨vs, n, h1, h2⟩ := h.kids; ⟨vs, n, hs _ h1, h2⟩
structure NotesRep (news : Led) (nl : Addr) (rs : List NR) (nds : List Nd) : Prop where
  list : ∃ n, (nl, LO (rs.map fun r => .ref r.a) n) ∈ news
  len : rs.length = nds.length
  note : ∀ (i : Nat) (d : Nd) (r : NR), nds[i]? = some d → rs[i]? = some r → NoteAt news r d
  room : nds.length ≤ 1000
section
variable {news news' : Led} {nl : Addr} {rs : List NR} {nds : List Nd} {i : Nat} {d : Nd}
theorem NotesRep.sub (R : NotesRep news nl rs nds) (hs : Sub news news') : NotesRep news' nl rs nds where
  list := let ⟨n, h⟩ := R.list; ⟨n, hs _ h⟩
  len := R.len
  note := fun i d r h1 h2 => (R.note i d r h1 h2).sub hs
  room := R.room
theorem NotesRep.at (R : NotesRep news nl rs nds) (hi : nds[i]? = some d) : ∃ r, rs[i]? = some r ∧ ItemAt news nl (i : Int) (.ref r.a) ∧ NoteAt news r d := by
  have hl : i < rs.length := R.len ▸ lt_of_get hi
  obtain ⟨n, h⟩ := R.list
  refine ⟨rs[i], by simp [hl], .of h (by simp [hl]) (Nat.lt_trans (Nat.lt_of_lt_of_le (lt_of_get hi) R.room) (by decide)), R.note i d _ hi (by simp [hl])⟩
theorem NoteAt.k (h : NoteAt news r d) : ∃ t, ItemAt news r.a 0 (.str d.kind t) := let ⟨_, t, _, _, _, _, h⟩ := h.row; ⟨t, .of (i := 0) h rfl (by decide)⟩
theorem NoteAt.s (h : NoteAt news r d) : ∃ t, ItemAt news r.a 1 (.str d.space t) := let ⟨_, _, t, _, _, _, h⟩ := h.row; ⟨t, .of (i := 1) h rfl (by decide)⟩
theorem NoteAt.n (h : NoteAt news r d) : ∃ t, ItemAt news r.a 2 (.str d.name t) := let ⟨_, _, _, t, _, _, h⟩ := h.row; ⟨t, .of (i := 2) h rfl (by decide)⟩
theorem NoteAt.c (h : NoteAt news r d) : ItemAt news r.a 5 (.ref r.u) := let ⟨_, _, _, _, _, _, h⟩ := h.row; .of (i := 5) h rfl (by decide)
end

local macro_rules (kind := PySem.W.tacticKtr_rel) | _x => seq9 [apply9 "NotesRep.sub @@", unf9]
local macro_rules (kind := PySem.W.tacticKtr_rel) | _x => seq9 [red9 (refine9 "ItemAt.sub @ ?"), unf9]

theorem raws_words : Txt.words "style script xmp iframe noembed noframes plaintext" = raws := by
  rw [KWd.words_scan]; decide +kernel
noncomputable def lawText (nds : List Nd) (flag : Bool) (d : Nd) (inside : Str) : Str :=
  if (d.kind == "text") = true then (if kept nds d.parent flag = true then d.text else esc false d.text)
  else if (d.kind == "comment") = true then PySem.Str.ofString "<!--" ++ d.text ++ PySem.Str.ofString "-->"
  else if (d.kind == "doctype") = true then PySem.Str.ofString "<!DOCTYPE " ++ d.name ++ PySem.Str.ofString ">"
  else if (d.kind != "element") = true then inside
  else openText d ++ (if d.endless = true then Str.empty else inside ++ endText d)
theorem raws_short {vs : List Value} (h : All2 IsStr vs (Txt.words "style script xmp iframe noembed noframes plaintext")) : vs.length ≤ 1000000 := by
  have := h.length
  rw [raws_words] at this
  rw [this]; decide
theorem lt1 {nds : List Nd} {flag : Bool} {d : Nd} {x : Str} (h : (d.kind == "text") = true) (hk : kept nds d.parent flag = true) : d.text = lawText nds flag d x := by unfold lawText; rw [if_pos h, if_pos hk]
theorem lt2 {nds : List Nd} {flag : Bool} {d : Nd} {x : Str} (h : (d.kind == "text") = true) (hk : kept nds d.parent flag = false) : esc false d.text = lawText nds flag d x := by unfold lawText; rw [if_pos h, if_neg (by rw [hk]; exact Bool.false_ne_true)]
theorem lt3 {nds : List Nd} {flag : Bool} {d : Nd} {x : Str} (h : (d.kind == "text") = false) (hk : (d.kind == "comment") = true) : PySem.Str.ofString "<!--" ++ d.text ++ PySem.Str.ofString "-->" = lawText nds flag d x := by unfold lawText; rw [if_neg (by rw [h]; exact Bool.false_ne_true), if_pos hk]
theorem lt4 {nds : List Nd} {flag : Bool} {d : Nd} {x : Str} (h : (d.kind == "text") = false) (h2 : (d.kind == "comment") = false) (hk : (d.kind == "doctype") = true) : PySem.Str.ofString "<!DOCTYPE " ++ d.name ++ PySem.Str.ofString ">" = lawText nds flag d x := by
  unfold lawText; rw [if_neg (by rw [h]; exact Bool.false_ne_true), if_neg (by rw [h2]; exact Bool.false_ne_true), if_pos hk]
theorem lt5 {nds : List Nd} {flag : Bool} {d : Nd} {x : Str} (h : (d.kind == "text") = false) (h2 : (d.kind == "comment") = false) (h3 : (d.kind == "doctype") = false) (hk : (d.kind != "element") = true) : x = lawText nds flag d x := by
  unfold lawText; rw [if_neg (by rw [h]; exact Bool.false_ne_true), if_neg (by rw [h2]; exact Bool.false_ne_true), if_neg (by rw [h3]; exact Bool.false_ne_true), if_pos hk]
theorem lt6 {nds : List Nd} {flag : Bool} {d : Nd} {x : Str} (h : (d.kind == "text") = false) (h2 : (d.kind == "comment") = false) (h3 : (d.kind == "doctype") = false) (hk : (d.kind != "element") = false) : openText d ++ (if d.endless = true then Str.empty else x ++ endText d) = lawText nds flag d x := by
  unfold lawText
  have e1 : ¬ (d.kind == "text") = true := by rw [h]; exact Bool.false_ne_true
  have e2 : ¬ (d.kind == "comment") = true := by rw [h2]; exact Bool.false_ne_true
  have e3 : ¬ (d.kind == "doctype") = true := by rw [h3]; exact Bool.false_ne_true
  have e4 : ¬ (d.kind != "element") = true := by rw [hk]; exact Bool.false_ne_true
  simp +zetaDelta only [if_neg e1, if_neg e2, if_neg e3, if_neg e4]
noncomputable abbrev rawsW : Str := "style script xmp iframe noembed noframes plaintext"
theorem kA {nds : List Nd} {flag : Bool} {d e : Nd} {j : Nat} {b : Bool} (hp : d.parent = (j : Int)) (hj : nds[j]? = some e) (hs : (e.space == "html") = true) (hf : flag = true) (ha : (Txt.words rawsW ++ [PySem.Str.ofString "noscript"]).any (fun x => x == e.name) = b) : kept nds d.parent flag = b := by
  rw [raws_words, List.any_append] at ha
  rw [hp, kept_at hj, hs, hf, ← ha]
  have e1 : (e.name == PySem.Str.ofString "noscript") = (PySem.Str.ofString "noscript" == e.name) := by rw [Bool.beq_eq_decide_eq, Bool.beq_eq_decide_eq]; simp only [eq_comm]
  simp only [List.any_cons, List.any_nil, Bool.or_false, Bool.true_and]
  rw [e1]
theorem kB {nds : List Nd} {flag : Bool} {d e : Nd} {j : Nat} {b : Bool} (hp : d.parent = (j : Int)) (hj : nds[j]? = some e) (hs : (e.space == "html") = true) (hf : flag = false) (ha : (Txt.words rawsW).any (fun x => x == e.name) = b) : kept nds d.parent flag = b := by
  rw [raws_words] at ha
  rw [hp, kept_at hj, hs, hf, ← ha]; simp
theorem kC {nds : List Nd} {flag : Bool} {d e : Nd} {j : Nat} (hp : d.parent = (j : Int)) (hj : nds[j]? = some e) (hs : (e.space == "html") = false) : kept nds d.parent flag = false := by
  rw [hp, kept_at hj, hs]; rfl

local macro_rules (kind := PyProof.Rows.tacticWalk_at_) | x => on9 "call builtin:list.append" x (seq9 [here9, show9 "wpAny _ _ ( call ( Value.builtin _ ) ( List.cons ( Value.ref _ ) ( List.cons _ List.nil ) ) ) _ _ _", dflt9 (seq9 [refine9 "appendU ?F ?N ?U ?z ?", case9 "F" kasm9, case9 "N" kasm9, case9 "U" (do `(tactic| k_upd)), case9 "z" (exact9 "raws_short @@"), whole9]), intro9 "h' F' N'", dsimp9])
local macro_rules (kind := PyProof.Rows.tacticWalk_at_) | x => on9 "compareOp In str ref" x (seq9 [here9, dflt9 (seq9 [red9 (refine9 "in_list_strs ( lo_isList ?N ?m ) ( strsAre_of ?a ) ?"), case9 "N" kasm9, case9 "m" kmem9, case9 "a" (exact9 "All2.snoc @@ ( Exists.intro _ rfl )"), whole9])])

section
variable {w : World} {loose : List Str} {mean : ExcName → Option Value} {mg mb : Str → Option Value} {dp un : Nat} {gd : Option (List Code)} {cn : Str} {cs : Scope} {a : Addr} {ccd : Value} {cl : List (Str × Addr)} {outer : List Env} {A₀ : Around} {base h₀ : Heap} {L : Addr} {m : Str → Option Value} {gh : Heap} {gn : Array GenState} {dr : Drawn} {tk0 : Nat} {os : OsState} {Q E : Value → Shared → Prop} {news : Led}
theorem law_written_spec {nl : Addr} {rs : List NR} {nds : List Nd} {i : Nat} {d : Nd} {ti tx : Tok} {x : Str} {flag : Bool} (C : Cx w loose mean mg mb outer A₀ base h₀ cs) (F : Fr h₀ L gh m) (N : News h₀ L gh news) (hp : 0 < tk0) (hdp : dp + 4 < recursionLimit) (hun : un + 32 < cLine)
  (R : NotesRep news nl rs nds) (hi : nds[i]? = some d) (ok : NdOk d) (hpar : ParOk nds d.parent) (hx : x.length ≤ 15000000)
  (hret : ∀ (t : Tok) (h' : Heap) (tk' : Nat), 0 < tk' → Fr h₀ L h' m → News h₀ L h' news → Q (.str (lawText nds flag d x) t) ⟨h', gn, dr, tk', os⟩) :
  wpAny (model PySem.Challenge.rw_nz0091_01.row.prog w) (ktrTop dp un gd cn cs L a ccd cl outer) (call (.ref 306) [.ref nl, .int (i : Int) ti, .str x tx, .bool flag]) Q E ⟨gh, gn, dr, tk0, os⟩ := by
  refine viaF fun hG9 => ?_
  obtain ⟨r, hr, hitem, hnote⟩ := R.at hi
  obtain ⟨nr, t1, t2, t3, t4, t5, hrow⟩ := hnote.row
  obtain ⟨_, hk0⟩ := hnote.k
  obtain ⟨_, hk1⟩ := hnote.s
  obtain ⟨_, hk2⟩ := hnote.n
  obtain ⟨va, na, hva, hps⟩ := hnote.attrs
  have hnl := ok.name
  have htl := ok.text
  refine hG9 ?_
  cases htx : (d.kind == "text") with
  | true =>
    rcases hpar with hpar | ⟨j, e, hpar, hj⟩
    · have hkept : kept nds d.parent flag = false := by rw [hpar]; rfl
      rw [hpar] at hrow
      refine viaF fun hG9 => ?_
      obtain ⟨B, X, TT, hk⟩ := C
      refine hG9 ?_
      refine' enterP (binds := [(PySem.Str.ofString "notes", Value.ref nl), (PySem.Str.ofString "n", Value.int (i : Int) ti), (PySem.Str.ofString "inside", Value.str x tx), (PySem.Str.ofString "flag", Value.bool flag)]) B F X N TT hk hp (by ktr_room) ?ho ?hcd ?hb ?hl rfl ?_ ?c1 ?c2 ?c3 ?c4
      case ho => k_is
      case hcd => k_is
      case hb => first | exact BindsTo.of_eq rfl | exact hb _ _ _ _ (by k_is) | exact binds_K (by k_in) rfl (by k_is) rfl rfl rfl
      case hl => exact locs rfl
      case c1 => rfl
      case c2 => rfl
      case c3 => rfl
      case c4 => decide
      intro g L₁ h₁ tk hp₁ FG mm F₁ N₁ B₁ X₁ T₁ A₁ qk ek
      k_steps
      all_goals (rename News _ _ _ _ => N9; exact retS (hret _ _ _ (by assumption) (by k_asm) (news_sub N9 (by ktr_unf))) (lt2 htx hkept))
    · refine viaF fun hG9 => ?_
      obtain ⟨r2, hr2, hitem2, hnote2⟩ := R.at hj
      obtain ⟨_, hk12⟩ := hnote2.s
      obtain ⟨_, hk22⟩ := hnote2.n
      refine hG9 ?_
      rw [hpar] at hrow
      refine viaF fun hG9 => ?_
      obtain ⟨B, X, TT, hk⟩ := C
      refine hG9 ?_
      refine' enterP (binds := [(PySem.Str.ofString "notes", Value.ref nl), (PySem.Str.ofString "n", Value.int (i : Int) ti), (PySem.Str.ofString "inside", Value.str x tx), (PySem.Str.ofString "flag", Value.bool flag)]) B F X N TT hk hp (by ktr_room) ?ho ?hcd ?hb ?hl rfl ?_ ?c1 ?c2 ?c3 ?c4
      case ho => k_is
      case hcd => k_is
      case hb => first | exact BindsTo.of_eq rfl | exact hb _ _ _ _ (by k_is) | exact binds_K (by k_in) rfl (by k_is) rfl rfl rfl
      case hl => exact locs rfl
      case c1 => rfl
      case c2 => rfl
      case c3 => rfl
      case c4 => decide
      intro g L₁ h₁ tk hp₁ FG mm F₁ N₁ B₁ X₁ T₁ A₁ qk ek
      k_steps
      all_goals first
        | (exfalso; omega)
        | (rename News _ _ _ _ => N9; refine retS (hret _ _ _ (by assumption) (by k_asm) (news_sub N9 (by ktr_unf))) ?_; first
          | exact lt1 htx (kA hpar hj (by assumption) (by assumption) (by assumption))
          | exact lt2 htx (kA hpar hj (by assumption) (by assumption) (by assumption))
          | exact lt1 htx (kB hpar hj (by assumption) (by assumption) (by assumption))
          | exact lt2 htx (kB hpar hj (by assumption) (by assumption) (by assumption))
          | exact lt2 htx (kC hpar hj (by assumption)))
  | false =>
    refine viaF fun hG9 => ?_
    obtain ⟨B, X, TT, hk⟩ := C
    refine hG9 ?_
    refine' enterP (binds := [(PySem.Str.ofString "notes", Value.ref nl), (PySem.Str.ofString "n", Value.int (i : Int) ti), (PySem.Str.ofString "inside", Value.str x tx), (PySem.Str.ofString "flag", Value.bool flag)]) B F X N TT hk hp (by ktr_room) ?ho ?hcd ?hb ?hl rfl ?_ ?c1 ?c2 ?c3 ?c4
    case ho => k_is
    case hcd => k_is
    case hb => first | exact BindsTo.of_eq rfl | exact hb _ _ _ _ (by k_is) | exact binds_K (by k_in) rfl (by k_is) rfl rfl rfl
    case hl => exact locs rfl
    case c1 => rfl
    case c2 => rfl
    case c3 => rfl
    case c4 => decide
    intro g L₁ h₁ tk hp₁ FG mm F₁ N₁ B₁ X₁ T₁ A₁ qk ek
    k_steps
    · rename News _ _ _ _ => N9
      exact retS (hret _ _ _ (by assumption) (by k_asm) (news_sub N9 (by ktr_unf))) (lt3 htx (by assumption))
    · rename News _ _ _ _ => N9
      exact retS (hret _ _ _ (by assumption) (by k_asm) (news_sub N9 (by ktr_unf))) (lt4 htx (by assumption) (by assumption))
    · rename News _ _ _ _ => N9
      exact retS (hret _ _ _ (by assumption) (by k_asm) (news_sub N9 (by ktr_unf))) (lt5 htx (by assumption) (by assumption) (by assumption))
    unfold Stop
    refine wpAny_For ?_
    k_steps
    unfold Stop
    rename News _ _ _ _ => N9
    rename Fr _ _ _ _ => F9
    rename (d.kind != "element") = false => h4
    rename (d.kind == "doctype") = false => h3
    rename (d.kind == "comment") = false => h2
    have hkel : d.kind = "element" := by simpa [bne] using h4
    refine forTuple (h₀ := g) (vs := va) (n := na) rfl rfl rfl F9 N9 (by k_mem) (by tb_rel)
      (fun k m' nw => nw = news ∧ ∃ t, ∀ y : Str, y ≠ "pair" → m' y = (fun y : Str => if y = "head" then some (Value.str (glue ((PySem.Str.ofString "<" ++ d.name) :: (d.attrs.take k).map attrText)) t) else if y = "parent" then some (.int d.parent t5) else if y = "under" then some (.ref r.u) else if y = "text" then some (.str d.text t4) else if y = "attrs" then some (.ref r.at') else
        if y = "name" then some (.str d.name t3) else if y = "space" then some (.str d.space t2) else if y = "kind" then some (.str d.kind t1) else List.lookup y [(PySem.Str.ofString "notes", Value.ref nl), (PySem.Str.ofString "n", Value.int (i : Int) ti), (PySem.Str.ofString "inside", Value.str x tx), (PySem.Str.ofString "flag", Value.bool flag)].reverse) y) ?src ?init ?step ?done
    case src => rintro k m' nw ⟨rfl, _⟩; exact hva
    case init => exact ⟨rfl, _, fun y _ => by rw [show glue ((PySem.Str.ofString "<" ++ d.name) :: (d.attrs.take 0).map attrText) = PySem.Str.ofString "<" ++ d.name from Str.append_empty _]⟩
    case step =>
      rintro k v m' nw h tk I oI hv ⟨rfl, t, hm'⟩ hpk F4 N4 off
      rw [fr_turn hm'] at F4
      refine viaF fun hG9 => ?_
      obtain ⟨p, hp, q', t2, t3, n2, rfl, hq'⟩ := hps.getL hv
      have hpm := List.mem_of_getElem? hp
      have hkey := ok.key p hpm
      have hval := ok.val p hpm
      have hesc := esc_len true p.2
      have hrl := replace_len p.1 (PySem.Str.ofString ":") 32 1 (by decide) (by decide)
      have e32 : PySem.Str.ofString " " = ⟨#[32]⟩ := by decide +kernel
      refine hG9 ?_
      rw [← e32] at hrl
      have hgl := ok.glue k
      try dsimp only
      k_steps
      rename News _ _ _ _ => N5
      rename Fr _ _ _ _ => F5
      refine turnS_next F5 (news_sub N5 (fun p hp => ?_)) off ⟨rfl, ?t, ?fr⟩
      case fr =>
        intro y hy
        rw [List.take_add_one, hp, List.map_append, ← List.cons_append, show (some p).toList.map attrText = [attrText p] from rfl, glue_snoc]
        unfold attrText
        simp only [← Str.append_assoc]
        by_cases h1 : y = "head"
        · subst h1; rfl
        simp +zetaDelta only [if_neg h1, if_neg hy]
      · simp only [List.mem_cons] at hp ⊢
        rcases hp with h | h <;> simp [h]
    case done =>
      rintro m' nw h tk ⟨rfl, t, hm'⟩ hpk F4 N4
      rw [fr_end hm'] at F4
      intro hpk2
      have hgl := ok.glue va.length
      have htk : d.attrs.take va.length = d.attrs := List.take_of_length_le (Nat.le_of_eq hps.length.symm)
      have hop : glue ((PySem.Str.ofString "<" ++ d.name) :: (d.attrs.take va.length).map attrText) ++ PySem.Str.ofString ">" = openText d := by rw [htk]; rfl
      try dsimp only
      k_steps
      · rename News _ _ _ _ => N5
        refine retS (hret _ _ _ (by assumption) (by k_asm) (news_sub N5 (by ktr_unf))) ?_
        rw [← lt6 htx h2 h3 h4, if_pos (by assumption), hop]; exact (Str.append_empty _).symm
      · rename News _ _ _ _ => N5
        rename d.endless = false => h9
        refine retS (hret _ _ _ (by assumption) (by k_asm) (news_sub N5 (by ktr_unf))) ?_
        rw [← lt6 htx h2 h3 h4, if_neg (by rw [h9]; exact Bool.false_ne_true), hop]
        unfold endText
        simp only [← Str.append_assoc]
end

local macro_rules (kind := PyProof.Rows.tacticWalk_at_) | x => call9 "call ref" "law_written_spec" 11 x

theorem fold_rep (v : Value) : ∀ (n : Nat) (acc : Array Value), List.foldl (fun x1 x2 => x1 ++ x2) acc (List.replicate n #[v]) = acc ++ (List.replicate n v).toArray
  | 0, acc => by simp
  | n + 1, acc => by
    rw [List.replicate_succ, List.foldl_cons, fold_rep v n]
    apply Array.toList_inj.mp
    simp [List.replicate_succ]
section
variable {prog : Program} {w : World} {A : Around} {E : Value → Shared → Prop} {gh : Heap} {gn : Array GenState} {dr : Drawn} {tk0 : Nat} {os : OsState} {h₀ : Heap} {L D : Addr} {m : Str → Option Value} {news news' : Led} {n : Nat}
theorem mulS {l : Addr} {v : Value} {k : Nat} {u : Tok} {Q : Value → Shared → Prop} (F : Fr h₀ L gh m) (N : News h₀ L gh news) (hm : (l, LO [v] n) ∈ news) (hk : k ≤ 1000000)
    (h : ∀ D h', Fr h₀ L h' m → News h₀ L h' ((D, LO (List.replicate k v) 0) :: news) → (∀ p ∈ news, @LT.lt Nat _ p.1 D) → Q (.ref D) ⟨h', gn, dr, tk0, os⟩) :
    wpAny (model prog w) A (binaryOp .Mult (.ref l) (.int (k : Int) u)) Q E ⟨gh, gn, dr, tk0, os⟩ := by
  refine mul_list F N (N _ hm).1 (by omega) (by omega) (by simp; omega) fun h' F' N' => ?_
  refine h _ h' F' ?_ fun p hp => Heap.lt_size (N p hp).1
  have e : List.foldl (fun x1 x2 => x1 ++ x2) #[] (List.replicate (if ([v].toArray).isEmpty = true then 0 else ((k : Int).toNat)) [v].toArray) = (List.replicate k v).toArray := by
    have e1 : (if ([v].toArray).isEmpty = true then 0 else ((k : Int).toNat)) = k := by simp
    rw [e1]
    exact (fold_rep v k #[]).trans (by simp)
  rw [e] at N'
  exact N'
theorem addS {l b : Addr} {vs ws : List Value} {n1 n2 : Nat} {Q : Value → Shared → Prop} (F : Fr h₀ L gh m) (N : News h₀ L gh news) (hl : (l, LO vs n1) ∈ news) (hb : (b, LO ws n2) ∈ news) (hsz : vs.length + ws.length ≤ 1000000)
    (h : ∀ D h', Fr h₀ L h' m → News h₀ L h' ((D, LO (vs ++ ws) 0) :: news) → (∀ p ∈ news, @LT.lt Nat _ p.1 D) → Q (.ref D) ⟨h', gn, dr, tk0, os⟩) :
    wpAny (model prog w) A (binaryOp .Add (.ref l) (.ref b)) Q E ⟨gh, gn, dr, tk0, os⟩ :=
  add_lists F N (lo_isList N hl) (lo_isList N hb) (fun h' F' N' => h _ h' F' N' fun p hp => Heap.lt_size (N p hp).1) (Nat.le_trans hsz (by decide))
theorem set_ki : ∀ (vs : List Value) (i : Nat) (v : Value), i < vs.length → ki_setL vs i v = some (vs.set i v)
  | [], i, v, h => absurd h (Nat.not_lt_zero _)
  | _ :: r, 0, v, _ => rfl
  | x :: r, i + 1, v, h => by
    unfold ki_setL
    rw [set_ki r i v (Nat.lt_of_succ_lt_succ h)]
    rfl
theorem setU {vs : List Value} {i : Nat} {t : Tok} {v : Value} {Q : Unit → Shared → Prop} (F : Fr h₀ L gh m) (N : News h₀ L gh news) (hi : i < vs.length) (hz : vs.length ≤ 1000000) (U : Upd D (LO vs n) (LO (vs.set i v) n) news news')
    (h : ∀ h', Fr h₀ L h' m → News h₀ L h' news' → Q () ⟨h', gn, dr, tk0, os⟩) : wpAny (model prog w) A (setItem (.ref D) (.int (i : Int) t) v) Q E ⟨gh, gn, dr, tk0, os⟩ :=
  ki_set F N (by omega) (by omega) (by rw [List.toList_toArray, Int.toNat_natCast]; exact set_ki vs i v hi) U h
end

local macro_rules (kind := PyProof.Rows.tacticWalk_at_) | x => on9 "binaryOp Mult ref int" x (seq9 [here9, show9 "wpAny _ _ ( binaryOp Operator.Mult ( Value.ref _ ) ( Value.int _ _ ) ) _ _ _", dflt9 (seq9 [refine9 "mulS ?F ?N ?m ?k ?", case9 "F" kasm9, case9 "N" kasm9, case9 "m" kmem9, case9 "k" le9]), lt9])
local macro_rules (kind := PyProof.Rows.tacticWalk_at_) | x => on9 "binaryOp Add ref ref" x (seq9 [here9, show9 "wpAny _ _ ( binaryOp Operator.Add ( Value.ref _ ) ( Value.ref _ ) ) _ _ _", dflt9 (seq9 [refine9 "addS ?F ?N ?a ?b ?z ?", case9 "F" kasm9, case9 "N" kasm9, case9 "a" kmem9, case9 "b" kmem9, case9 "z" le9]), lt9])
local macro_rules (kind := PyProof.Rows.tacticWalk_at_) | x => call9 "setItem ref int" "setU" 5 x

noncomputable def sameAt (ns ms : List Str) (j : Nat) : Bool := ns[j]? == ms[j]?
theorem sameAt_all {ns ms : List Str} (hl : ns.length = ms.length) : (List.range ns.length).all (sameAt ns ms) = decide (ns = ms) := by
  by_cases h : ns = ms
  · subst h
    simp [sameAt]
  · have : ¬ ((List.range ns.length).all (sameAt ns ms) = true) := by
      intro hh
      apply h
      apply List.ext_getElem? 
      intro i
      by_cases hi : i < ns.length
      · have := List.all_eq_true.mp hh i (List.mem_range.mpr hi)
        exact eq_of_beq this
      · rw [List.getElem?_eq_none (by omega), List.getElem?_eq_none (by omega)]
    simp only [Bool.not_eq_true] at this
    rw [this, decide_eq_false h]
section
variable {prog : Program} {w : World} {A : Around} {E : Value → Shared → Prop} {gh : Heap} {gn : Array GenState} {dr : Drawn} {tk0 : Nat} {os : OsState} {h₀ : Heap} {L : Addr} {news : Led} {a b : Addr} {xs ys : List Value} {n1 n2 : Nat} {ns ms : List Str} {Q : Value → Shared → Prop}
theorem eqStrs (N : News h₀ L gh news) (ha : (a, LO xs n1) ∈ news) (hb : (b, LO ys n2) ∈ news) (hi : All2 IsStr xs ns) (hj : All2 IsStr ys ms) (hl : ns.length = ms.length) (hu : A.units < cLine) (h : Q (.bool (decide (ns = ms))) ⟨gh, gn, dr, tk0, os⟩) :
    wpAny (model prog w) A (compareOp .Eq (.ref a) (.ref b)) Q E ⟨gh, gn, dr, tk0, os⟩ := by
  have l1 := hi.length
  have l2 := hj.length
  refine PySem.SeqAt.eq_listAt (e := sameAt ns ms) (lo_isList N ha) (lo_isList N hb) (by rw [List.size_toArray, List.size_toArray]; omega) hu (fun j h1 h2 => ?_) ?_
  · rw [List.size_toArray] at h1 h2
    have g1 : j < ns.length := by omega
    have g2 : j < ms.length := by omega
    obtain ⟨v, hv, t, rfl⟩ := hi.get (i := j) (b := ns[j]) (by simp [g1])
    obtain ⟨u, hu2, t2, rfl⟩ := hj.get (i := j) (b := ms[j]) (by simp [g2])
    have e1 : xs.toArray[j]'(by rw [List.size_toArray]; exact h1) = .str ns[j] t := by
      have := List.getElem?_eq_getElem h1
      rw [hv] at this; simpa using (Option.some.inj this).symm
    have e2 : ys.toArray[j]'(by rw [List.size_toArray]; exact h2) = .str ms[j] t2 := by
      have := List.getElem?_eq_getElem h2
      rw [hu2] at this; simpa using (Option.some.inj this).symm
    rw [e1, e2]
    have e3 : sameAt ns ms j = (ns[j] == ms[j]) := by
      unfold sameAt; rw [List.getElem?_eq_getElem g1, List.getElem?_eq_getElem g2]; rfl
    rw [e3]
    exact (eqGives_str _ _ t t2).at _ _
  · rw [List.size_toArray, l1, sameAt_all hl]; exact h
theorem eqStrs2 {x1 x2 y1 y2 : Str} {t1 t2 u1 u2 : Tok} (N : News h₀ L gh news) (ha : (a, LO [.str x1 t1, .str x2 t2] n1) ∈ news) (hb : (b, LO [.str y1 u1, .str y2 u2] n2) ∈ news) (hu : A.units < cLine) (h : Q (.bool (decide ([x1, x2] = [y1, y2]))) ⟨gh, gn, dr, tk0, os⟩) :
    wpAny (model prog w) A (compareOp .Eq (.ref a) (.ref b)) Q E ⟨gh, gn, dr, tk0, os⟩ :=
  eqStrs N ha hb (.cons ⟨_, rfl⟩ (.cons ⟨_, rfl⟩ .nil)) (.cons ⟨_, rfl⟩ (.cons ⟨_, rfl⟩ .nil)) rfl hu h
theorem eqStrs3 {x1 x2 x3 y1 y2 y3 : Str} {t1 t2 t3 u1 u2 u3 : Tok} (N : News h₀ L gh news) (ha : (a, LO [.str x1 t1, .str x2 t2, .str x3 t3] n1) ∈ news) (hb : (b, LO [.str y1 u1, .str y2 u2, .str y3 u3] n2) ∈ news) (hu : A.units < cLine) (h : Q (.bool (decide ([x1, x2, x3] = [y1, y2, y3]))) ⟨gh, gn, dr, tk0, os⟩) :
    wpAny (model prog w) A (compareOp .Eq (.ref a) (.ref b)) Q E ⟨gh, gn, dr, tk0, os⟩ :=
  eqStrs N ha hb (.cons ⟨_, rfl⟩ (.cons ⟨_, rfl⟩ (.cons ⟨_, rfl⟩ .nil))) (.cons ⟨_, rfl⟩ (.cons ⟨_, rfl⟩ (.cons ⟨_, rfl⟩ .nil))) rfl hu h
end

local macro_rules (kind := PyProof.Rows.tacticWalk_at_) | x => eqs9 "eqStrs3" x
local macro_rules (kind := PyProof.Rows.tacticWalk_at_) | x => eqs9 "eqStrs2" x

noncomputable def offL (D : Addr) (news : Led) : Led := news.filter fun p => decide (p.1 ≠ D)
theorem mem_offL {D : Addr} {news : Led} {p : Addr × Obj} : p ∈ offL D news ↔ p ∈ news ∧ p.1 ≠ D := by
  unfold offL; rw [List.mem_filter]; simp
theorem cutN {h₀ h : Heap} {L D : Addr} {o : Obj} {news : Led} (N : News h₀ L h news) (hm : (D, o) ∈ news) : News h₀ L h ((D, o) :: offL D news) := news_sub N fun p hp => by
  rcases List.mem_cons.mp hp with rfl | hp
  · exact hm
  · exact (mem_offL.mp hp).1
theorem offNe {D : Addr} {news : Led} : ∀ p ∈ offL D news, p.1 ≠ D := fun _ hp => (mem_offL.mp hp).2
theorem joinN {h₀ h : Heap} {L D : Addr} {o' : Obj} {news : Led} (N : News h₀ L h ((D, o') :: offL D news)) : News h₀ L h (setL D o' news) := fun p hp => by
  obtain ⟨a, x⟩ := p
  rcases mem_setL hp with ⟨e1, e2⟩ | ⟨hne, hp⟩
  · subst e1; subst e2; exact N _ (List.mem_cons_self ..)
  · exact N _ (List.mem_cons_of_mem _ (mem_offL.mpr ⟨hp, hne⟩))
theorem ints_of {vs : List Value} {is : List Nat} (h : All2 IsNat vs is) : kf_ints vs = true := by
  induction h with
  | nil => rfl
  | cons h _ ih => obtain ⟨t, rfl⟩ := h; exact ih
theorem isInt_nat {i k : Nat} {t : Tok} : isInt (k : Int) (.int (i : Int) t) = decide (i = k) := by
  unfold isInt
  by_cases h : i = k
  · subst h; simp
  · have h2 : ¬ ((i : Int) = (k : Int)) := by omega
    simp [h]
    exact h2
theorem any_of {vs : List Value} {is : List Nat} {k : Nat} (h : All2 IsNat vs is) : vs.any (isInt (k : Int)) = decide (k ∈ is) := by
  induction h with
  | nil => simp
  | cons h _ ih =>
    obtain ⟨t, rfl⟩ := h
    rw [List.any_cons, ih, isInt_nat]
    rename_i b _ _ _
    by_cases e : b = k
    · subst e; simp
    · have : ¬ k = b := fun q => e q.symm
      simp [e, this]
theorem at_of {vs : List Value} {is : List Nat} (h : All2 IsNat vs is) : ∀ {j k : Nat}, is.Nodup → is[j]? = some k → kf_at (k : Int) vs = some j := by
  induction h with
  | nil => intro j k _ h; simp at h
  | cons h _ ih =>
    intro j k nd hj
    obtain ⟨t, rfl⟩ := h
    rename_i b _ r _
    unfold kf_at
    rw [isInt_nat]
    cases j with
    | zero =>
      have e : b = k := by simpa using hj
      subst e; simp
    | succ j =>
      have hk : r[j]? = some k := by simpa using hj
      have hne : b ≠ k := fun e => (List.nodup_cons.mp nd).1 (e ▸ List.mem_of_getElem? hk)
      rw [decide_eq_false hne, cond_false, ih (List.nodup_cons.mp nd).2 hk]
noncomputable def insNat (is : List Nat) (j k : Nat) : List Nat := is.take j ++ k :: is.drop j
theorem kl_ins_nat {vs : List Value} {is : List Nat} {j k : Nat} {t : Tok} (h : All2 IsNat vs is) (hj : j ≤ is.length) : All2 IsNat (kl_ins vs (j : Int) (.int (k : Int) t)) (insNat is j k) := by
  have hl := h.length
  unfold kl_ins insNat
  rw [if_neg (by omega), Int.toNat_natCast, Nat.min_eq_left (by omega)]
  exact (h.take j).append (.cons ⟨t, rfl⟩ (h.drop j))
section
variable {prog : Program} {w : World} {A : Around} {E : Value → Shared → Prop} {gh : Heap} {gn : Array GenState} {dr : Drawn} {tk0 : Nat} {os : OsState} {h₀ : Heap} {L D : Addr} {m : Str → Option Value} {news : Led} {n : Nat}
theorem appendL {vs : List Value} {x : Value} {Q : Value → Shared → Prop} (F : Fr h₀ L gh m) (N : News h₀ L gh news) (hm : (D, LO vs n) ∈ news) (hsz : vs.length ≤ 1000000)
    (h : ∀ h', Fr h₀ L h' m → News h₀ L h' (setL D (LO (vs ++ [x]) (n + 1)) news) → Q .none ⟨h', gn, dr, tk0, os⟩) : wpAny (model prog w) A (call (.builtin "list.append") [.ref D, x]) Q E ⟨gh, gn, dr, tk0, os⟩ :=
  appendU F (cutN N hm) (.head offNe) hsz fun h' F' N' => h h' F' (joinN N')
theorem setItemL {vs : List Value} {i : Nat} {t : Tok} {v : Value} {Q : Unit → Shared → Prop} (F : Fr h₀ L gh m) (N : News h₀ L gh news) (hm : (D, LO vs n) ∈ news) (hi : i < vs.length) (hz : vs.length ≤ 1000000)
    (h : ∀ h', Fr h₀ L h' m → News h₀ L h' (setL D (LO (vs.set i v) n) news) → Q () ⟨h', gn, dr, tk0, os⟩) : wpAny (model prog w) A (setItem (.ref D) (.int (i : Int) t) v) Q E ⟨gh, gn, dr, tk0, os⟩ :=
  setU F (cutN N hm) hi hz (.head offNe) fun h' F' N' => h h' F' (joinN N')
theorem setItemN (i : Nat) {vs : List Value} {t : Tok} {v : Value} {Q : Unit → Shared → Prop} (F : Fr h₀ L gh m) (N : News h₀ L gh news) (hm : (D, LO vs n) ∈ news) (hi : i < vs.length) (hz : vs.length ≤ 1000000)
    (h : ∀ h', Fr h₀ L h' m → News h₀ L h' (setL D (LO (vs.set i v) n) news) → Q () ⟨h', gn, dr, tk0, os⟩) : wpAny (model prog w) A (setItem (.ref D) (.int (i : Int) t) v) Q E ⟨gh, gn, dr, tk0, os⟩ := setItemL F N hm hi hz h
theorem insertL {vs : List Value} {j : Nat} {u : Tok} {y : Value} {Q : Value → Shared → Prop} (F : Fr h₀ L gh m) (N : News h₀ L gh news) (hm : (D, LO vs n) ∈ news) (hj : j ≤ 1000000) (hz : vs.length ≤ 1000000)
    (h : ∀ h', Fr h₀ L h' m → News h₀ L h' (setL D (LO (kl_ins vs (j : Int) y) (n + 1)) news) → Q .none ⟨h', gn, dr, tk0, os⟩) : wpAny (model prog w) A (call (.builtin "list.insert") [.ref D, .int (j : Int) u, y]) Q E ⟨gh, gn, dr, tk0, os⟩ :=
  kl_insert F (cutN N hm) (by unfold Builtin.List.listFitsIndex; simp; omega) rfl (by rw [List.toList_toArray]; exact .head offNe) (by rw [List.toList_toArray]; exact Nat.le_trans hz (by decide)) fun h' F' N' => h h' F' (joinN N')
theorem inL {vs : List Value} {is : List Nat} {k : Nat} {t : Tok} {Q : Value → Shared → Prop} (N : News h₀ L gh news) (hm : (D, LO vs n) ∈ news) (hi : All2 IsNat vs is) (h : Q (.bool (decide (k ∈ is))) ⟨gh, gn, dr, tk0, os⟩) :
    wpAny (model prog w) A (compareOp .In (.int (k : Int) t) (.ref D)) Q E ⟨gh, gn, dr, tk0, os⟩ :=
  kf_in N hm (by rw [List.toList_toArray]; exact ints_of hi) (by rw [List.toList_toArray]; exact any_of hi) h
theorem notInL {vs : List Value} {is : List Nat} {k : Nat} {t : Tok} {Q : Value → Shared → Prop} (N : News h₀ L gh news) (hm : (D, LO vs n) ∈ news) (hi : All2 IsNat vs is) (h : Q (.bool (!decide (k ∈ is))) ⟨gh, gn, dr, tk0, os⟩) :
    wpAny (model prog w) A (compareOp .NotIn (.int (k : Int) t) (.ref D)) Q E ⟨gh, gn, dr, tk0, os⟩ :=
  kf_notin N hm (by rw [List.toList_toArray]; exact ints_of hi) (by rw [List.toList_toArray, any_of hi]) h
theorem indexL {vs : List Value} {is : List Nat} {j k : Nat} {t : Tok} {Q : Value → Shared → Prop} (N : News h₀ L gh news) (hm : (D, LO vs n) ∈ news) (hi : All2 IsNat vs is) (nd : is.Nodup) (hk : is[j]? = some k) (hz : vs.length ≤ 1000000)
    (h : Q (.int (j : Int) tk0) ⟨gh, gn, dr, tk0 + 1, os⟩) : wpAny (model prog w) A (call (.builtin "list.index") [.ref D, .int (k : Int) t]) Q E ⟨gh, gn, dr, tk0, os⟩ :=
  kf_index N hm (by rw [List.toList_toArray]; exact ints_of hi) (by rw [List.toList_toArray]; exact at_of hi nd hk) rfl (by rw [List.toList_toArray]; exact Nat.le_trans hz (by decide)) h
theorem setDictL {kvs : List (Int × Value)} {o : Obj} {k : Nat} {t : Tok} {v : Value} {Q : Unit → Shared → Prop} (F : Fr h₀ L gh m) (N : News h₀ L gh news) (hm : (D, o) ∈ news) (hd' : o.IsDictOf (PySem.intKind prog w) kvs) (hz : kvs.length ≤ 1000000)
    (h : ∀ h' o', Fr h₀ L h' m → News h₀ L h' (setL D o' news) → o'.IsDictOf (PySem.intKind prog w) (stored kvs (k : Int) v) → Q () ⟨h', gn, dr, tk0 + 1, os⟩) : wpAny (model prog w) A (setItem (.ref D) (.int (k : Int) t) v) Q E ⟨gh, gn, dr, tk0, os⟩ :=
  kda_set F (cutN N hm) (.head offNe) hd' (intKind_is _ _ _ _) (Nat.le_trans hz (by decide)) fun h' o' F' N' d' => h h' o' F' (joinN N') d'
end
section
open LCg
/-- the walk stops here -/
noncomputable def CompAt (prog : Program) (w : World) (A : Around) (h₀ : Heap) (L : Addr) (m : Str → Option Value) (env : Env) (elt : Expr) (x : Str) (scope : Scope) (cl : List (Str × Addr)) (Fin : Shared → List Value → List (Addr × Obj) → Prop) (xv : Value) (s₁ : Shared) : Prop :=
  CompSrc prog w A h₀ L m env elt x scope cl Fin xv s₁
theorem CompAt.out {prog : Program} {w : World} {A : Around} {h₀ : Heap} {L : Addr} {m : Str → Option Value} {env : Env} {elt : Expr} {x : Str} {scope : Scope} {cl : List (Str × Addr)} {Fin : Shared → List Value → List (Addr × Obj) → Prop} {xv : Value} {s₁ : Shared} (h : CompAt prog w A h₀ L m env elt x scope cl Fin xv s₁) : CompSrc prog w A h₀ L m env elt x scope cl Fin xv s₁ := h
end

local macro_rules (kind := PyProof.Rows.tacticWalk_at_) | x => on9 "CompSrc" x (refine9 "CompAt.out ?")
local macro_rules (kind := PyProof.Rows.tacticWalk_at_) | x => call9 "call builtin:list.append" "appendL" 4 x

/-- what is off the changed addresses stays, and so do the tuples -/
noncomputable def Keep (ch : List Addr) (news news' : Led) : Prop := ∀ p ∈ news, (p.1 ∉ ch ∨ p.2.cls = .type "tuple") → p ∈ news'
theorem Keep.refl {ch : List Addr} {news : Led} : Keep ch news news := fun _ h _ => h
theorem Keep.trans {ch : List Addr} {a b c : Led} (h : Keep ch a b) (k : Keep ch b c) : Keep ch a c := fun p hp hc => k p (h p hp hc) hc
theorem Keep.wide {ch ch' : List Addr} {a b : Led} (h : Keep ch a b) (hs : ∀ x ∈ ch, x ∈ ch') : Keep ch' a b := fun p hp hc => h p hp (hc.imp (fun h x => h (hs _ x)) id)
theorem Keep.sub {ch : List Addr} {a b c : Led} (h : Keep ch a b) (hs : Sub b c) : Keep ch a c := fun p hp hc => hs _ (h p hp hc)
theorem Keep.step {ch : List Addr} {X Y : Led} {h₀ h : Heap} {L D : Addr} {o o' : Obj} (K : Keep ch X Y) (N : News h₀ L h Y) (hD : (D, o) ∈ Y) (ho : o.cls ≠ .type "tuple") (hch : D ∈ ch) : Keep ch X (setL D o' Y) := fun p hp hc => by
  have hY := K p hp hc
  obtain ⟨a, x⟩ := p
  refine setL_ne (fun e => ?_) hY
  subst e
  rcases hc with hc | hc
  · exact hc hch
  · exact ho (news_fun N hD hY ▸ hc)
theorem AttrsAt.keep {news news' : Led} {ch : List Addr} {a : Addr} {ps : List (Str × Str)} (h : AttrsAt news a ps) (K : Keep ch news news') (ha : a ∉ ch) : AttrsAt news' a ps := by
  obtain ⟨vs, n, h1, h2⟩ := h
  exact ⟨vs, n, K _ h1 (.inl ha), h2.imp fun _ _ ⟨q, t₁, t₂, c, e, h⟩ => ⟨q, t₁, t₂, c, e, K _ h (.inr rfl)⟩⟩
noncomputable def TA.lists (T : TA) : List Addr := [T.k, T.s, T.n, T.a, T.x, T.p, T.c]
noncomputable def treeAddrs (T : TA) (as qs : List Addr) : List Addr := T.t :: T.d :: T.ct :: (T.lists ++ (as ++ qs))
/-- the tree without the dict of contents -/
structure TreeC (w : World) (news : Led) (T : TA) (as qs : List Addr) (nds : List Nd) : Prop where
  inst : (T.t, instObj 250 T.d) ∈ news
  dict : (T.d, dictOf (treeEs w.params T) 8) ∈ news
  kinds : ∃ vs n, (T.k, LO vs n) ∈ news ∧ All2 IsStr vs (nds.map Nd.kind)
  spaces : ∃ vs n, (T.s, LO vs n) ∈ news ∧ All2 IsStr vs (nds.map Nd.space)
  names : ∃ vs n, (T.n, LO vs n) ∈ news ∧ All2 IsStr vs (nds.map Nd.name)
  texts : ∃ vs n, (T.x, LO vs n) ∈ news ∧ All2 IsStr vs (nds.map Nd.text)
  parents : ∃ vs n, (T.p, LO vs n) ∈ news ∧ All2 IsInt vs (nds.map Nd.parent)
  attrs : ∃ n, (T.a, LO (as.map .ref) n) ∈ news
  alen : as.length = nds.length
  attr : ∀ (i : Nat) (d : Nd) (a : Addr), nds[i]? = some d → as[i]? = some a → d.kind = "element" → AttrsAt news a d.attrs
  kids : ∃ n, (T.c, LO (qs.map .ref) n) ∈ news
  klen : qs.length = nds.length
  kid : ∀ (i : Nat) (d : Nd) (q : Addr), nds[i]? = some d → qs[i]? = some q → ∃ vs n, (q, LO vs n) ∈ news ∧ All2 IsNat vs d.under
  lo : (T.ct == sysModules) = false
  room : nds.length ≤ 1000
  has : ∀ x ∈ treeAddrs T as qs, ∃ o, (x, o) ∈ news ∧ o.cls ≠ .type "tuple"
  nd : (treeAddrs T as qs).Nodup
noncomputable def ContAt (w : World) (news : Led) (T : TA) (cn : List Nd) : Prop := ∃ o kvs, (T.ct, o) ∈ news ∧ o.IsDictOf (intKind PySem.Challenge.rw_nz0091_01.row.prog w) kvs ∧ kvs.length ≤ cn.length ∧ ContOk kvs cn
/-- the seven lists of a tree are not one another -/
inductive Nes (T : TA) : Prop
  | mk (n11 : @Ne Nat T.k T.s) (n12 : @Ne Nat T.k T.n) (n13 : @Ne Nat T.k T.a) (n14 : @Ne Nat T.k T.x) (n15 : @Ne Nat T.k T.p) (n16 : @Ne Nat T.k T.c) (n21 : @Ne Nat T.s T.n) (n22 : @Ne Nat T.s T.a) (n23 : @Ne Nat T.s T.x) (n24 : @Ne Nat T.s T.p) (n25 : @Ne Nat T.s T.c) (n31 : @Ne Nat T.n T.a) (n32 : @Ne Nat T.n T.x) (n33 : @Ne Nat T.n T.p) (n34 : @Ne Nat T.n T.c) (n41 : @Ne Nat T.a T.x) (n42 : @Ne Nat T.a T.p) (n43 : @Ne Nat T.a T.c) (n51 : @Ne Nat T.x T.p) (n52 : @Ne Nat T.x T.c) (n61 : @Ne Nat T.p T.c) : Nes T
section
variable {w : World} {news news' : Led} {T : TA} {as qs : List Addr} {nds : List Nd} {i : Nat} {d : Nd}
theorem TreeC.rep (h : TreeC w news T as qs nds) (c : ContAt w news T nds) : TreeRep w news T as qs nds where
  inst := h.inst
  dict := h.dict
  kinds := h.kinds
  spaces := h.spaces
  names := h.names
  texts := h.texts
  parents := h.parents
  attrs := h.attrs
  alen := h.alen
  attr := h.attr
  kids := h.kids
  klen := h.klen
  kid := h.kid
  conts := let ⟨o, kvs, h1, h2, _, h3⟩ := c; ⟨o, kvs, h1, h2, h3⟩
  lo := h.lo
  room := h.room
theorem TreeC.keep {ch : List Addr} (R : TreeC w news T as qs nds) (K : Keep ch news news') (hd' : ∀ x ∈ treeAddrs T as qs, x ∉ ch) : TreeC w news' T as qs nds := by
  have k : ∀ x ∈ treeAddrs T as qs, ∀ o, (x, o) ∈ news → (x, o) ∈ news' := fun x hx o h => K _ h (.inl (hd' x hx))
  have hl : ∀ x ∈ T.lists, x ∈ treeAddrs T as qs := fun x hx => List.mem_cons_of_mem _ (List.mem_cons_of_mem _ (List.mem_cons_of_mem _ (List.mem_append_left _ hx)))
  have ha : ∀ x ∈ as, x ∈ treeAddrs T as qs := fun x hx => List.mem_cons_of_mem _ (List.mem_cons_of_mem _ (List.mem_cons_of_mem _ (List.mem_append_right _ (List.mem_append_left _ hx))))
  have hq : ∀ x ∈ qs, x ∈ treeAddrs T as qs := fun x hx => List.mem_cons_of_mem _ (List.mem_cons_of_mem _ (List.mem_cons_of_mem _ (List.mem_append_right _ (List.mem_append_right _ hx))))
  exact {
    inst := k _ (by unfold treeAddrs; simp) _ R.inst
    dict := k _ (by unfold treeAddrs; simp) _ R.dict
    kinds := let ⟨vs, n, h, r⟩ := R.kinds; ⟨vs, n, k _ (hl _ (by unfold TA.lists; simp)) _ h, r⟩
    spaces := let ⟨vs, n, h, r⟩ := R.spaces; ⟨vs, n, k _ (hl _ (by unfold TA.lists; simp)) _ h, r⟩
    names := let ⟨vs, n, h, r⟩ := R.names; ⟨vs, n, k _ (hl _ (by unfold TA.lists; simp)) _ h, r⟩
    texts := let ⟨vs, n, h, r⟩ := R.texts; ⟨vs, n, k _ (hl _ (by unfold TA.lists; simp)) _ h, r⟩
    parents := let ⟨vs, n, h, r⟩ := R.parents; ⟨vs, n, k _ (hl _ (by unfold TA.lists; simp)) _ h, r⟩
    attrs := let ⟨n, h⟩ := R.attrs; ⟨n, k _ (hl _ (by unfold TA.lists; simp)) _ h⟩
    alen := R.alen
    attr := fun i d a h1 h2 h3 => (R.attr i d a h1 h2 h3).keep K (hd' a (ha a (List.mem_of_getElem? h2)))
    kids := let ⟨n, h⟩ := R.kids; ⟨n, k _ (hl _ (by unfold TA.lists; simp)) _ h⟩
    klen := R.klen
    kid := fun i d q h1 h2 => let ⟨vs, n, h, r⟩ := R.kid i d q h1 h2; ⟨vs, n, k _ (hq q (List.mem_of_getElem? h2)) _ h, r⟩
    lo := R.lo
    room := R.room
    has := fun x hx => let ⟨o, h, e⟩ := R.has x hx; ⟨o, k x hx o h, e⟩
    nd := R.nd }
theorem TreeC.sub (R : TreeC w news T as qs nds) (hs : Sub news news') : TreeC w news' T as qs nds := R.keep (ch := []) (fun p hp _ => hs p hp) fun _ _ h => by simp at h
theorem ContAt.sub {cn : List Nd} (c : ContAt w news T cn) (hs : Sub news news') : ContAt w news' T cn := let ⟨o, kvs, h1, h2, h3, h4⟩ := c; ⟨o, kvs, hs _ h1, h2, h3, h4⟩
theorem ContAt.keep {ch : List Addr} {cn : List Nd} (c : ContAt w news T cn) (K : Keep ch news news') (hc : T.ct ∉ ch) : ContAt w news' T cn := let ⟨o, kvs, h1, h2, h3, h4⟩ := c; ⟨o, kvs, K _ h1 (.inl hc), h2, h3, h4⟩
/-- the six-and-fifteen distinctions of the seven lists -/
theorem TreeC.nes (R : TreeC w news T as qs nds) : Nes T := by
  have h := R.nd
  unfold treeAddrs TA.lists at h
  simp only [List.cons_append, List.nil_append, List.nodup_cons, List.mem_cons, not_or] at h
  obtain ⟨_, _, _, ⟨a1, a2, a3, a4, a5, a6, _⟩, ⟨b1, b2, b3, b4, b5, _⟩, ⟨c1, c2, c3, c4, _⟩, ⟨d1, d2, d3, _⟩, ⟨e1, e2, _⟩, ⟨f1, _⟩, _⟩ := h
  exact ⟨a1, a2, a3, a4, a5, a6, b1, b2, b3, b4, b5, c1, c2, c3, c4, d1, d2, d3, e1, e2, f1⟩
end

noncomputable def keyNames : List Str := ["id", "xlink href", "xmlns", "xml lang", "xmlns xlink", "definitionURL", "data-x"]
theorem key_len : ∀ x ∈ keyNames, x.length ≤ 20 := by decide
structure PairsOk (ps : List (Str × Str)) : Prop where
  many : ps.length ≤ 3
  key : ∀ p ∈ ps, p.1.length ≤ 20
  val : ∀ p ∈ ps, p.2.length ≤ 6
inductive AT9 (led : Led) (i : Nat) (ys : List Value) (nw : Led) : Prop
  | mk (tups : Led) (ps : List (Str × Str)) (h1 : nw = (tups ++ led)) (h2 : All2 (PairAt tups) ys ps) (h3 : ps.length = i) (h4 : ∀ p ∈ ps, p.1.length ≤ 20) (h5 : ∀ p ∈ ps, p.2.length ≤ 6) : AT9 led i ys nw
section
variable {w : World} {loose : List Str} {mean : ExcName → Option Value} {mg mb : Str → Option Value} {dp un : Nat} {gd : Option (List Code)} {cn : Str} {cs : Scope} {a : Addr} {ccd : Value} {cl : List (Str × Addr)} {outer : List Env} {A₀ : Around} {base h₀ : Heap} {L : Addr} {m : Str → Option Value} {gh : Heap} {gn : Array GenState} {dr : Drawn} {tk0 : Nat} {os : OsState} {Q E : Value → Shared → Prop} {news : Led}
theorem law_attrs_spec {dg : Int} {td : Tok} (C : Cx w loose mean mg mb outer A₀ base h₀ cs) (F : Fr h₀ L gh m) (N : News h₀ L gh news) (hp : 0 < tk0) (hdp : dp + 4 < recursionLimit) (hun : un + 32 < cLine)
  (hret : ∀ (a : Addr) (tups : Led) (vs : List Value) (ps : List (Str × Str)) (h' : Heap) (tk' : Nat), 0 < tk' → All2 (PairAt tups) vs ps → PairsOk ps → Fr h₀ L h' m → News h₀ L h' ((a, TO vs 0) :: (tups ++ news)) → Q (.ref a) ⟨h', gn, dr, tk', os⟩) :
  wpAny (model PySem.Challenge.rw_nz0091_01.row.prog w) (ktrTop dp un gd cn cs L a ccd cl outer) (call (.ref 287) [.int dg td]) Q E ⟨gh, gn, dr, tk0, os⟩ := by
  refine viaF fun hG9 => ?_
  obtain ⟨B, X, TT, hk⟩ := C
  refine hG9 ?_
  refine' enterC (binds := [(PySem.Str.ofString "digit", Value.int dg td)]) B F X N TT hk hp (by ktr_room) ?ho ?hcd ?hb ?hl ?hnd ?_ ?c1 ?c2 ?c3
  case ho => k_is
  case hcd => k_is
  case hb => first | exact BindsTo.of_eq rfl | exact binds_K (by k_in) rfl (by k_is) rfl rfl rfl
  case hl => exact rfl
  case hnd => decide +kernel
  case c1 => rfl
  case c2 => rfl
  case c3 => rfl
  intro g L₁ h₁ tk cells hp₁ FG F₁ N₁ Y₁ B₁ X₁ T₁ lt₁ A₁
  k_cells Y₁
  simp only [List.cons_append, List.nil_append] at N₁
  have hnc : ∀ p ∈ news, p.1 ≠ L₁ + 1 := fun p hp e => by have := lt₁ p hp; rw [e] at this; exact absurd this (Nat.not_lt.mpr (Nat.le_succ _))
  have hnc2 : ∀ p ∈ news, p.1 ≠ L₁ + 1 + 1 := fun p hp e => by have := lt₁ p hp; rw [e] at this; exact absurd this (Nat.not_lt.mpr (Nat.le_trans (Nat.le_succ _) (Nat.le_succ _)))
  try dsimp only
  k_steps
  unfold Stop
  rename News _ _ _ _ => N9
  rename Fr _ _ _ _ => F9
  refine viaF fun hG9 => ?_
  obtain ⟨n, hn, hn3⟩ : ∃ n : Nat, dg.fmod 4 = (n : Int) ∧ n ≤ 3 := let ⟨n, h1, h2⟩ := fmodN 4 rfl rfl; ⟨n, h1, Nat.le_of_lt_succ h2⟩
  obtain ⟨ln, vn, c1, c2, cd1, cd2, hvn, N8⟩ : ∃ ln vn c1 c2, c1.data = .cell (some (.ref ln)) ∧ c2.data = .cell (some (.int dg td)) ∧ All2 IsStr vn keyNames ∧ News g L₁ _ ((ln, LO vn 0) :: (L₁ + 1 + 1, c1) :: (L₁ + 1, c2) :: news) :=
    ⟨_, _, _, _, by assumption, Eq.trans (by assumption) rfl, .cons ⟨_, rfl⟩ (.cons ⟨_, rfl⟩ (.cons ⟨_, rfl⟩ (.cons ⟨_, rfl⟩ (.cons ⟨_, rfl⟩ (.cons ⟨_, rfl⟩ (.cons ⟨_, rfl⟩ .nil)))))), N9⟩
  refine hG9 ?_
  clear N9
  refine wpAny_pos (by tb_rel) (LCg.ListComp_U F9 (by with_unfolding_all rfl) (by decide) (by rfl) (by decide) (by rfl) ?_)
  k_steps
  unfold CompAt
  rename IsRange _ _ _ _ _ _ _ _ => R9
  rename Fr _ _ _ _ => F7
  rename News _ _ _ _ => N7
  rw [hn] at R9
  refine LCg.CompSrc.range (n := n) rfl F7 N7 R9 (small1 (Nat.le_trans hn3 (by decide))) size1 (Nat.le_trans hn3 (by decide)) fun g2 => ?_
  refine compI (AT9 ((ln, LO vn 0) :: (L₁ + 1 + 1, c1) :: (L₁ + 1, c2) :: news)) ?turn ?fin ⟨[], [], rfl, .nil, rfl, by simp, by simp⟩
  case turn =>
    rintro i v ys nw I oI C oC D m₂ h tk E' hik ⟨t9, rfl⟩ ⟨tups, ps, rfl, hys, hpl, hk1, hk2⟩ hC hx2 F5 N5 off ne
    refine viaF fun hG9 => ?_
    obtain ⟨j, hj, hj7⟩ : ∃ j : Nat, (dg.fdiv 4 + (0 + (i : Int))).fmod 7 = (j : Int) ∧ j < keyNames.length := fmodN 7 rfl rfl
    obtain ⟨z, hz⟩ : ∃ z, keyNames[j]? = some z := ⟨keyNames[j], by simp [hj7]⟩
    obtain ⟨v, hv, tv, rfl⟩ := hvn.get hz
    have hkl := key_len z (List.mem_of_getElem? hz)
    have hitem : ItemAt ((ln, LO vn 0) :: (L₁ + 1 + 1, c1) :: (L₁ + 1, c2) :: news) ln ((dg.fdiv 4 + (0 + (i : Int))).fmod 7) (.str z tv) := hj ▸ .of (List.mem_cons_self ..) hv (Nat.lt_of_lt_of_le hj7 (by decide))
    refine hG9 ?_
    try dsimp only
    k_steps
    rename_i x' tx _ _ hxl _ q h6 F6 N6 l6
    refine viaF fun hG9 => ?_
    obtain ⟨lI, lC, lD, lA⟩ := l6
    refine hG9 ?_
    refine LCg.CompEnd.intro F6 N6 ((q, TO [.str z tv, .str x' tx] 0) :: (tups ++ ((ln, LO vn 0) :: (L₁ + 1 + 1, c1) :: (L₁ + 1, c2) :: news))) (fun p hp => ?_) ⟨⟨Nat.ne_of_gt lI, Nat.ne_of_gt lC, Nat.ne_of_gt lD⟩, off⟩ trivial
      ⟨(q, TO [.str z tv, .str x' tx] 0) :: tups, ps ++ [(z, x')], rfl, ?_, ?_, ?_, ?_⟩
    · simp only [List.mem_cons] at hp ⊢
      rcases hp with h | h | h | h | h <;> simp [h]
    · exact (hys.imp fun _ _ h => h.sub (Sub.cons Sub.refl)).snoc ⟨q, _, _, _, rfl, List.mem_cons_self ..⟩
    · rw [List.length_append, hpl]; rfl
    · intro p hp
      rcases List.mem_append.mp hp with hp | hp
      · exact hk1 p hp
      · rw [List.mem_singleton.mp hp]; exact hkl
    · intro p hp
      rcases List.mem_append.mp hp with hp | hp
      · exact hk2 p hp
      · rw [List.mem_singleton.mp hp]; exact hxl
  case fin =>
    rintro ys nw ⟨tups, ps, rfl, hys, hpl, hk1, hk2⟩ D h5 tk5 F5 N5 off5
    have hyl := hys.length
    try dsimp only
    intro hp5
    k_steps
    rename News _ _ _ _ => N9
    refine hret _ tups ys ps _ _ (by assumption) hys ⟨by omega, hk1, hk2⟩ (by k_asm) (news_sub N9 fun p hp => ?_)
    simp only [List.mem_cons, List.mem_append] at hp ⊢
    rcases hp with h | h | h <;> simp [h]
end

noncomputable def wholeT (nds : List Nd) (flag : Bool) (j : Nat) : Str := match nds[j]? with
  | some d => outText nds flag j d
  | none => Str.empty
noncomputable def withT (nds : List Nd) (flag : Bool) (j : Nat) : Str := match nds[j]? with
  | some d => inText nds flag j d
  | none => Str.empty
noncomputable def toldL (f : Nat → Str) (many i : Nat) : List Str := (List.range many).map fun j => if many ≤ j + i then f j else Str.empty
theorem news_pick13 {h₀ h : Heap} {L : Addr} {p1 p2 p3 p4 : Addr × Obj} {r : Led} (N : News h₀ L h (p1 :: p2 :: p3 :: p4 :: r)) : News h₀ L h (p1 :: p3 :: r) := news_sub N fun p hp => by
  simp only [List.mem_cons] at hp ⊢
  rcases hp with h | h | h <;> simp [h]
theorem tem_dec {d : Nd} (h : (d.space == "html") = true → d.kind = "element") : decide ([d.space, d.name] = [PySem.Str.ofString "html", PySem.Str.ofString "template"]) = d.isTem := by
  unfold Nd.isTem
  by_cases h1 : d.space = "html"
  · have e := h (by rw [h1]; exact beq_self_eq_true _)
    by_cases h2 : d.name = "template"
    · rw [h1, h2, e]; simp
    · rw [h1, e]
      simp [h2]
  · simp [h1]
/-- no holder is a child; the kinds are the six -/
structure Good2 (nds : List Nd) : Prop where
  low : ∀ (i : Nat) (d : Nd), nds[i]? = some d → ∀ c ∈ d.under, ∀ e : Nd, nds[c]? = some e → isHold e = false
  spc : ∀ (i : Nat) (d : Nd), nds[i]? = some d → (d.space == "html") = true → d.kind = "element"
  kind : ∀ (i : Nat) (d : Nd), nds[i]? = some d → d.kind ∈ [PySem.Str.ofString "element", PySem.Str.ofString "text", PySem.Str.ofString "comment", PySem.Str.ofString "doctype", PySem.Str.ofString "document", PySem.Str.ofString "fragment"]
theorem toldL_len {f : Nat → Str} {many i : Nat} : (toldL f many i).length = many := by unfold toldL; simp
theorem toldL_get {f : Nat → Str} {many i c : Nat} (hc : c < many) (h : many ≤ c + i) : (toldL f many i)[c]? = some (f c) := by
  unfold toldL; simp [hc, h]
theorem toldL_q {f : Nat → Str} {many i k : Nat} : (toldL f many i)[k]? = if k < many then some (if many ≤ k + i then f k else Str.empty) else none := by
  unfold toldL
  by_cases h : k < many
  · simp [h]
  · simp [h]
theorem toldL_step {f : Nat → Str} {many i j : Nat} (hj : j + i + 1 = many) : toldL f many (i + 1) = (toldL f many i).set j (f j) := by
  apply List.ext_getElem?
  intro k
  rw [toldL_q, List.getElem?_set, toldL_len, toldL_q]
  by_cases e : j = k
  · subst e
    have h1 : j < many := by omega
    have h2 : many ≤ j + (i + 1) := by omega
    simp [h1, h2]
  · rw [if_neg e]
    by_cases h3 : many ≤ k + i
    · have h4 : many ≤ k + (i + 1) := by omega
      simp only [h3, h4, if_true]
    · by_cases h5 : k < many
      · have h4 : ¬ many ≤ k + (i + 1) := by omega
        simp only [h3, h4, if_false]
      · simp only [h5, if_false]
theorem toldL_same {f : Nat → Str} {many i j : Nat} (hj : j + i + 1 = many) (h : f j = Str.empty) : toldL f many (i + 1) = toldL f many i := by
  unfold toldL
  apply List.map_congr_left
  intro k hk
  by_cases h3 : many ≤ k + i
  · rw [if_pos h3, if_pos (by omega)]
  · rw [if_neg h3]
    by_cases h4 : many ≤ k + (i + 1)
    · have e : k = j := by have := List.mem_range.mp hk; omega
      rw [if_pos h4, e, h]
    · rw [if_neg h4]
theorem toldL_zero {f : Nat → Str} {u : Tok} (many : Nat) : All2 IsStr (List.replicate many (Value.str (PySem.Str.ofString "") u)) (toldL f many 0) := by
  have e : toldL f many 0 = List.replicate many Str.empty := by
    unfold toldL
    apply List.ext_getElem
    · simp
    · intro k h1 h2
      simp at h1 ⊢
      intro h; omega
  rw [e]
  clear e
  induction many with
  | zero => exact .nil
  | succ n ih => exact .cons ⟨u, rfl⟩ ih
theorem bindL_two {kindOf : Str → Option NameKind} {a b : Str} {va vb : Value} (ha : kindOf a = some .local) (hb : kindOf b = some .local) : bindL kindOf [(a, va), (b, vb)] (fun _ => none) = fun y => if y = b then some vb else if y = a then some va else none := by
  simp only [bindL, if_pos ha, if_pos hb]
theorem tem_endless {d : Nd} (h : d.isTem = true) : d.endless = false := by
  unfold Nd.isTem at h
  have h3 : d.name = PySem.Str.ofString "template" := by
    simp only [Bool.and_eq_true] at h
    exact eq_of_beq h.2.2
  unfold Nd.endless
  rw [h3]
  have e : (voids1.any (· == PySem.Str.ofString "template") || voids2.any (· == PySem.Str.ofString "template")) = false := by decide +kernel
  rw [e, Bool.and_false]
theorem law_out {nds : List Nd} {flag : Bool} {j : Nat} {d : Nd} (U : Up nds) (hd : nds[j]? = some d) (hk : d.kind ∈ [PySem.Str.ofString "element", PySem.Str.ofString "text", PySem.Str.ofString "comment", PySem.Str.ofString "doctype", PySem.Str.ofString "document", PySem.Str.ofString "fragment"]) :
    lawText nds flag d (inText nds flag j d) = outText nds flag j d := by
  have hr := rend_eq (flag := flag) U hd
  simp only [List.mem_cons, List.not_mem_nil, or_false] at hk
  unfold outText isHold lawText
  rcases hk with h | h | h | h | h | h
  · have e : ([PySem.Str.ofString "document", PySem.Str.ofString "fragment"].any (· == d.kind)) = false := by rw [h]; decide +kernel
    have k1 : (d.kind == PySem.Str.ofString "text") = false := by rw [h]; decide +kernel
    have k2 : (d.kind == PySem.Str.ofString "comment") = false := by rw [h]; decide +kernel
    have k3 : (d.kind == PySem.Str.ofString "doctype") = false := by rw [h]; decide +kernel
    have k4 : (d.kind != PySem.Str.ofString "element") = false := by rw [h]; decide +kernel
    have k5 : (d.kind == PySem.Str.ofString "element") = true := by rw [h]; decide +kernel
    simp only [k5, Bool.false_eq_true, if_false, if_true] at hr
    simp only [e, k1, k2, k3, k4, Bool.false_eq_true, if_false, hr]
    unfold inText
    cases d.endless <;> rfl
  · have e : ([PySem.Str.ofString "document", PySem.Str.ofString "fragment"].any (· == d.kind)) = false := by rw [h]; decide +kernel
    have k1 : (d.kind == PySem.Str.ofString "text") = true := by rw [h]; decide +kernel
    have k2 : (d.kind == PySem.Str.ofString "comment") = false := by rw [h]; decide +kernel
    have k3 : (d.kind == PySem.Str.ofString "doctype") = false := by rw [h]; decide +kernel
    have k4 : (d.kind != PySem.Str.ofString "element") = true := by rw [h]; decide +kernel
    have k5 : (d.kind == PySem.Str.ofString "element") = false := by rw [h]; decide +kernel
    simp only [k5, Bool.false_eq_true, if_false, if_true] at hr
    unfold leafText at hr
    simp only [k2, k3, Bool.false_eq_true, if_false, if_true] at hr
    simp only [e, k1, k2, k3, Bool.false_eq_true, if_false, if_true, hr]
  · have e : ([PySem.Str.ofString "document", PySem.Str.ofString "fragment"].any (· == d.kind)) = false := by rw [h]; decide +kernel
    have k1 : (d.kind == PySem.Str.ofString "text") = false := by rw [h]; decide +kernel
    have k2 : (d.kind == PySem.Str.ofString "comment") = true := by rw [h]; decide +kernel
    have k3 : (d.kind == PySem.Str.ofString "doctype") = false := by rw [h]; decide +kernel
    have k4 : (d.kind != PySem.Str.ofString "element") = true := by rw [h]; decide +kernel
    have k5 : (d.kind == PySem.Str.ofString "element") = false := by rw [h]; decide +kernel
    simp only [k5, Bool.false_eq_true, if_false, if_true] at hr
    unfold leafText at hr
    simp only [k2, k3, Bool.false_eq_true, if_false, if_true] at hr
    simp only [e, k1, k2, k3, Bool.false_eq_true, if_false, if_true, hr]
  · have e : ([PySem.Str.ofString "document", PySem.Str.ofString "fragment"].any (· == d.kind)) = false := by rw [h]; decide +kernel
    have k1 : (d.kind == PySem.Str.ofString "text") = false := by rw [h]; decide +kernel
    have k2 : (d.kind == PySem.Str.ofString "comment") = false := by rw [h]; decide +kernel
    have k3 : (d.kind == PySem.Str.ofString "doctype") = true := by rw [h]; decide +kernel
    have k4 : (d.kind != PySem.Str.ofString "element") = true := by rw [h]; decide +kernel
    have k5 : (d.kind == PySem.Str.ofString "element") = false := by rw [h]; decide +kernel
    simp only [k5, Bool.false_eq_true, if_false, if_true] at hr
    unfold leafText at hr
    simp only [k2, k3, Bool.false_eq_true, if_false, if_true] at hr
    simp only [e, k1, k2, k3, Bool.false_eq_true, if_false, if_true, hr]
  · have e : ([PySem.Str.ofString "document", PySem.Str.ofString "fragment"].any (· == d.kind)) = true := by rw [h]; decide +kernel
    have k1 : (d.kind == PySem.Str.ofString "text") = false := by rw [h]; decide +kernel
    have k2 : (d.kind == PySem.Str.ofString "comment") = false := by rw [h]; decide +kernel
    have k3 : (d.kind == PySem.Str.ofString "doctype") = false := by rw [h]; decide +kernel
    have k4 : (d.kind != PySem.Str.ofString "element") = true := by rw [h]; decide +kernel
    have k5 : (d.kind == PySem.Str.ofString "element") = false := by rw [h]; decide +kernel
    simp only [k5, Bool.false_eq_true, if_false, if_true] at hr
    simp only [e, k1, k2, k3, k4, Bool.false_eq_true, if_false, if_true]
  · have e : ([PySem.Str.ofString "document", PySem.Str.ofString "fragment"].any (· == d.kind)) = true := by rw [h]; decide +kernel
    have k1 : (d.kind == PySem.Str.ofString "text") = false := by rw [h]; decide +kernel
    have k2 : (d.kind == PySem.Str.ofString "comment") = false := by rw [h]; decide +kernel
    have k3 : (d.kind == PySem.Str.ofString "doctype") = false := by rw [h]; decide +kernel
    have k4 : (d.kind != PySem.Str.ofString "element") = true := by rw [h]; decide +kernel
    have k5 : (d.kind == PySem.Str.ofString "element") = false := by rw [h]; decide +kernel
    simp only [k5, Bool.false_eq_true, if_false, if_true] at hr
    simp only [e, k1, k2, k3, k4, Bool.false_eq_true, if_false, if_true]
theorem wholeT_eq {nds : List Nd} {flag : Bool} {j : Nat} {d : Nd} (U : Up nds) (hd : nds[j]? = some d) (hk : d.kind ∈ [PySem.Str.ofString "element", PySem.Str.ofString "text", PySem.Str.ofString "comment", PySem.Str.ofString "doctype", PySem.Str.ofString "document", PySem.Str.ofString "fragment"]) :
    lawText nds flag d (withT nds flag j) = wholeT nds flag j := by
  unfold withT wholeT
  rw [hd]
  exact law_out U hd hk
theorem withT_endless {nds : List Nd} {flag : Bool} {j : Nat} {d : Nd} (hd : nds[j]? = some d) (he : d.endless = true) : withT nds flag j = Str.empty := by
  unfold withT inText
  rw [hd]
  try dsimp only
  rw [if_pos he]
theorem withT_kids {nds : List Nd} {flag : Bool} {j : Nat} {d d1 : Nd} (G : Good nds) (G2 : Good2 nds) (hd : nds[j]? = some d) (hd1 : nds[d.ix j]? = some d1) (he : d.endless = false) : withT nds flag j = glue (d1.under.map (wholeT nds flag)) := by
  unfold withT inText
  rw [hd]
  try dsimp only
  rw [he, if_neg Bool.false_ne_true]
  have hk : kidsOf nds d j = d1.under := by unfold kidsOf; rw [hd1]
  rw [hk]
  refine congrArg glue (List.map_congr_left fun c hc => ?_)
  have h1 := (G.up _ _ hd1 c hc).2
  have he : nds[c]? = some nds[c] := by simp [h1]
  unfold wholeT outText
  rw [he]
  try dsimp only
  rw [G2.low _ _ hd1 c hc _ he, if_neg Bool.false_ne_true]
theorem withT_len {nds : List Nd} {flag : Bool} {j : Nat} {d : Nd} (G : Good nds) (hd : nds[j]? = some d) : (withT nds flag j).length ≤ 14000000 := by
  unfold withT inText
  rw [hd]
  try dsimp only
  split
  · exact Nat.zero_le _
  · have h1 := glue_map_len (rend nds flag) (tsize nds) 202 (kidsOf nds d j) fun c _ => rend_len G.ok c
    exact mulTop h1 (kids_cost2 G.up G.few d j) rfl
theorem kids_len {nds : List Nd} {j : Nat} {d d1 : Nd} (G : Good nds) (hd1 : nds[d.ix j]? = some d1) : d1.under.length ≤ 65536 := by
  have hk : kidsOf nds d j = d1.under := by unfold kidsOf; rw [hd1]
  have h2 := kids_cost2 G.up G.few d j
  have h3 := len_le_size (nds := nds) (kidsOf nds d j)
  rw [hk] at h2 h3
  exact Nat.le_trans h3 h2
theorem off_two {y : Str} (h : ([PySem.Str.ofString "n", PySem.Str.ofString "under"].contains y) = false) : y ≠ "n" ∧ y ≠ "under" := by
  refine ⟨?_, ?_⟩ <;> (rintro rfl; revert h; decide)
section
variable {prog : Program} {w : World} {A : Around} {E : Value → Shared → Prop} {gh : Heap} {gn : Array GenState} {dr : Drawn} {tk0 : Nat} {os : OsState} {h₀ : Heap} {L : Addr} {m : Str → Option Value} {news : Led}
theorem itemSet {value slice : Expr} {l : Addr} {vs : List Value} {n j : Nat} {u : Tok} {v : Value} {Q : Value → Shared → Prop} (N : News h₀ L gh news) (hm : (l, LO (vs.set j v) n) ∈ news) (hj : j < vs.length) (hz : vs.length ≤ 1000000) (h : Q v ⟨gh, gn, dr, tk0, os⟩)
    (hs : subscripted slice false (.ref l) (.int (j : Int) u) = operate [.ref l, .int (j : Int) u] (getItem (.ref l) (.int (j : Int) u)) := by with_unfolding_all rfl) :
    wpAny (model prog w) A (subscriptTail value slice (.ref l) (.int (j : Int) u)) Q E ⟨gh, gn, dr, tk0, os⟩ :=
  itemS N (.of hm (by simp [hj]) (by omega)) h hs
end
/-- the names of the turns' def ahead of a turn -/
noncomputable abbrev toldM (nds : List Nd) (flag : Bool) (nl wi : Addr) (tm : Tok) : Str → Option Value := (fun y : Str => if y = "within" then some (Value.ref wi) else if y = "many" then some (Value.int (nds.length : Int) tm) else if y = "flag" then some (Value.bool flag) else if y = "notes" then some (Value.ref nl) else none)
inductive TS (g : Heap) (L₁ : Addr) (h : Heap) (nds : List Nd) (flag : Bool) (nl : Addr) (news : Led) : Prop
  | mk (wi wa : Addr) (co : Obj) (u1 u2 tm : Tok) (F8 : Fr g L₁ h (toldM nds flag nl wi tm)) (N8 : News g L₁ h ((wi, LO (List.replicate nds.length (.str "" u1)) 0) :: (wa, LO (List.replicate nds.length (.str "" u2)) 0) :: (L₁ + 1, co) :: news))
    (cd : co.data = .cell (some (.ref wa))) (a1 : @LT.lt Nat _ (L₁ + 1) wa) (a2 : @LT.lt Nat _ wa wi) (a3 : @LT.lt Nat _ (L₁ + 1) wi) (a4 : ∀ p ∈ news, p.1 ≠ wa) (a5 : ∀ p ∈ news, p.1 ≠ wi) : TS g L₁ h nds flag nl news
inductive TI (nds : List Nd) (flag : Bool) (nl wi wa c : Addr) (tm : Tok) (co : Obj) (news : Led) (i : Nat) (m' : Str → Option Value) (nw : Led) : Prop
  | mk (vw : List Value) (nw1 : Nat) (vi : List Value) (ni1 : Nat) (h1 : nw = (wi, LO vi ni1) :: (wa, LO vw nw1) :: (c, co) :: news) (h2 : All2 IsStr vw (toldL (wholeT nds flag) nds.length i)) (h3 : All2 IsStr vi (toldL (withT nds flag) nds.length i))
    (h4 : ∀ y, ([PySem.Str.ofString "n", PySem.Str.ofString "under"].contains y) = false → m' y = toldM nds flag nl wi tm y) : TI nds flag nl wi wa c tm co news i m' nw
section
local macro_rules (kind := PyProof.Rows.tacticWalk_at_) | x => side9 "subscriptTail" "itemSet" 4 x
local macro_rules (kind := PyProof.Rows.tacticWalk_at_) | x => side9 "subscriptTail Name Name ref int" "itemSet" 4 x
local macro_rules (kind := PyProof.Rows.tacticWalk_at_) | x => side9 "subscriptTail Name Name ref int" "itemS" 2 x
variable {w : World} {loose : List Str} {mean : ExcName → Option Value} {mg mb : Str → Option Value} {dp un : Nat} {gd : Option (List Code)} {cn : Str} {cs : Scope} {a : Addr} {ccd : Value} {cl : List (Str × Addr)} {outer : List Env} {A₀ : Around} {base h₀ : Heap} {L : Addr} {m : Str → Option Value} {gh : Heap} {gn : Array GenState} {dr : Drawn} {tk0 : Nat} {os : OsState} {Q E : Value → Shared → Prop} {news : Led}
theorem law_told_spec {nl : Addr} {rs : List NR} {nds : List Nd} {flag : Bool} (C : Cx w loose mean mg mb outer A₀ base h₀ cs) (F : Fr h₀ L gh m) (N : News h₀ L gh news) (hp : 0 < tk0) (hdp : dp + 10 < recursionLimit) (hun : un + 80 < cLine)
  (R : NotesRep news nl rs nds) (G : Good nds) (G2 : Good2 nds)
  (hret : ∀ (t wa wi : Addr) (vw vi : List Value) (nw ni : Nat) (h' : Heap) (tk' : Nat), 0 < tk' → All2 IsStr vw (toldL (wholeT nds flag) nds.length nds.length) → All2 IsStr vi (toldL (withT nds flag) nds.length nds.length) → Fr h₀ L h' m → News h₀ L h' ((t, TO [.ref wa, .ref wi] 0) :: (wa, LO vw nw) :: (wi, LO vi ni) :: news) → Q (.ref t) ⟨h', gn, dr, tk', os⟩) :
  wpAny (model PySem.Challenge.rw_nz0091_01.row.prog w) (ktrTop dp un gd cn cs L a ccd cl outer) (call (.ref 311) [.ref nl, .bool flag]) Q E ⟨gh, gn, dr, tk0, os⟩ := by
  refine viaF fun hG9 => ?_
  obtain ⟨B, X, TT, hk⟩ := C
  obtain ⟨nn, hnl⟩ := R.list
  have hroom := R.room
  have hmap : (rs.map fun r => Value.ref r.a).length = nds.length := by rw [List.length_map, R.len]
  have hlen : (rs.map fun r => Value.ref r.a).length ≤ 1000 := by rw [List.length_map, R.len]; exact R.room
  refine hG9 ?_
  refine' enterC (binds := [(PySem.Str.ofString "notes", Value.ref nl), (PySem.Str.ofString "flag", Value.bool flag)]) B F X N TT hk hp (by ktr_room) ?ho ?hcd ?hb ?hl ?hnd ?_ ?c1 ?c2 ?c3
  case ho => k_is
  case hcd => k_is
  case hb => first | exact BindsTo.of_eq rfl | exact binds_K (by k_in) rfl (by k_is) rfl rfl rfl
  case hl => exact rfl
  case hnd => decide +kernel
  case c1 => rfl
  case c2 => rfl
  case c3 => rfl
  intro g L₁ h₁ tk cells hp₁ FG F₁ N₁ Y₁ B₁ X₁ T₁ lt₁ A₁
  k_cells Y₁
  simp only [List.cons_append, List.nil_append] at N₁
  rw [bindL_two rfl rfl] at F₁
  have hnc : ∀ p ∈ news, p.1 ≠ L₁ + 1 := fun p hp e => by have := lt₁ p hp; rw [e] at this; exact absurd this (Nat.not_lt.mpr (Nat.le_succ _))
  try dsimp only
  k_steps
  unfold Stop
  refine wpAny_For (wpAny_pos (by tb_rel) ?_)
  k_steps
  unfold Stop
  rename News _ _ _ _ => N9
  rename Fr _ _ _ _ => F9
  rename IsRange _ _ _ _ _ _ _ _ => R9
  dsimp +zetaDelta only at F9
  rw [hmap] at F9 N9 R9
  refine viaF fun hG9 => ?_
  obtain ⟨wi, wa, co, u1, u2, tm, F8, N8, cd, a1, a2, a3, a4, a5⟩ : TS g L₁ _ nds flag nl news :=
    ⟨_, _, _, _, _, _, F9, news_pick13 N9, by assumption, And.left (And.right (by assumption)), And.left (And.right (by assumption)), And.left (And.right (And.right (And.right (by assumption)))), by k_all, by k_all⟩
  refine hG9 ?_
  refine forRange (n := nds.length) rfl rfl rfl F8 N8 R9 (smallD hroom) sizeD (by tb_rel)
    (TI nds flag nl wi wa (L₁ + 1) tm co news) ?init ?step ?done
  case init => exact ⟨_, _, _, _, rfl, toldL_zero _, toldL_zero _, fun y _ => rfl⟩
  case step =>
    rintro i t0 m' nw h tk I oI hi ⟨vw, nw1, vi, ni1, rfl, hvw, hvi, hm'⟩ hpk F4 N4 off
    obtain ⟨j, hj⟩ : ∃ j, j + i + 1 = nds.length := down2 hi
    rw [down1 hj, fr_many hm'] at F4
    refine viaF fun hG9 => ?_
    obtain ⟨d, hd⟩ : ∃ d, nds[j]? = some d := ⟨nds[j]'(down3 hj), by simp⟩
    obtain ⟨r, hr, hitem, hnote⟩ := R.at hd
    obtain ⟨nr, t1, t2, t3, t4, t5, hrow⟩ := hnote.row
    obtain ⟨_, hk1⟩ := hnote.s
    obtain ⟨_, hk2⟩ := hnote.n
    have hk5 := hnote.c
    have hwl : vw.length = nds.length := hvw.length.trans toldL_len
    have hil : vi.length = nds.length := hvi.length.trans toldL_len
    have hIwi : @Ne Nat I wi := fun e => off (wi, _) (List.mem_cons_self ..) e.symm
    have hIwa : @Ne Nat I wa := fun e => off (wa, _) (List.mem_cons_of_mem _ (List.mem_cons_self ..)) e.symm
    have hIc : @Ne Nat I (L₁ + 1) := fun e => off (L₁ + 1, _) (List.mem_cons_of_mem _ (List.mem_cons_of_mem _ (List.mem_cons_self ..))) e.symm
    have hIn : ∀ p ∈ news, p.1 ≠ I := fun p hp => off p (List.mem_cons_of_mem _ (List.mem_cons_of_mem _ (List.mem_cons_of_mem _ hp)))
    have okd := G.ok j d hd
    have pard := G.par j d hd
    have hdec := tem_dec (G2.spc j d hd)
    have hjl : j < nds.length := lt_of_get hd
    have hjw : j < vw.length := by rw [hwl]; exact hjl
    have hjv : j < vi.length := by rw [hil]; exact hjl
    have hj62 : j < 2 ^ 62 := Nat.lt_of_lt_of_le hjl (Nat.le_trans R.room (by decide))
    refine hG9 ?_
    try dsimp only
    cases htm : d.isTem with
    | true =>
      rw [htm] at hdec
      refine viaF fun hG9 => ?_
      have hix : d.ix j = j + 1 := by unfold Nd.ix; rw [htm]; rfl
      obtain ⟨d1, hd1⟩ : ∃ d1, nds[d.ix j]? = some d1 := ⟨nds[d.ix j]'(G.ix j d hd), by simp⟩
      obtain ⟨r1, hr1, hitem1, hnote1⟩ := R.at hd1
      refine hG9 ?_
      rw [hix] at hitem1
      refine viaF fun hG9 => ?_
      have hitem2 : ItemAt news nl ((j : Int) + 1) (.ref r1.a) := by have := hitem1; rwa [Int.natCast_add] at this
      have hk51 := hnote1.c
      have hen := tem_endless htm
      obtain ⟨vu, nu, hvu, hus⟩ := hnote1.kids
      have hul := kids_len G hd1
      have hvl := hus.length
      have hT := withT_kids (flag := flag) G G2 hd hd1 hen
      have hgl : (glue (d1.under.map (wholeT nds flag))).length ≤ 14000000 := by rw [← hT]; exact withT_len G hd
      have hWT : lawText nds flag d (glue (d1.under.map (wholeT nds flag))) = wholeT nds flag j := by rw [← hT]; exact wholeT_eq G.up hd (G2.kind j d hd)
      refine hG9 ?_
      k_steps
      unfold Stop
      rename News _ _ _ _ => N5
      rename Fr _ _ _ _ => F5
      have N6 := news_tail (news_tail N5)
      clear N5
      refine wpAny_pos (by tb_rel) (LCg.ListComp_U F5 (by with_unfolding_all rfl) (by decide) (by rfl) (by decide) (by rfl) ?_)
      k_steps
      unfold CompAt
      rename Fr _ _ _ _ => F7
      rename News _ _ _ _ => N7
      refine LCg.CompSrc.ledger (its := vu.toArray) rfl F7 N7 (by k_mem) (by rw [List.size_toArray]; exact Nat.le_trans (Nat.le_trans (Nat.le_of_eq hvl) hul) (by decide)) fun g2 => ?_
      refine compI (fun k ys nw => nw = ((I, oI) :: (wi, LO vi ni1) :: (wa, LO vw nw1) :: (L₁ + 1, co) :: news) ∧ All2 IsStr ys ((d1.under.take k).map (wholeT nds flag))) ?turn ?fin ⟨rfl, .nil⟩
      case turn =>
        rintro k v ys nw I2 oI2 C oC D m₂ h2 tk2 E' hik hv ⟨rfl, hys⟩ hC hx2 F7 N7 off2 ne
        refine viaF fun hG9 => ?_
        obtain ⟨c, hc, tc, rfl⟩ := hus.getL (i := k) (a := v) (by simpa using hv)
        have hcj := G.up _ _ hd1 c (List.mem_of_getElem? hc)
        have hcge : nds.length ≤ c + i := down5 hj hix hcj.1
        obtain ⟨v2, hv2, t2', rfl⟩ := hvw.get (toldL_get (f := wholeT nds flag) (i := i) hcj.2 hcge)
        have hitem3 : ItemAt ((wa, LO vw nw1) :: (L₁ + 1, co) :: news) wa (c : Int) (.str (wholeT nds flag c) t2') := .of (List.mem_cons_self ..) hv2 (lt62 hcj.2 hroom)
        refine hG9 ?_
        k_steps
        refine LCg.CompEnd.intro F7 N7 _ (fun p hp => hp) off2 (.inr ⟨_, by k_mem, rfl, _, rfl⟩) ⟨rfl, ?_⟩
        rw [List.take_add_one, hc, List.map_append]
        exact hys.snoc ⟨t2', rfl⟩
      case fin =>
        rintro ys nw ⟨rfl, hys⟩ D h5 tk5 F8 N8 off5
        rw [show vu.toArray.size = d1.under.length by rw [List.size_toArray, hvl], List.take_length] at hys
        have hyl := hys.length
        rw [List.length_map] at hyl
        simp only [LCg.Off1, and_true] at off5
        try dsimp only
        intro hp5
        k_steps
        rename News _ _ _ _ => N9
        rename Fr _ _ _ _ => F9
        refine viaF fun hG9 => ?_
        obtain ⟨t8, t9, N10⟩ : ∃ t8 t9, News g L₁ _ ((I, oI) :: (wi, LO (vi.set j (.str (glue (d1.under.map (wholeT nds flag))) t8)) ni1) :: (wa, LO (vw.set j (.str (lawText nds flag d (glue (d1.under.map (wholeT nds flag)))) t9)) nw1) :: (L₁ + 1, co) :: news) := ⟨_, _, news_tail N9⟩
        refine hG9 ?_
        refine turnS_next F9 N10 (fun p hp => ?_) ⟨_, nw1, _, ni1, rfl, ?_, ?_, fun y hy => ?_⟩
        · simp only [List.mem_cons] at hp
          rcases hp with rfl | rfl | rfl | hp
          · exact hIwi.symm
          · exact hIwa.symm
          · exact hIc.symm
          · exact hIn p hp
        · rw [toldL_step hj]
          refine All2.set hvw ?_ j
          rw [hWT]; exact ⟨_, rfl⟩
        · rw [toldL_step hj]; refine All2.set hvi ?_ j; rw [hT]; exact ⟨_, rfl⟩
        · obtain ⟨y1, y2⟩ := off_two hy
          simp +zetaDelta only [if_neg y1, if_neg y2, hy, Bool.false_eq_true, if_false]
    | false =>
      rw [htm] at hdec
      have hix : d.ix j = j := by unfold Nd.ix; rw [htm]; rfl
      have hd1 : nds[d.ix j]? = some d := by rw [hix]; exact hd
      cases hen : d.endless with
      | true =>
        refine viaF fun hG9 => ?_
        obtain ⟨v0, hv0, t0', rfl⟩ := hvi.get (i := j) (b := Str.empty) (by rw [toldL_q, if_pos hjl, if_neg (down6 hj)])
        have hitem3 : ItemAt ((wi, LO vi ni1) :: (wa, LO vw nw1) :: (L₁ + 1, co) :: news) wi (j : Int) (.str Str.empty t0') := .of (List.mem_cons_self ..) hv0 hj62
        have hxl : Str.empty.length ≤ 15000000 := Nat.zero_le _
        have hWT : lawText nds flag d Str.empty = wholeT nds flag j := by rw [← withT_endless (flag := flag) hd hen]; exact wholeT_eq G.up hd (G2.kind j d hd)
        refine hG9 ?_
        k_steps
        rename News _ _ _ _ => N9
        rename Fr _ _ _ _ => F9
        obtain ⟨t9, N10⟩ : ∃ t9, News g L₁ _ ((I, oI) :: (wi, LO vi ni1) :: (wa, LO (vw.set j (.str (lawText nds flag d Str.empty) t9)) nw1) :: (L₁ + 1, co) :: news) := ⟨_, news_tail (news_tail N9)⟩
        refine turnS_next F9 N10 (fun p hp => ?_) ⟨_, nw1, _, ni1, rfl, ?_, ?_, fun y hy => ?_⟩
        · simp only [List.mem_cons] at hp
          rcases hp with rfl | rfl | rfl | hp
          · exact hIwi.symm
          · exact hIwa.symm
          · exact hIc.symm
          · exact hIn p hp
        · rw [toldL_step hj]
          refine All2.set hvw ?_ j
          rw [hWT]; exact ⟨_, rfl⟩
        · rw [toldL_same hj (withT_endless hd hen)]; exact hvi
        · obtain ⟨y1, y2⟩ := off_two hy
          simp +zetaDelta only [if_neg y1, if_neg y2, hy, Bool.false_eq_true, if_false]
      | false =>
        refine viaF fun hG9 => ?_
        obtain ⟨vu, nu, hvu, hus⟩ := hnote.kids
        have hul := kids_len G hd1
        have hvl := hus.length
        have hT := withT_kids (flag := flag) G G2 hd hd1 hen
        have hgl : (glue (d.under.map (wholeT nds flag))).length ≤ 14000000 := by rw [← hT]; exact withT_len G hd
        have hWT : lawText nds flag d (glue (d.under.map (wholeT nds flag))) = wholeT nds flag j := by rw [← hT]; exact wholeT_eq G.up hd (G2.kind j d hd)
        refine hG9 ?_
        k_steps
        unfold Stop
        rename News _ _ _ _ => N5
        rename Fr _ _ _ _ => F5
        have N6 := news_tail (news_tail N5)
        clear N5
        refine wpAny_pos (by tb_rel) (LCg.ListComp_U F5 (by with_unfolding_all rfl) (by decide) (by rfl) (by decide) (by rfl) ?_)
        k_steps
        unfold CompAt
        rename Fr _ _ _ _ => F7
        rename News _ _ _ _ => N7
        refine LCg.CompSrc.ledger (its := vu.toArray) rfl F7 N7 (by k_mem) (by rw [List.size_toArray]; exact Nat.le_trans (Nat.le_trans (Nat.le_of_eq hvl) hul) (by decide)) fun g2 => ?_
        refine compI (fun k ys nw => nw = ((I, oI) :: (wi, LO vi ni1) :: (wa, LO vw nw1) :: (L₁ + 1, co) :: news) ∧ All2 IsStr ys ((d.under.take k).map (wholeT nds flag))) ?turn ?fin ⟨rfl, .nil⟩
        case turn =>
          rintro k v ys nw I2 oI2 C oC D m₂ h2 tk2 E' hik hv ⟨rfl, hys⟩ hC hx2 F7 N7 off2 ne
          refine viaF fun hG9 => ?_
          obtain ⟨c, hc, tc, rfl⟩ := hus.getL (i := k) (a := v) (by simpa using hv)
          have hcj := G.up _ _ hd1 c (List.mem_of_getElem? hc)
          have hcge : nds.length ≤ c + i := down4 hj hix hcj.1
          obtain ⟨v2, hv2, t2', rfl⟩ := hvw.get (toldL_get (f := wholeT nds flag) (i := i) hcj.2 hcge)
          have hitem3 : ItemAt ((wa, LO vw nw1) :: (L₁ + 1, co) :: news) wa (c : Int) (.str (wholeT nds flag c) t2') := .of (List.mem_cons_self ..) hv2 (lt62 hcj.2 hroom)
          refine hG9 ?_
          k_steps
          refine LCg.CompEnd.intro F7 N7 _ (fun p hp => hp) off2 (.inr ⟨_, by k_mem, rfl, _, rfl⟩) ⟨rfl, ?_⟩
          rw [List.take_add_one, hc, List.map_append]
          exact hys.snoc ⟨t2', rfl⟩
        case fin =>
          rintro ys nw ⟨rfl, hys⟩ D h5 tk5 F8 N8 off5
          rw [show vu.toArray.size = d.under.length by rw [List.size_toArray, hvl], List.take_length] at hys
          have hyl := hys.length
          rw [List.length_map] at hyl
          simp only [LCg.Off1, and_true] at off5
          try dsimp only
          intro hp5
          k_steps
          rename News _ _ _ _ => N9
          rename Fr _ _ _ _ => F9
          refine viaF fun hG9 => ?_
          obtain ⟨t8, t9, N10⟩ : ∃ t8 t9, News g L₁ _ ((I, oI) :: (wi, LO (vi.set j (.str (glue (d.under.map (wholeT nds flag))) t8)) ni1) :: (wa, LO (vw.set j (.str (lawText nds flag d (glue (d.under.map (wholeT nds flag)))) t9)) nw1) :: (L₁ + 1, co) :: news) := ⟨_, _, news_tail N9⟩
          refine hG9 ?_
          refine turnS_next F9 N10 (fun p hp => ?_) ⟨_, nw1, _, ni1, rfl, ?_, ?_, fun y hy => ?_⟩
          · simp only [List.mem_cons] at hp
            rcases hp with rfl | rfl | rfl | hp
            · exact hIwi.symm
            · exact hIwa.symm
            · exact hIc.symm
            · exact hIn p hp
          · rw [toldL_step hj]
            refine All2.set hvw ?_ j
            rw [hWT]; exact ⟨_, rfl⟩
          · rw [toldL_step hj]; refine All2.set hvi ?_ j; rw [hT]; exact ⟨_, rfl⟩
          · obtain ⟨y1, y2⟩ := off_two hy
            simp +zetaDelta only [if_neg y1, if_neg y2, hy, Bool.false_eq_true, if_false]
  case done =>
    rintro m' nw h tk ⟨vw, nw1, vi, ni1, rfl, hvw, hvi, hm'⟩ hpk F4 N4
    rw [fr_many hm'] at F4
    intro hpk2
    try dsimp only
    k_steps
    rename News _ _ _ _ => N9
    refine hret _ wa wi vw vi nw1 ni1 _ _ (by assumption) hvw hvi (by k_asm) (news_sub N9 fun p hp => ?_)
    simp only [List.mem_cons] at hp ⊢
    rcases hp with h | h | h | h <;> simp [h]
end

local macro_rules (kind := PyProof.Rows.tacticWalk_at_) | x => setItem9 "( Nat.cast _ )" "setItemL" le9 x

section
variable {prog : Program} {w : World} {loose : List Str} {mean : ExcName → Option Value} {mg mb : Str → Option Value} {dp un : Nat} {gd : Option (List Code)} {cn : Str} {cs : Scope} {a : Addr} {ccd : Value} {cl : List (Str × Addr)} {outer : List Env} {A₀ : Around} {base h₀ : Heap} {L : Addr} {m : Str → Option Value} {gh : Heap} {gn : Array GenState} {dr : Drawn} {tk0 : Nat} {os : OsState} {Q E : Value → Shared → Prop} {news : Led} {K : Frag} {p : Program}
theorem under_tc {C : Addr} {pos : List Value} {kw : List (Str × Value)} : (ktrTop dp un gd cn cs L a ccd cl outer).under (.builtin "type.__call__" ⟨.ref C :: pos, kw⟩) = ktrTop (dp + 1) (un + 1) gd cn cs L a ccd cl outer := by
  unfold Around.under
  have h1 : (Code.builtin "type.__call__" ⟨.ref C :: pos, kw⟩).weight = 1 := by kernel_rfl
  have h2 : (Code.builtin "type.__call__" ⟨.ref C :: pos, kw⟩).envs = [] := by kernel_rfl
  have h3 : (Code.builtin "type.__call__" ⟨.ref C :: pos, kw⟩).guards = [] := by kernel_rfl
  have h4 : (Code.builtin "type.__call__" ⟨.ref C :: pos, kw⟩).cUnits = 1 := by kernel_rfl
  rw [h1, h2, h3, h4]
  rfl
/-- a class is called: its __init__ is entered -/
theorem enterCls {C : Addr} {name qual : Str} {params : Arguments} {body : List Stmt} {scope : Scope} {dV kV doc pm cdv ct oc : Value} {an od : Option Addr} {osl : Array (Option Value)} {f : Addr} {args : List Value} {kws : List (Str × Value)} {binds : Addr → List (Str × Value)}
    (B : Below A₀ base outer h₀) (F : Fr h₀ L gh m) (X₀ : K.In h₀) (N : News h₀ L gh news) (T : Top p loose mean mg mb h₀) (hke : cs.kind = .function) (hpos : 0 < tk0) (hroom : dp + 1 < recursionLimit)
    (hm : makesIn K C = true) (hi : findIn K (.ref C) "__init__" = some (some (.ref f))) (hf : isFn K (.ref f) = true)
    (ho : K.lookup f = some ⟨oc, od, .func (fnOf name qual params body scope dV kV doc pm an cdv ct), osl⟩) (hcd : codeIn K cdv qual = true)
    (hbind : ∀ x h, BindsTo ⟨h, gn, dr, tk0, os⟩ (fnOf name qual params body scope dV kV doc pm an cdv ct) ⟨.ref x :: args, kws⟩ (binds x)) (hloc : ∀ x, ∀ y ∈ binds x, scope.names.lookup y.1 = some .local)
    (h : ∀ (x dx : Addr) (g : Heap) (L' : Addr) (h₁ : Heap) (tk : Nat), 0 < tk → (∀ p ∈ news, @LT.lt Nat _ p.1 dx) → (@LT.lt Nat _ dx x) → Fr h₀ L g m → Fr g L' h₁ (fun y => (binds x).reverse.lookup y) → News g L' h₁ ((x, instObj C dx) :: (dx, dictOf [] 0) :: news) → Below (ktrTop (dp + 1) (un + 1) gd cn cs L a ccd cl outer) base (envX cn cs L a ccd cl :: outer) g → K.In g → Top p loose mean mg mb g →
      let A₁ : Around := ktrTop (dp + 2) (un + 4) gd qual scope L' f cdv [] (envX cn cs L a ccd cl :: outer);
      wpAny (model prog w) A₁ (execs body (envOf qual scope L' f cdv))
        (fun fl s' => LeaveK h₀ L m g (InitBack x fun r s'' => match r with | .ok (.ret v) => Q v s'' | .ok _ => False | .error e => E e s'') (match fl with | .ret v => v | _ => .none) s') (fun _ _ => False)
        ⟨h₁, gn, dr, tk, os⟩)
    (hco : scope.isCoroutine = false) (hgen : scope.isGenerator = false) (hk : scope.kind = .function) (hcell : ∀ x ∈ scope.names, x.2 ≠ .cell) :
    wpAny (model prog w) (ktrTop dp un gd cn cs L a ccd cl outer) (call (.ref C) args kws) Q E ⟨gh, gn, dr, tk0, os⟩ := by
  refine call_cls F X₀ N hm hi hf fun x dx h' F' N' l1 l2 => ?_
  rw [under_tc]
  refine code_def B F' X₀ N' T rfl rfl hke ho hcd hroom (hbind x h') (hloc x) (fun g L' h₁ FG F'' N'' B' X' T' => ?_) hco hgen hk hcell
  exact wpAny_mono (h x dx g L' h₁ _ (Nat.lt_of_lt_of_le hpos (Nat.le_add_right _ _)) l1 l2 FG F'' N'' B' X' T') (fun _ _ y => y) (fun _ _ y => y.elim)
end
section
variable {w : World} {news NL : Led} {T : TA} {as qs : List Addr} {nds : List Nd} {d : Nd} {a q : Addr}
theorem lo_cls {vs : List Value} {n : Nat} : (LO vs n).cls ≠ .type "tuple" := by
  show Value.type "list" ≠ Value.type "tuple"
  simp
theorem get_snoc {α : Type} {l : List α} {x y : α} {i : Nat} (h : (l ++ [x])[i]? = some y) : l[i]? = some y ∨ (i = l.length ∧ y = x) := by
  by_cases hi : i < l.length
  · rw [List.getElem?_append_left hi] at h; exact .inl h
  · rw [List.getElem?_append_right (Nat.le_of_not_lt hi)] at h
    cases e : i - l.length with
    | zero => rw [e] at h; exact .inr ⟨by omega, by simpa using h.symm⟩
    | succ k => rw [e] at h; simp at h
theorem TreeC.added (R : TreeC w news T as qs nds) (K : Keep T.lists news NL) (hroom : nds.length + 1 ≤ 1000)
    (hk : ∃ vs n, (T.k, LO vs n) ∈ NL ∧ All2 IsStr vs (nds.map Nd.kind ++ [d.kind])) (hs : ∃ vs n, (T.s, LO vs n) ∈ NL ∧ All2 IsStr vs (nds.map Nd.space ++ [d.space]))
    (hn : ∃ vs n, (T.n, LO vs n) ∈ NL ∧ All2 IsStr vs (nds.map Nd.name ++ [d.name])) (hxt : ∃ vs n, (T.x, LO vs n) ∈ NL ∧ All2 IsStr vs (nds.map Nd.text ++ [d.text]))
    (hp : ∃ vs n, (T.p, LO vs n) ∈ NL ∧ All2 IsInt vs (nds.map Nd.parent ++ [d.parent])) (ha : ∃ n, (T.a, LO (as.map .ref ++ [.ref a]) n) ∈ NL) (hc : ∃ n, (T.c, LO (qs.map .ref ++ [.ref q]) n) ∈ NL)
    (hat : ∃ vs n, (a, LO vs n) ∈ NL ∧ (d.kind = "element" → All2 (PairAt NL) vs d.attrs)) (hqu : ∃ vs n, (q, LO vs n) ∈ NL ∧ All2 IsNat vs d.under) (fa : ∀ p ∈ news, @LT.lt Nat _ p.1 a) (fq : ∀ p ∈ news, @LT.lt Nat _ p.1 q) (haq : @LT.lt Nat _ a q) :
    TreeC w NL T (as ++ [a]) (qs ++ [q]) (nds ++ [d]) := by
  have old : ∀ x ∈ treeAddrs T as qs, @LT.lt Nat _ x a ∧ @LT.lt Nat _ x q := fun x hx => let ⟨o, h, _⟩ := R.has x hx; ⟨fa _ h, fq _ h⟩
  have tl : ∀ x ∈ treeAddrs T as qs, x ∈ T.lists ∨ (x ∉ T.lists ∧ x ∈ T.t :: T.d :: T.ct :: (as ++ qs)) := fun x hx => by
    by_cases h : x ∈ T.lists
    · exact .inl h
    · refine .inr ⟨h, ?_⟩
      unfold treeAddrs at hx
      simp only [List.mem_cons, List.mem_append] at hx ⊢
      rcases hx with h1 | h1 | h1 | h1 | h1
      · exact .inl h1
      · exact .inr (.inl h1)
      · exact .inr (.inr (.inl h1))
      · exact absurd h1 h
      · exact .inr (.inr (.inr h1))
  have nd := R.nd
  have no : ∀ x ∈ as ++ qs, x ∉ T.lists := by
    unfold treeAddrs at nd
    have h1 := (List.nodup_cons.mp (List.nodup_cons.mp (List.nodup_cons.mp nd).2).2).2
    intro x hx hl
    exact (List.nodup_append.mp h1).2.2 _ hl _ hx rfl
  have nt : T.t ∉ T.lists ∧ T.d ∉ T.lists := by
    unfold treeAddrs at nd
    have h1 := List.nodup_cons.mp nd
    have h2 := List.nodup_cons.mp h1.2
    exact ⟨fun h => h1.1 (List.mem_cons_of_mem _ (List.mem_cons_of_mem _ (List.mem_append_left _ h))), fun h => h2.1 (List.mem_cons_of_mem _ (List.mem_append_left _ h))⟩
  have hl : ∀ x ∈ T.lists, ∃ o, (x, o) ∈ NL ∧ o.cls ≠ .type "tuple" := by
    intro x hx
    unfold TA.lists at hx
    simp only [List.mem_cons, List.not_mem_nil, or_false] at hx
    rcases hx with rfl | rfl | rfl | rfl | rfl | rfl | rfl
    · obtain ⟨_, _, h, _⟩ := hk; exact ⟨_, h, lo_cls⟩
    · obtain ⟨_, _, h, _⟩ := hs; exact ⟨_, h, lo_cls⟩
    · obtain ⟨_, _, h, _⟩ := hn; exact ⟨_, h, lo_cls⟩
    · obtain ⟨_, h⟩ := ha; exact ⟨_, h, lo_cls⟩
    · obtain ⟨_, _, h, _⟩ := hxt; exact ⟨_, h, lo_cls⟩
    · obtain ⟨_, _, h, _⟩ := hp; exact ⟨_, h, lo_cls⟩
    · obtain ⟨_, h⟩ := hc; exact ⟨_, h, lo_cls⟩
  exact {
    inst := K _ R.inst (.inl nt.1)
    dict := K _ R.dict (.inl nt.2)
    kinds := by simpa using hk
    spaces := by simpa using hs
    names := by simpa using hn
    texts := by simpa using hxt
    parents := by simpa using hp
    attrs := by simpa using ha
    alen := by rw [List.length_append, List.length_append, R.alen]; rfl
    attr := fun i e b h1 h2 h3 => by
      have hal := R.alen
      rcases get_snoc h1 with h1 | ⟨i1, rfl⟩
      · have := lt_of_get h1
        rcases get_snoc h2 with h2 | ⟨i2, rfl⟩
        · exact (R.attr i e b h1 h2 h3).keep K (no b (List.mem_append_left _ (List.mem_of_getElem? h2)))
        · omega
      · rcases get_snoc h2 with h2 | ⟨i2, rfl⟩
        · have := lt_of_get h2; omega
        · obtain ⟨vs, n, m1, m2⟩ := hat
          exact ⟨vs, n, m1, m2 h3⟩
    kids := by simpa using hc
    klen := by rw [List.length_append, List.length_append, R.klen]; rfl
    kid := fun i e b h1 h2 => by
      have hal := R.klen
      rcases get_snoc h1 with h1 | ⟨i1, rfl⟩
      · have := lt_of_get h1
        rcases get_snoc h2 with h2 | ⟨i2, rfl⟩
        · obtain ⟨vs, n, m1, m2⟩ := R.kid i e b h1 h2
          exact ⟨vs, n, K _ m1 (.inl (no b (List.mem_append_right _ (List.mem_of_getElem? h2)))), m2⟩
        · omega
      · rcases get_snoc h2 with h2 | ⟨i2, rfl⟩
        · have := lt_of_get h2; omega
        · exact hqu
    lo := R.lo
    room := by rw [List.length_append]; exact hroom
    has := fun x hx' => by
      unfold treeAddrs at hx'
      simp only [List.mem_cons, List.mem_append, List.not_mem_nil, or_false] at hx'
      have go : x ∈ treeAddrs T as qs → ∃ o, (x, o) ∈ NL ∧ o.cls ≠ .type "tuple" := fun h => by
        rcases tl x h with h1 | ⟨h1, _⟩
        · exact hl x h1
        · obtain ⟨o, h2, h3⟩ := R.has x h
          exact ⟨o, K _ h2 (.inl h1), h3⟩
      rcases hx' with h | h | h | h | (h | h) | h | h
      · exact go (by unfold treeAddrs; simp [h])
      · exact go (by unfold treeAddrs; simp [h])
      · exact go (by unfold treeAddrs; simp [h])
      · exact hl x h
      · exact go (by unfold treeAddrs; simp [h])
      · subst h; obtain ⟨_, _, h, _⟩ := hat; exact ⟨_, h, lo_cls⟩
      · exact go (by unfold treeAddrs; simp [h])
      · subst h; obtain ⟨_, _, h, _⟩ := hqu; exact ⟨_, h, lo_cls⟩
    nd := by
      have e : (treeAddrs T (as ++ [a]) (qs ++ [q])).Perm (a :: q :: treeAddrs T as qs) := by
        unfold treeAddrs
        rw [← List.cons_append, ← List.cons_append, ← List.cons_append, ← List.cons_append, ← List.cons_append, ← List.cons_append]
        rw [← List.append_assoc, ← List.append_assoc, ← List.append_assoc]
        have e1 : (T.t :: T.d :: T.ct :: T.lists ++ as ++ [a] ++ qs ++ [q]).Perm (q :: (T.t :: T.d :: T.ct :: T.lists ++ as ++ [a] ++ qs)) := List.perm_append_comm
        refine e1.trans ?_
        have e2 : (T.t :: T.d :: T.ct :: T.lists ++ as ++ [a] ++ qs).Perm (a :: (T.t :: T.d :: T.ct :: T.lists ++ as ++ qs)) := by
          rw [List.append_assoc (T.t :: T.d :: T.ct :: T.lists ++ as)]
          exact List.perm_middle
        refine (e2.cons q).trans ((List.Perm.swap ..).trans ?_)
        rw [List.append_assoc (T.t :: T.d :: T.ct :: T.lists)]
      refine e.symm.nodup ?_
      refine List.nodup_cons.mpr ⟨?_, List.nodup_cons.mpr ⟨fun h => absurd (old _ h).2 (Nat.lt_irrefl _), nd⟩⟩
      intro h
      rcases List.mem_cons.mp h with h | h
      · rw [h] at haq; exact absurd haq (Nat.lt_irrefl _)
      · exact absurd (old _ h).1 (Nat.lt_irrefl _) }
end
inductive Nes2 (T : TA) : Prop
  | mk (t11 : @Ne Nat T.t T.k) (t12 : @Ne Nat T.t T.s) (t13 : @Ne Nat T.t T.n) (t14 : @Ne Nat T.t T.a) (t15 : @Ne Nat T.t T.x) (t16 : @Ne Nat T.t T.p) (t17 : @Ne Nat T.t T.c) (d11 : @Ne Nat T.d T.k) (d12 : @Ne Nat T.d T.s) (d13 : @Ne Nat T.d T.n) (d14 : @Ne Nat T.d T.a) (d15 : @Ne Nat T.d T.x) (d16 : @Ne Nat T.d T.p) (d17 : @Ne Nat T.d T.c) : Nes2 T
section
variable {w : World} {news : Led} {T : TA} {as qs : List Addr} {nds : List Nd}
theorem TreeC.nes2 (R : TreeC w news T as qs nds) : Nes2 T := by
  have h := R.nd
  unfold treeAddrs TA.lists at h
  simp only [List.cons_append, List.nil_append, List.nodup_cons, List.mem_cons, not_or] at h
  obtain ⟨⟨_, _, a1, a2, a3, a4, a5, a6, a7, _⟩, ⟨_, b1, b2, b3, b4, b5, b6, b7, _⟩, _⟩ := h
  exact ⟨a1, a2, a3, a4, a5, a6, a7, b1, b2, b3, b4, b5, b6, b7⟩
end
theorem lt_setL {D a : Addr} {o : Obj} {news : Led} (h : ∀ p ∈ setL D o news, @LT.lt Nat _ p.1 a) : ∀ p ∈ news, @LT.lt Nat _ p.1 a := fun p hp => by
  by_cases e : p.1 = D
  · exact e ▸ h (D, o) (setL_self (o := p.2) (by rw [← e]; exact hp))
  · exact h (p.1, p.2) (setL_ne e hp)
theorem lt_tail {p : Addr × Obj} {a : Addr} {news : Led} (h : ∀ q ∈ p :: news, @LT.lt Nat _ q.1 a) : ∀ q ∈ news, @LT.lt Nat _ q.1 a := fun q hq => h q (List.mem_cons_of_mem _ hq)
section
variable {prog : Program} {w : World} {A : Around} {E : Value → Shared → Prop} {gh : Heap} {gn : Array GenState} {dr : Drawn} {tk0 : Nat} {os : OsState} {h₀ : Heap} {L b : Addr} {m : Str → Option Value} {news : Led} {va : List Value} {nx : Nat}
theorem listT {Q : Value → Shared → Prop} (F : Fr h₀ L gh m) (N : News h₀ L gh news) (hb : (b, TO va nx) ∈ news) (hz : va.length ≤ 1000000)
    (h : ∀ D c h', Fr h₀ L h' m → News h₀ L h' ((D, LO va c) :: news) → (∀ q ∈ news, @LT.lt Nat _ q.1 D) → Q (.ref D) ⟨h', gn, dr, tk0, os⟩) : wpAny (model prog w) A (call (.type "list") [.ref b]) Q E ⟨gh, gn, dr, tk0, os⟩ :=
  kup_listOfT F N hb (List.toList_toArray) h (by rw [List.toList_toArray]; exact Nat.le_trans hz (by decide))
theorem listB {Q : Value → Shared → Prop} (F : Fr h₀ L gh m) (N : News h₀ L gh news) (hb : IsTup gh b va.toArray) (hz : va.length ≤ 1000000)
    (h : ∀ D c h', Fr h₀ L h' m → News h₀ L h' ((D, LO va c) :: news) → (∀ q ∈ news, @LT.lt Nat _ q.1 D) → Q (.ref D) ⟨h', gn, dr, tk0, os⟩) : wpAny (model prog w) A (call (.type "list") [.ref b]) Q E ⟨gh, gn, dr, tk0, os⟩ :=
  list_copyKT F N hb (fun D c h' F' N' l1 => h D c h' F' N' l1) (by rw [List.size_toArray]; exact Nat.le_trans hz (by decide))
end

local macro_rules (kind := PyProof.Rows.tacticWalk_at_) | x => call9 "call type:list" "listT" 4 x

local macro_rules (kind := PyProof.Rows.tacticWalk_at_) | x => side9 "call builtin:len" "lenS" 3 x

theorem TreeC.tup_ne {w : World} {h₀ h : Heap} {L : Addr} {news : Led} {T : TA} {as qs : List Addr} {nds : List Nd} {ax : Addr} {o : Obj} (R : TreeC w news T as qs nds) (N : News h₀ L h news) (hax : (ax, o) ∈ news) (ho : o.cls = .type "tuple") : ∀ x ∈ treeAddrs T as qs, ax ≠ x := fun x hx e => by
  obtain ⟨o', h', hc⟩ := R.has x hx
  exact hc (news_fun N hax (e ▸ h') ▸ ho)
inductive Nes3 (ax : Addr) (T : TA) : Prop
  | mk (x1 : @Ne Nat ax T.k) (x2 : @Ne Nat ax T.s) (x3 : @Ne Nat ax T.n) (x4 : @Ne Nat ax T.a) (x5 : @Ne Nat ax T.x) (x6 : @Ne Nat ax T.p) (x7 : @Ne Nat ax T.c) : Nes3 ax T
theorem TreeC.tup_nes {w : World} {h₀ h : Heap} {L : Addr} {news : Led} {T : TA} {as qs : List Addr} {nds : List Nd} {ax : Addr} {o : Obj} (R : TreeC w news T as qs nds) (N : News h₀ L h news) (hax : (ax, o) ∈ news) (ho : o.cls = .type "tuple") :
    Nes3 ax T := by
  have h := R.tup_ne N hax ho
  unfold treeAddrs TA.lists at h
  simp only [List.cons_append, List.nil_append, List.mem_cons, forall_eq_or_imp] at h
  exact ⟨h.2.2.2.1, h.2.2.2.2.1, h.2.2.2.2.2.1, h.2.2.2.2.2.2.1, h.2.2.2.2.2.2.2.1, h.2.2.2.2.2.2.2.2.1, h.2.2.2.2.2.2.2.2.2.1⟩
section
variable {w : World} {h₀ h : Heap} {L : Addr} {news : Led} {T : TA} {as qs : List Addr} {nds : List Nd} {d : Nd} {a q : Addr}
theorem not_lists {x : Addr} {T : TA} (h1 : x ≠ T.k) (h2 : x ≠ T.s) (h3 : x ≠ T.n) (h4 : x ≠ T.a) (h5 : x ≠ T.x) (h6 : x ≠ T.p) (h7 : x ≠ T.c) : x ∉ T.lists := by
  unfold TA.lists; simp only [List.mem_cons, List.not_mem_nil, or_false, not_or]; exact ⟨h1, h2, h3, h4, h5, h6, h7⟩
theorem of_not_lists {x : Addr} {T : TA} (h : x ∉ T.lists) : x ≠ T.k ∧ x ≠ T.s ∧ x ≠ T.n ∧ x ≠ T.a ∧ x ≠ T.x ∧ x ≠ T.p ∧ x ≠ T.c := by
  unfold TA.lists at h; simp only [List.mem_cons, List.not_mem_nil, or_false, not_or] at h; exact h
theorem lists_sub {x : Addr} {T : TA} {as qs : List Addr} (h : x ∈ T.lists) : x ∈ treeAddrs T as qs := List.mem_cons_of_mem _ (List.mem_cons_of_mem _ (List.mem_cons_of_mem _ (List.mem_append_left _ h)))
theorem TreeC.addLed (N : News h₀ L h news) (R : TreeC w news T as qs nds) (hroom : nds.length + 1 ≤ 1000) {vk vs vn vx vp va : List Value} {nk ns nn nx np na nc n0 n1 : Nat} {o1 o2 o3 o4 o5 : Value}
    (hk1 : (T.k, LO vk nk) ∈ news) (hk2 : All2 IsStr vk (nds.map Nd.kind)) (hs1 : (T.s, LO vs ns) ∈ news) (hs2 : All2 IsStr vs (nds.map Nd.space)) (hn1 : (T.n, LO vn nn) ∈ news) (hn2 : All2 IsStr vn (nds.map Nd.name))
    (hx1 : (T.x, LO vx nx) ∈ news) (hx2 : All2 IsStr vx (nds.map Nd.text)) (hp1 : (T.p, LO vp np) ∈ news) (hp2 : All2 IsInt vp (nds.map Nd.parent)) (ha1 : (T.a, LO (as.map .ref) na) ∈ news) (hc1 : (T.c, LO (qs.map .ref) nc) ∈ news)
    (h1 : IsStr o1 d.kind) (h2 : IsStr o2 d.space) (h3 : IsStr o3 d.name) (h4 : IsStr o4 d.text) (h5 : IsInt o5 d.parent) (hu : d.under = []) (hat : d.kind = "element" → All2 (PairAt news) va d.attrs)
    (la : ∀ p ∈ setL T.n (LO (vn ++ [o3]) (nn + 1)) (setL T.s (LO (vs ++ [o2]) (ns + 1)) (setL T.k (LO (vk ++ [o1]) (nk + 1)) news)), @LT.lt Nat _ p.1 a)
    (lq : ∀ p ∈ setL T.p (LO (vp ++ [o5]) (np + 1)) (setL T.x (LO (vx ++ [o4]) (nx + 1)) (setL T.a (LO (as.map .ref ++ [.ref a]) (na + 1)) ((a, LO va n0) :: setL T.n (LO (vn ++ [o3]) (nn + 1)) (setL T.s (LO (vs ++ [o2]) (ns + 1)) (setL T.k (LO (vk ++ [o1]) (nk + 1)) news))))), @LT.lt Nat _ p.1 q) :
    ∃ news', news' = (setL T.c (LO (qs.map .ref ++ [.ref q]) (nc + 1)) ((q, LO [] n1) :: setL T.p (LO (vp ++ [o5]) (np + 1)) (setL T.x (LO (vx ++ [o4]) (nx + 1)) (setL T.a (LO (as.map .ref ++ [.ref a]) (na + 1)) ((a, LO va n0) :: setL T.n (LO (vn ++ [o3]) (nn + 1)) (setL T.s (LO (vs ++ [o2]) (ns + 1)) (setL T.k (LO (vk ++ [o1]) (nk + 1)) news))))))) ∧
      TreeC w news' T (as ++ [a]) (qs ++ [q]) (nds ++ [d]) ∧ Keep T.lists news news' ∧ (∀ p ∈ news, @LT.lt Nat _ p.1 a) ∧ (∀ p ∈ news, @LT.lt Nat _ p.1 q) := by
  have fa : ∀ p ∈ news, @LT.lt Nat _ p.1 a := lt_setL (lt_setL (lt_setL la))
  have lq2 := lt_setL (lt_setL (lt_setL lq))
  have fq : ∀ p ∈ news, @LT.lt Nat _ p.1 q := lt_setL (lt_setL (lt_setL (lt_tail lq2)))
  have faq : @LT.lt Nat _ a q := lq2 (a, LO va n0) (List.mem_cons_self ..)
  obtain ⟨n11, n12, n13, n14, n15, n16, n21, n22, n23, n24, n25, n31, n32, n33, n34, n41, n42, n43, n51, n52, n61⟩ := R.nes
  have a4 : @Ne Nat a T.a := Nat.ne_of_gt (fa _ ha1)
  have a5 : @Ne Nat a T.x := Nat.ne_of_gt (fa _ hx1)
  have a6 : @Ne Nat a T.p := Nat.ne_of_gt (fa _ hp1)
  have a7 : @Ne Nat a T.c := Nat.ne_of_gt (fa _ hc1)
  have q7 : @Ne Nat q T.c := Nat.ne_of_gt (fq _ hc1)
  have K : Keep T.lists news (setL T.c (LO (qs.map .ref ++ [.ref q]) (nc + 1)) ((q, LO [] n1) :: setL T.p (LO (vp ++ [o5]) (np + 1)) (setL T.x (LO (vx ++ [o4]) (nx + 1)) (setL T.a (LO (as.map .ref ++ [.ref a]) (na + 1)) ((a, LO va n0) :: setL T.n (LO (vn ++ [o3]) (nn + 1)) (setL T.s (LO (vs ++ [o2]) (ns + 1)) (setL T.k (LO (vk ++ [o1]) (nk + 1)) news))))))) := by
    rintro ⟨x, o⟩ hp hc
    have hx : x ∉ T.lists := by
      rcases hc with hc | hc
      · exact hc
      · intro hx
        exact R.tup_ne N hp hc x (lists_sub hx) rfl
    obtain ⟨y1, y2, y3, y4, y5, y6, y7⟩ := of_not_lists hx
    exact setL_ne y7 (List.mem_cons_of_mem _ (setL_ne y6 (setL_ne y5 (setL_ne y4 (List.mem_cons_of_mem _ (setL_ne y3 (setL_ne y2 (setL_ne y1 hp))))))))
  refine ⟨_, rfl, TreeC.added R K hroom ⟨vk ++ [o1], nk + 1, ?_, hk2.snoc h1⟩ ⟨vs ++ [o2], ns + 1, ?_, hs2.snoc h2⟩ ⟨vn ++ [o3], nn + 1, ?_, hn2.snoc h3⟩ ⟨vx ++ [o4], nx + 1, ?_, hx2.snoc h4⟩ ⟨vp ++ [o5], np + 1, ?_, hp2.snoc h5⟩ ⟨na + 1, ?_⟩ ⟨nc + 1, ?_⟩ ⟨va, n0, ?_, fun he => (hat he).imp fun _ _ ⟨q', t₁, t₂, c, e, hm⟩ => ⟨q', t₁, t₂, c, e, K _ hm (.inr rfl)⟩⟩ ⟨[], n1, ?_, hu ▸ .nil⟩ fa fq faq, K, fa, fq⟩
  · exact setL_ne n16 (List.mem_cons_of_mem _ (setL_ne n15 (setL_ne n14 (setL_ne n13 (List.mem_cons_of_mem _ (setL_ne n12 (setL_ne n11 (setL_self hk1))))))))
  · exact setL_ne n25 (List.mem_cons_of_mem _ (setL_ne n24 (setL_ne n23 (setL_ne n22 (List.mem_cons_of_mem _ (setL_ne n21 (setL_self (setL_ne n11.symm hs1))))))))
  · exact setL_ne n34 (List.mem_cons_of_mem _ (setL_ne n33 (setL_ne n32 (setL_ne n31 (List.mem_cons_of_mem _ (setL_self (setL_ne n21.symm (setL_ne n12.symm hn1))))))))
  · exact setL_ne n52 (List.mem_cons_of_mem _ (setL_ne n51 (setL_self (setL_ne n41.symm (List.mem_cons_of_mem _ (setL_ne n32.symm (setL_ne n23.symm (setL_ne n14.symm hx1))))))))
  · exact setL_ne n61 (List.mem_cons_of_mem _ (setL_self (setL_ne n51.symm (setL_ne n42.symm (List.mem_cons_of_mem _ (setL_ne n33.symm (setL_ne n24.symm (setL_ne n15.symm hp1))))))))
  · exact setL_ne n43 (List.mem_cons_of_mem _ (setL_ne n42 (setL_ne n41 (setL_self (List.mem_cons_of_mem _ (setL_ne n31.symm (setL_ne n22.symm (setL_ne n13.symm ha1))))))))
  · exact setL_self (List.mem_cons_of_mem _ (setL_ne n61.symm (setL_ne n52.symm (setL_ne n43.symm (List.mem_cons_of_mem _ (setL_ne n34.symm (setL_ne n25.symm (setL_ne n16.symm hc1))))))))
  · exact setL_ne a7 (List.mem_cons_of_mem _ (setL_ne a6 (setL_ne a5 (setL_ne a4 (List.mem_cons_self ..)))))
  · exact setL_ne q7 (List.mem_cons_self ..)
end
theorem listK {prog : Program} {w : World} {A : Around} {E : Value → Shared → Prop} {gh : Heap} {gn : Array GenState} {dr : Drawn} {tk0 : Nat} {os : OsState} {h₀ : Heap} {L b : Addr} {m : Str → Option Value} {news : Led} {va : List Value} {Q : Value → Shared → Prop} (F : Fr h₀ L gh m) (N : News h₀ L gh news) (hb : IsTup h₀ b va.toArray) (hz : va.length ≤ 1000000)
    (h : ∀ D c h', Fr h₀ L h' m → News h₀ L h' ((D, LO va c) :: news) → (∀ q ∈ news, @LT.lt Nat _ q.1 D) → Q (.ref D) ⟨h', gn, dr, tk0, os⟩) : wpAny (model prog w) A (call (.type "list") [.ref b]) Q E ⟨gh, gn, dr, tk0, os⟩ :=
  listB F N (let ⟨o, e, r⟩ := hb; ⟨o, F.keep _ _ e, r⟩) hz h
/-- a tuple of the ledger, or one that lay there before -/
noncomputable def TupX (g : Heap) (led : Led) (b : Addr) (va : List Value) : Prop := (∃ n, (b, TO va n) ∈ led) ∨ IsTup g b va.toArray
theorem TupX.setL {g : Heap} {led : Led} {b D : Addr} {o : Obj} {va : List Value} (h : TupX g led b va) (hne : @Ne Nat b D) : TupX g (setL D o led) b va := h.imp (fun ⟨n, h⟩ => ⟨n, setL_ne hne h⟩) id
theorem TupX.up {g g' : Heap} {led : Led} {b : Addr} {va : List Value} (h : TupX g led b va) (k : ∀ a o, g.get? a = some o → g'.get? a = some o) : TupX g' led b va := h.imp id fun ⟨o, e, r⟩ => ⟨o, k _ _ e, r⟩
theorem listX {prog : Program} {w : World} {A : Around} {E : Value → Shared → Prop} {gh : Heap} {gn : Array GenState} {dr : Drawn} {tk0 : Nat} {os : OsState} {h₀ : Heap} {L b : Addr} {m : Str → Option Value} {news : Led} {va : List Value} {Q : Value → Shared → Prop} (F : Fr h₀ L gh m) (N : News h₀ L gh news) (hb : TupX h₀ news b va) (hz : va.length ≤ 1000000)
    (h : ∀ D c h', Fr h₀ L h' m → News h₀ L h' ((D, LO va c) :: news) → (∀ q ∈ news, @LT.lt Nat _ q.1 D) → Q (.ref D) ⟨h', gn, dr, tk0, os⟩) : wpAny (model prog w) A (call (.type "list") [.ref b]) Q E ⟨gh, gn, dr, tk0, os⟩ := by
  rcases hb with ⟨n, hb⟩ | hb
  · exact listT F N hb hz h
  · exact listK F N hb hz h
theorem TreeC.tup_nesX {w : World} {h₀ h : Heap} {L : Addr} {news : Led} {T : TA} {as qs : List Addr} {nds : List Nd} {ax : Addr} {va : List Value} (R : TreeC w news T as qs nds) (N : News h₀ L h news) (hax : TupX h₀ news ax va) : Nes3 ax T := by
  rcases hax with ⟨n, hx⟩ | ⟨o, ho, _⟩
  · exact R.tup_nes N hx rfl
  · have go : ∀ x ∈ treeAddrs T as qs, @Ne Nat ax x := fun x hx e => by
      obtain ⟨o', h', _⟩ := R.has x hx
      have e' : ax = x := e
      have := (N _ h').2.2
      rw [← e', ho] at this
      cases this
    refine ⟨go _ ?_, go _ ?_, go _ ?_, go _ ?_, go _ ?_, go _ ?_, go _ ?_⟩ <;> (unfold treeAddrs TA.lists; simp)
theorem fn_at {K : Frag} {f : Addr} {oc oc' : Value} {od od' : Option Addr} {fn fn' : FuncData} {osl osl' : Array (Option Value)} (e : K.lookup f = some ⟨oc, od, .func fn, osl⟩) (e' : K.lookup f = some ⟨oc', od', .func fn', osl'⟩) : fn' = fn := by
  rw [e] at e'
  injection e' with e'
  injection e' with _ _ h _
  injection h with h
  exact h.symm
theorem bindsAt {K : Frag} {f : Addr} {s : Shared} {a : Args} {binds : List (Str × Value)} {name qual : Str} {params : Arguments} {body : List Stmt} {scope : Scope} {dV kV doc pm cdv ct oc oc' : Value} {an od od' : Option Addr} {osl osl' : Array (Option Value)} {fn : FuncData}
    (e' : K.lookup f = some ⟨oc', od', .func (fnOf name qual params body scope dV kV doc pm an cdv ct), osl'⟩) (e : K.lookup f = some ⟨oc, od, .func fn, osl⟩) (h : BindsTo s (fnOf name qual params body scope dV kV doc pm an cdv ct) a binds) : BindsTo s fn a binds := fn_at e e' ▸ h
section
local macro_rules (kind := PyProof.Rows.tacticWalk_at_) | x => on9 "call type:list" x (seq9 [here9, dflt9 (seq9 [refine9 "listX ?F ?N ?m ?z ?", case9 "F" kasm9, case9 "N" kasm9, case9 "m" (exact9 "TupX.setL ( TupX.setL ( TupX.setL @@ @@ ) @@ ) @@"), case9 "z" (at9 "own le")]), intro9 "D' c' h' F' N' l1'", dsimp9])
variable {w : World} {loose : List Str} {mean : ExcName → Option Value} {mg mb : Str → Option Value} {dp un : Nat} {gd : Option (List Code)} {cn : Str} {cs : Scope} {a : Addr} {ccd : Value} {cl : List (Str × Addr)} {outer : List Env} {A₀ : Around} {base h₀ : Heap} {L : Addr} {m : Str → Option Value} {gh : Heap} {gn : Array GenState} {dr : Drawn} {tk0 : Nat} {os : OsState} {Q E : Value → Shared → Prop} {news : Led}
theorem addG_spec {T : TA} {as qs : List Addr} {nds : List Nd} {d : Nd} {ax : Addr} {va : List Value} {t1 t2 t3 t4 : Tok} {args : List Value} (C : Cx w loose mean mg mb outer A₀ base h₀ cs) (F : Fr h₀ L gh m) (N : News h₀ L gh news) (hp : 0 < tk0) (hdp : dp + 2 < recursionLimit) (hun : un + 16 < cLine)
  (R : TreeC w news T as qs nds) (hroom : nds.length + 1 ≤ 1000) (hax : TupX h₀ news ax va) (hvl : va.length ≤ 1000) (hat : d.kind = "element" → All2 (PairAt news) va d.attrs) (hu : d.under = []) (hpar : d.parent = -1)
  (hb : ∀ fn oc od osl, (K0 w.params).lookup 160 = some ⟨oc, od, .func fn, osl⟩ → BindsTo ⟨gh, gn, dr, tk0, os⟩ fn ⟨.ref T.t :: args, []⟩ [(PySem.Str.ofString "self", Value.ref T.t), (PySem.Str.ofString "kind", Value.str d.kind t1), (PySem.Str.ofString "space", Value.str d.space t2), (PySem.Str.ofString "name", Value.str d.name t3), (PySem.Str.ofString "attrs", Value.ref ax), (PySem.Str.ofString "text", Value.str d.text t4)])
  (hret : ∀ (a q : Addr) (news' : Led) (t : Tok) (h' : Heap) (tk' : Nat), 0 < tk' → Fr h₀ L h' m → News h₀ L h' news' → TreeC w news' T (as ++ [a]) (qs ++ [q]) (nds ++ [d]) → Keep T.lists news news' → (∀ p ∈ news, @LT.lt Nat _ p.1 a) → (∀ p ∈ news, @LT.lt Nat _ p.1 q) → Q (.int (nds.length : Int) t) ⟨h', gn, dr, tk', os⟩) :
  wpAny (model PySem.Challenge.rw_nz0091_01.row.prog w) (ktrTop dp un gd cn cs L a ccd cl outer) (call (.ref 160) (.ref T.t :: args)) Q E ⟨gh, gn, dr, tk0, os⟩ := by
  refine viaF fun hG9 => ?_
  have hinst := R.inst
  have hdict := R.dict
  obtain ⟨vk, nk, hk1, hk2⟩ := R.kinds
  obtain ⟨vs, ns, hs1, hs2⟩ := R.spaces
  obtain ⟨vn, nn, hn1, hn2⟩ := R.names
  obtain ⟨vx, nx2, hx1, hx2⟩ := R.texts
  obtain ⟨vp, np, hp1, hp2⟩ := R.parents
  obtain ⟨na, ha1⟩ := R.attrs
  obtain ⟨nc, hc1⟩ := R.kids
  have lk := hk2.length
  have ls := hs2.length
  have ln := hn2.length
  have lx := hx2.length
  have lp := hp2.length
  have la := R.alen
  have lc := R.klen
  refine hG9 ?_
  rw [List.length_map] at lk ls ln lx lp
  refine viaF fun hG9 => ?_
  have la' : (as.map Value.ref).length = nds.length := by rw [List.length_map, la]
  have lc' : (qs.map Value.ref).length = nds.length := by rw [List.length_map, lc]
  obtain ⟨n11, n12, n13, n14, n15, n16, n21, n22, n23, n24, n25, n31, n32, n33, n34, n41, n42, n43, n51, n52, n61⟩ := R.nes
  obtain ⟨t11, t12, t13, t14, t15, t16, t17, d11, d12, d13, d14, d15, d16, d17⟩ := R.nes2
  obtain ⟨x1, x2, x3, x4, x5, x6, x7⟩ := R.tup_nesX N hax
  obtain ⟨B, X, TT, hk⟩ := C
  refine hG9 ?_
  refine' enterP (binds := [(PySem.Str.ofString "self", Value.ref T.t), (PySem.Str.ofString "kind", Value.str d.kind t1), (PySem.Str.ofString "space", Value.str d.space t2), (PySem.Str.ofString "name", Value.str d.name t3), (PySem.Str.ofString "attrs", Value.ref ax), (PySem.Str.ofString "text", Value.str d.text t4)]) B F X N TT hk hp (by ktr_room) ?ho ?hcd ?hb ?hl rfl ?_ ?c1 ?c2 ?c3 ?c4
  case ho => k_is
  case hcd => k_is
  case hb => first | exact BindsTo.of_eq rfl | exact hb _ _ _ _ (by k_is) | exact binds_K (by k_in) rfl (by k_is) rfl rfl rfl
  case hl => exact locs rfl
  case c1 => rfl
  case c2 => rfl
  case c3 => rfl
  case c4 => decide
  intro g L₁ h₁ tk hp₁ FG mm F₁ N₁ B₁ X₁ T₁ A₁ qk ek
  replace hax := hax.up FG.keep
  k_steps
  rename News _ _ _ _ => N9
  rename Fr _ _ _ _ => F9
  rename (∀ p : Addr × Obj, p ∈ setL T.p _ _ → _) => lq9
  rename (∀ p : Addr × Obj, p ∈ setL T.n _ _ → _) => la9
  refine viaF fun hG9 => ?_
  obtain ⟨NL, e9, R9, K9, fa9, fq9⟩ := R.addLed (d := d) (n1 := 0) N hroom hk1 hk2 hs1 hs2 hn1 hn2 hx1 hx2 hp1 hp2 ha1 hc1 ⟨_, rfl⟩ ⟨_, rfl⟩ ⟨_, rfl⟩ ⟨_, rfl⟩ ⟨_, by rw [hpar]⟩ hu hat la9 lq9
  refine hG9 ?_
  refine retI (hret _ _ NL _ _ _ (Nat.succ_pos _) F9 (by rw [e9]; exact N9) R9 K9 fa9 fq9) ?_
  rw [List.length_append, lk]; simp
end
section
variable {w : World} {loose : List Str} {mean : ExcName → Option Value} {mg mb : Str → Option Value} {dp un : Nat} {gd : Option (List Code)} {cn : Str} {cs : Scope} {a : Addr} {ccd : Value} {cl : List (Str × Addr)} {outer : List Env} {A₀ : Around} {base h₀ : Heap} {L : Addr} {m : Str → Option Value} {gh : Heap} {gn : Array GenState} {dr : Drawn} {tk0 : Nat} {os : OsState} {Q E : Value → Shared → Prop} {news : Led}
theorem add4_spec {T : TA} {as qs : List Addr} {nds : List Nd} {d : Nd} {ax : Addr} {va : List Value} {nx : Nat} {t1 t2 t3 : Tok} (C : Cx w loose mean mg mb outer A₀ base h₀ cs) (F : Fr h₀ L gh m) (N : News h₀ L gh news) (hp : 0 < tk0) (hdp : dp + 2 < recursionLimit) (hun : un + 16 < cLine)
  (R : TreeC w news T as qs nds) (hroom : nds.length + 1 ≤ 1000) (hax : (ax, TO va nx) ∈ news) (hvl : va.length ≤ 1000) (hat : d.kind = "element" → All2 (PairAt news) va d.attrs) (htx : d.text = "") (hu : d.under = []) (hpar : d.parent = -1)
  (hret : ∀ (a q : Addr) (news' : Led) (t : Tok) (h' : Heap) (tk' : Nat), 0 < tk' → Fr h₀ L h' m → News h₀ L h' news' → TreeC w news' T (as ++ [a]) (qs ++ [q]) (nds ++ [d]) → Keep T.lists news news' → (∀ p ∈ news, @LT.lt Nat _ p.1 a) → (∀ p ∈ news, @LT.lt Nat _ p.1 q) → Q (.int (nds.length : Int) t) ⟨h', gn, dr, tk', os⟩) :
  wpAny (model PySem.Challenge.rw_nz0091_01.row.prog w) (ktrTop dp un gd cn cs L a ccd cl outer) (call (.ref 160) [.ref T.t, .str d.kind t1, .str d.space t2, .str d.name t3, .ref ax]) Q E ⟨gh, gn, dr, tk0, os⟩ := by
  obtain ⟨B, X, TT, hk⟩ := C
  have C : Cx w loose mean mg mb outer A₀ base h₀ cs := ⟨B, X, TT, hk⟩
  exact addG_spec (t1 := t1) (t2 := t2) (t3 := t3) (t4 := 366) C F N hp hdp hun R hroom (.inl ⟨_, hax⟩) hvl hat hu hpar (by
    intro fn oc od osl e
    refine' bindsAt ?e1 e ?e2
    case e1 => k_is
    case e2 => rw [htx]; first | exact BindsTo.of_eq rfl | exact binds_K (C.X.keeps F.keep) rfl (by k_is) rfl rfl rfl) hret
end

section
variable {w : World} {loose : List Str} {mean : ExcName → Option Value} {mg mb : Str → Option Value} {dp un : Nat} {gd : Option (List Code)} {cn : Str} {cs : Scope} {a : Addr} {ccd : Value} {cl : List (Str × Addr)} {outer : List Env} {A₀ : Around} {base h₀ : Heap} {L : Addr} {m : Str → Option Value} {gh : Heap} {gn : Array GenState} {dr : Drawn} {tk0 : Nat} {os : OsState} {Q E : Value → Shared → Prop} {news : Led}
theorem add5_spec {T : TA} {as qs : List Addr} {nds : List Nd} {d : Nd} {ax : Addr} {va : List Value} {nx : Nat} {t1 t2 t3 t4 : Tok} (C : Cx w loose mean mg mb outer A₀ base h₀ cs) (F : Fr h₀ L gh m) (N : News h₀ L gh news) (hp : 0 < tk0) (hdp : dp + 2 < recursionLimit) (hun : un + 16 < cLine)
  (R : TreeC w news T as qs nds) (hroom : nds.length + 1 ≤ 1000) (hax : (ax, TO va nx) ∈ news) (hvl : va.length ≤ 1000) (hne : d.kind ≠ "element") (hu : d.under = []) (hpar : d.parent = -1)
  (hret : ∀ (a q : Addr) (news' : Led) (t : Tok) (h' : Heap) (tk' : Nat), 0 < tk' → Fr h₀ L h' m → News h₀ L h' news' → TreeC w news' T (as ++ [a]) (qs ++ [q]) (nds ++ [d]) → Keep T.lists news news' → (∀ p ∈ news, @LT.lt Nat _ p.1 a) → (∀ p ∈ news, @LT.lt Nat _ p.1 q) → Q (.int (nds.length : Int) t) ⟨h', gn, dr, tk', os⟩) :
  wpAny (model PySem.Challenge.rw_nz0091_01.row.prog w) (ktrTop dp un gd cn cs L a ccd cl outer) (call (.ref 160) [.ref T.t, .str d.kind t1, .str d.space t2, .str d.name t3, .ref ax, .str d.text t4]) Q E ⟨gh, gn, dr, tk0, os⟩ := by
  exact addG_spec (t1 := t1) (t2 := t2) (t3 := t3) (t4 := t4) C F N hp hdp hun R hroom (.inl ⟨_, hax⟩) hvl (fun e => absurd e hne) hu hpar (by
    intro fn oc od osl e
    refine' bindsAt ?e1 e ?e2
    case e1 => k_is
    case e2 => first | exact BindsTo.of_eq rfl | exact binds_K (C.X.keeps F.keep) rfl (by k_is) rfl rfl rfl) hret
end

section
variable {w : World} {loose : List Str} {mean : ExcName → Option Value} {mg mb : Str → Option Value} {dp un : Nat} {gd : Option (List Code)} {cn : Str} {cs : Scope} {a : Addr} {ccd : Value} {cl : List (Str × Addr)} {outer : List Env} {A₀ : Around} {base h₀ : Heap} {L : Addr} {m : Str → Option Value} {gh : Heap} {gn : Array GenState} {dr : Drawn} {tk0 : Nat} {os : OsState} {Q E : Value → Shared → Prop} {news : Led}
theorem add1_spec {T : TA} {as qs : List Addr} {nds : List Nd} {d : Nd} {t1 : Tok} (C : Cx w loose mean mg mb outer A₀ base h₀ cs) (F : Fr h₀ L gh m) (N : News h₀ L gh news) (hp : 0 < tk0) (hdp : dp + 2 < recursionLimit) (hun : un + 16 < cLine)
  (R : TreeC w news T as qs nds) (hroom : nds.length + 1 ≤ 1000) (hne : d.kind ≠ "element") (hsp : d.space = "") (hnm : d.name = "") (htx : d.text = "") (hu : d.under = []) (hpar : d.parent = -1)
  (hret : ∀ (a q : Addr) (news' : Led) (t : Tok) (h' : Heap) (tk' : Nat), 0 < tk' → Fr h₀ L h' m → News h₀ L h' news' → TreeC w news' T (as ++ [a]) (qs ++ [q]) (nds ++ [d]) → Keep T.lists news news' → (∀ p ∈ news, @LT.lt Nat _ p.1 a) → (∀ p ∈ news, @LT.lt Nat _ p.1 q) → Q (.int (nds.length : Int) t) ⟨h', gn, dr, tk', os⟩) :
  wpAny (model PySem.Challenge.rw_nz0091_01.row.prog w) (ktrTop dp un gd cn cs L a ccd cl outer) (call (.ref 160) [.ref T.t, .str d.kind t1]) Q E ⟨gh, gn, dr, tk0, os⟩ := by
  have hT : IsTup h₀ 152 ([] : List Value).toArray := ⟨_, C.X _ _ (by k_is), rfl, _, rfl⟩
  exact addG_spec (t1 := t1) (t2 := 364) (t3 := 365) (t4 := 366) (va := []) C F N hp hdp hun R hroom (.inr hT) (Nat.zero_le _) (fun e => absurd e hne) hu hpar (by
    intro fn oc od osl e
    refine' bindsAt ?e1 e ?e2
    case e1 => k_is
    case e2 => rw [hsp, hnm, htx]; first | exact BindsTo.of_eq rfl | exact binds_K (C.X.keeps F.keep) rfl (by k_is) rfl rfl rfl) hret
end

local macro_rules (kind := PyProof.Rows.tacticWalk_at_) | x => stopR9 160 x

theorem valueAt_none {kvs : List (Int × Value)} {k : Int} (h : valueAt kvs k = none) : (kvs.any fun kv => decide (kv.1 = k)) = false := by
  unfold valueAt at h
  have h2 : kvs.find? (fun kv => decide (kv.1 = k)) = none := by simpa using h
  rw [List.find?_eq_none] at h2
  rw [List.any_eq_false]
  intro x hx; exact h2 x hx
theorem stored_new {kvs : List (Int × Value)} {k : Int} {v : Value} (h : valueAt kvs k = none) : stored kvs k v = kvs ++ [(k, v)] := by
  unfold stored; rw [if_neg (by rw [valueAt_none h]; exact Bool.false_ne_true)]
theorem valueAt_snoc {kvs : List (Int × Value)} {k j : Int} {v : Value} (h : valueAt kvs k = none) : valueAt (kvs ++ [(k, v)]) j = if j = k then some v else valueAt kvs j := by
  by_cases e : j = k
  · subst e
    rw [if_pos rfl]
    unfold valueAt at h ⊢
    have h2 : kvs.find? (fun kv => decide (kv.1 = j)) = none := by simpa using h
    rw [List.find?_append, h2]; simp
  · rw [if_neg e]
    unfold valueAt
    rw [List.find?_append]
    cases hf : kvs.find? (fun kv => decide (kv.1 = j)) with
    | some x => rfl
    | none => have : ¬ k = j := fun q => e q.symm
              simp [this]
theorem ContOk.fresh {kvs : List (Int × Value)} {nds : List Nd} (h : ContOk kvs nds) : valueAt kvs (nds.length : Int) = none := (h nds.length).2 fun d hd => by
  rw [List.getElem?_eq_none (Nat.le_refl _)] at hd; cases hd
theorem ContOk.snoc {kvs : List (Int × Value)} {nds : List Nd} {d : Nd} (h : ContOk kvs nds) (hd : d.isTem = false) : ContOk kvs (nds ++ [d]) := fun i => by
  refine ⟨fun e he ht => ?_, fun hn => ?_⟩
  · rcases get_snoc he with he | ⟨_, rfl⟩
    · exact (h i).1 e he ht
    · rw [hd] at ht; cases ht
  · refine (h i).2 fun e he => hn e ?_
    rw [List.getElem?_append_left (lt_of_get he)]; exact he
theorem ContOk.tem {kvs : List (Int × Value)} {nds : List Nd} {d f : Nd} {t : Tok} (h : ContOk kvs nds) (hd : d.isTem = true) (hf : f.isTem = false) : ContOk (stored kvs (nds.length : Int) (.int ((nds.length + 1 : Nat) : Int) t)) (nds ++ [d] ++ [f]) := by
  refine ContOk.snoc (fun i => ?_) hf
  rw [stored_new h.fresh]
  refine ⟨fun e he ht => ?_, fun hn => ?_⟩
  · rw [valueAt_snoc h.fresh]
    by_cases hi : i = nds.length
    · subst hi; rw [if_pos rfl]; exact ⟨t, rfl⟩
    · rw [if_neg (by omega)]
      rcases get_snoc he with he | ⟨q, rfl⟩
      · exact (h i).1 e he ht
      · exact absurd q hi
  · rw [valueAt_snoc h.fresh]
    by_cases hi : i = nds.length
    · subst hi
      have := hn d (by simp)
      rw [hd] at this; cases this
    · rw [if_neg (by omega)]
      refine (h i).2 fun e he => hn e ?_
      rw [List.getElem?_append_left (lt_of_get he)]; exact he
theorem stored_len {kvs : List (Int × Value)} {nds : List Nd} {v : Value} (h : ContOk kvs nds) : (stored kvs (nds.length : Int) v).length = kvs.length + 1 := by
  rw [stored_new h.fresh, List.length_append]; rfl
noncomputable def fragNd : Nd := ⟨"fragment", "", "", "", [], [], -1⟩
noncomputable def elNds (d : Nd) : List Nd := if d.isTem = true then [d, fragNd] else [d]
section
variable {w : World} {news news' : Led} {T : TA} {as qs : List Addr} {nds : List Nd} {d : Nd}
theorem TreeC.ct_not (R : TreeC w news T as qs nds) : T.ct ∉ T.lists := by
  have nd := R.nd
  unfold treeAddrs at nd
  have h3 := List.nodup_cons.mp (List.nodup_cons.mp (List.nodup_cons.mp nd).2).2
  exact fun h => h3.1 (List.mem_append_left _ h)
theorem TreeC.setCt {h₀ h : Heap} {L : Addr} {o' : Obj} (R : TreeC w news T as qs nds) (N : News h₀ L h news) (ho : o'.cls ≠ .type "tuple") : TreeC w (setL T.ct o' news) T as qs nds := by
  have nd := R.nd
  unfold treeAddrs at nd
  have h1 := List.nodup_cons.mp nd
  have h2 := List.nodup_cons.mp h1.2
  have h3 := List.nodup_cons.mp h2.2
  obtain ⟨oc, hoc, hcc⟩ := R.has T.ct (by unfold treeAddrs; simp)
  have K : Keep [T.ct] news (setL T.ct o' news) := Keep.step Keep.refl N hoc hcc (List.mem_cons_self ..)
  have k : ∀ x, x ≠ T.ct → ∀ o, (x, o) ∈ news → (x, o) ∈ setL T.ct o' news := fun x hx o h => setL_ne hx h
  have kl : ∀ x ∈ T.lists ++ (as ++ qs), x ≠ T.ct := fun x hx e => h3.1 (e ▸ hx)
  have hl : ∀ x ∈ T.lists, x ≠ T.ct := fun x hx => kl x (List.mem_append_left _ hx)
  have ht : T.t ≠ T.ct := fun e => h1.1 (e ▸ List.mem_cons_of_mem _ (List.mem_cons_self ..))
  have hd : T.d ≠ T.ct := fun e => h2.1 (e ▸ List.mem_cons_self ..)
  exact {
    inst := k _ ht _ R.inst
    dict := k _ hd _ R.dict
    kinds := let ⟨vs, n, h, r⟩ := R.kinds; ⟨vs, n, k _ (hl _ (by unfold TA.lists; simp)) _ h, r⟩
    spaces := let ⟨vs, n, h, r⟩ := R.spaces; ⟨vs, n, k _ (hl _ (by unfold TA.lists; simp)) _ h, r⟩
    names := let ⟨vs, n, h, r⟩ := R.names; ⟨vs, n, k _ (hl _ (by unfold TA.lists; simp)) _ h, r⟩
    texts := let ⟨vs, n, h, r⟩ := R.texts; ⟨vs, n, k _ (hl _ (by unfold TA.lists; simp)) _ h, r⟩
    parents := let ⟨vs, n, h, r⟩ := R.parents; ⟨vs, n, k _ (hl _ (by unfold TA.lists; simp)) _ h, r⟩
    attrs := let ⟨n, h⟩ := R.attrs; ⟨n, k _ (hl _ (by unfold TA.lists; simp)) _ h⟩
    alen := R.alen
    attr := fun i d a h1 h2 h3 => (R.attr i d a h1 h2 h3).keep K (by simp only [List.mem_singleton]; exact kl a (List.mem_append_right _ (List.mem_append_left _ (List.mem_of_getElem? h2))))
    kids := let ⟨n, h⟩ := R.kids; ⟨n, k _ (hl _ (by unfold TA.lists; simp)) _ h⟩
    klen := R.klen
    kid := fun i d q h1 h2 => let ⟨vs, n, h, r⟩ := R.kid i d q h1 h2; ⟨vs, n, k _ (kl q (List.mem_append_right _ (List.mem_append_right _ (List.mem_of_getElem? h2)))) _ h, r⟩
    lo := R.lo
    room := R.room
    has := fun x hx => by
      by_cases e : x = T.ct
      · subst e; exact ⟨o', setL_self hoc, ho⟩
      · obtain ⟨o, h, c⟩ := R.has x hx; exact ⟨o, k x e o h, c⟩
    nd := R.nd }
theorem dict_cls {o : Obj} {kvs : List (Int × Value)} (h : o.IsDictOf (intKind PySem.Challenge.rw_nz0091_01.row.prog w) kvs) : o.cls ≠ .type "tuple" := by
  obtain ⟨es, ep, ⟨h1, _⟩, _⟩ := h
  rw [h1]; simp
end

local macro_rules (kind := PyProof.Rows.tacticWalk_at_) | x => call9 "setItem ref int" "setDictL" 5 x

section
variable {w : World} {loose : List Str} {mean : ExcName → Option Value} {mg mb : Str → Option Value} {dp un : Nat} {gd : Option (List Code)} {cn : Str} {cs : Scope} {a : Addr} {ccd : Value} {cl : List (Str × Addr)} {outer : List Env} {A₀ : Around} {base h₀ : Heap} {L : Addr} {m : Str → Option Value} {gh : Heap} {gn : Array GenState} {dr : Drawn} {tk0 : Nat} {os : OsState} {Q E : Value → Shared → Prop} {news : Led}
theorem element_spec {T : TA} {as qs : List Addr} {nds : List Nd} {d : Nd} {ax : Addr} {va : List Value} {nx : Nat} {t2 t3 : Tok} (C : Cx w loose mean mg mb outer A₀ base h₀ cs) (F : Fr h₀ L gh m) (N : News h₀ L gh news) (hp : 0 < tk0) (hdp : dp + 4 < recursionLimit) (hun : un + 32 < cLine)
  (R : TreeC w news T as qs nds) (CA : ContAt w news T nds) (hroom : nds.length + 2 ≤ 1000) (hax : (ax, TO va nx) ∈ news) (hvl : va.length ≤ 1000) (hat : d.kind = "element" → All2 (PairAt news) va d.attrs)
  (hki : d.kind = "element") (htx : d.text = "") (hu : d.under = []) (hpar : d.parent = -1)
  (hret : ∀ (as' qs' : List Addr) (news' : Led) (t : Tok) (h' : Heap) (tk' : Nat), 0 < tk' → Fr h₀ L h' m → News h₀ L h' news' → TreeC w news' T (as ++ as') (qs ++ qs') (nds ++ elNds d) → ContAt w news' T (nds ++ elNds d) → Keep (T.ct :: T.lists) news news' → (∀ x ∈ as' ++ qs', ∀ p ∈ news, @LT.lt Nat _ p.1 x) → Q (.int (nds.length : Int) t) ⟨h', gn, dr, tk', os⟩) :
  wpAny (model PySem.Challenge.rw_nz0091_01.row.prog w) (ktrTop dp un gd cn cs L a ccd cl outer) (call (.ref 169) [.ref T.t, .str d.name t3, .str d.space t2, .ref ax]) Q E ⟨gh, gn, dr, tk0, os⟩ := by
  refine viaF fun hG9 => ?_
  have hinst := R.inst
  have hdict := R.dict
  obtain ⟨B, X, TT, hk⟩ := C
  refine hG9 ?_
  refine' enterP (binds := [(PySem.Str.ofString "self", Value.ref T.t), (PySem.Str.ofString "name", Value.str d.name t3), (PySem.Str.ofString "space", Value.str d.space t2), (PySem.Str.ofString "attrs", Value.ref ax)]) B F X N TT hk hp (by ktr_room) ?ho ?hcd ?hb ?hl rfl ?_ ?c1 ?c2 ?c3 ?c4
  case ho => k_is
  case hcd => k_is
  case hb => first | exact BindsTo.of_eq rfl | exact hb _ _ _ _ (by k_is) | exact binds_K (by k_in) rfl (by k_is) rfl rfl rfl
  case hl => exact locs rfl
  case c1 => rfl
  case c2 => rfl
  case c3 => rfl
  case c4 => decide
  intro g L₁ h₁ tk hp₁ FG mm F₁ N₁ B₁ X₁ T₁ A₁ qk ek
  k_steps
  unfold Stop
  rw [← hki]
  refine' add4_spec (d := d) ?zzC ?zzF ?zzN ?zzp ?zzd ?zzu ?zzR ?zzro ?zzax ?zzvl ?zzat ?zztx ?zzhu ?zzpa ?_
  case zzC => tb_start
  case zzF => k_asm
  case zzN => k_asm
  case zzp => tb_rel
  case zzd => ktr_room
  case zzu => ktr_room
  case zzR => assumption
  case zzro => exact succ1 hroom
  case zzax => assumption
  case zzvl => assumption
  case zzat => assumption
  case zztx => assumption
  case zzhu => assumption
  case zzpa => assumption
  intro a1 q1 NL t4 h4 tk4 hp4 F4 N4 R4 K4 fa4 fq4
  try dsimp only
  have hinst4 := R4.inst
  have hdict4 := R4.dict
  k_steps
  · unfold Stop
    have htem : d.isTem = true := by
      unfold Nd.isTem; rw [hki]; simp only [Bool.and_eq_true]
      exact ⟨by decide +kernel, by assumption, by assumption⟩
    have hl4 : (nds ++ [d]).length = nds.length + 1 := by rw [List.length_append]; rfl
    refine' add1_spec (d := fragNd) ?zzC ?zzF ?zzN ?zzp ?zzd ?zzu ?zzR ?zzro ?zzne ?zzsp ?zznm ?zztx ?zzhu ?zzpa ?_
    case zzC => tb_start
    case zzF => k_asm
    case zzN => k_asm
    case zzp => tb_rel
    case zzd => ktr_room
    case zzu => ktr_room
    case zzR => assumption
    case zzro => exact succ2 hroom hl4
    case zzne => decide +kernel
    case zzsp => rfl
    case zznm => rfl
    case zztx => rfl
    case zzhu => rfl
    case zzpa => rfl
    intro a2 q2 NL2 t5 h5 tk5 hp5 F5 N5 R5 K5 fa5 fq5
    try dsimp only
    have hinst5 := R5.inst
    have hdict5 := R5.dict
    rw [hl4]
    refine viaF fun hG9 => ?_
    obtain ⟨oc, kvs, hct, hdo, hkl, hok⟩ := (CA.keep K4 R.ct_not).keep K5 R.ct_not
    have hroom5 := R.room
    refine hG9 ?_
    k_steps
    rename News _ _ _ _ => N9
    rename Fr _ _ _ _ => F9
    rename Obj.IsDictOf _ _ (stored _ _ _) => hd9
    have R9 := R5.setCt N5 (dict_cls hd9)
    have e9 : elNds d = [d, fragNd] := by unfold elNds; rw [if_pos htem]
    have ea : nds ++ [d] ++ [fragNd] = nds ++ elNds d := by rw [e9, List.append_assoc]; rfl
    rw [ea, List.append_assoc, List.append_assoc] at R9
    have K9 : ∀ o', Keep (T.ct :: T.lists) news (setL T.ct o' NL2) := fun o' => Keep.step ((K4.trans K5).wide fun x hx => List.mem_cons_of_mem _ hx) N5 hct (dict_cls hdo) (List.mem_cons_self ..)
    refine hret _ _ _ _ _ _ (by tb_rel) F9 N9 R9 ⟨_, _, setL_self hct, hd9, ?_, ?_⟩ (K9 _) ?_
    · rw [stored_len hok, ← ea]; simp; exact Nat.le_succ_of_le hkl
    · rw [← ea]; exact ContOk.tem hok htem (by decide +kernel)
    · intro x hx p hp'
      have old : @LT.lt Nat _ p.1 a2 ∧ @LT.lt Nat _ p.1 q2 := by
        by_cases hc : p.1 ∈ T.lists
        · obtain ⟨o, ho, _⟩ := R4.has p.1 (lists_sub hc)
          exact ⟨fa5 (p.1, o) ho, fq5 (p.1, o) ho⟩
        · exact ⟨fa5 _ (K4 p hp' (.inl hc)), fq5 _ (K4 p hp' (.inl hc))⟩
      simp only [List.mem_append, List.mem_cons, List.not_mem_nil, or_false] at hx
      rcases hx with (rfl | rfl) | rfl | rfl
      · exact fa4 p hp'
      · exact old.1
      · exact fq4 p hp'
      · exact old.2
  all_goals
    have htem : d.isTem = false := by
      unfold Nd.isTem; rw [hki]
      first
        | rw [show (d.space == PySem.Str.ofString "html") = false by assumption]; simp
        | rw [show (d.name == PySem.Str.ofString "template") = false by assumption]; simp
    have e9 : elNds d = [d] := by unfold elNds; rw [if_neg (by rw [htem]; exact Bool.false_ne_true)]
    rename News _ _ _ _ => N9
    rename Fr _ _ _ _ => F9
    refine viaF fun hG9 => ?_
    obtain ⟨oc, kvs, hct, hdo, hkl, hok⟩ := CA.keep K4 R.ct_not
    refine hG9 ?_
    refine hret [a1] [q1] NL _ _ _ (by tb_rel) F9 (news_sub N9 (by ktr_unf)) (e9 ▸ R4) ⟨oc, kvs, hct, hdo, ?_, ?_⟩ (K4.wide fun x hx => List.mem_cons_of_mem _ hx) ?_
    · rw [e9]; simp; exact Nat.le_succ_of_le hkl
    · rw [e9]; exact hok.snoc htem
    · intro x hx p hp'
      simp only [List.mem_append, List.mem_cons, List.not_mem_nil, or_false] at hx
      rcases hx with rfl | rfl
      · exact fa4 p hp'
      · exact fq4 p hp'
end

local macro_rules (kind := PyProof.Rows.tacticWalk_at_) | x => stopR9 160 x

/-- what a maker of nodes hands back -/
structure Made (w : World) (news news' : Led) (T : TA) (as qs as' qs' : List Addr) (nds nw : List Nd) : Prop where
  R : TreeC w news' T (as ++ as') (qs ++ qs') (nds ++ nw)
  C : ContAt w news' T (nds ++ nw)
  K : Keep (T.ct :: T.lists) news news'
  fresh : ∀ x ∈ as' ++ qs', ∀ p ∈ news, @LT.lt Nat _ p.1 x
theorem Keep.of_sub {ch : List Addr} {a b c : Led} (h : Keep ch b c) (hs : Sub a b) : Keep ch a c := fun p hp hc => h p (hs p hp) hc
theorem isTem_kind {d : Nd} (h : (d.kind == PySem.Str.ofString "element") = false) : d.isTem = false := by
  unfold Nd.isTem; rw [h]; rfl
theorem made1 {w : World} {news news' : Led} {T : TA} {as qs : List Addr} {a q : Addr} {nds : List Nd} {d : Nd} (CA : ContAt w news T nds) (hct : T.ct ∉ T.lists) (R : TreeC w news' T (as ++ [a]) (qs ++ [q]) (nds ++ [d])) (K : Keep T.lists news news') (hd : d.isTem = false)
    (fa : ∀ p ∈ news, @LT.lt Nat _ p.1 a) (fq : ∀ p ∈ news, @LT.lt Nat _ p.1 q) : Made w news news' T as qs [a] [q] nds [d] where
  R := R
  C := let ⟨o, kvs, h1, h2, h3, h4⟩ := CA.keep K hct; ⟨o, kvs, h1, h2, by simp; exact Nat.le_succ_of_le h3, h4.snoc hd⟩
  K := K.wide fun x hx => List.mem_cons_of_mem _ hx
  fresh := fun x hx p hp' => by
    simp only [List.mem_append, List.mem_cons, List.not_mem_nil, or_false] at hx
    rcases hx with rfl | rfl
    · exact fa p hp'
    · exact fq p hp'
/-- what «v or ''» is -/
noncomputable def OrV (v : Value) (x : Str) : Prop := (∃ t, v = .str x t ∧ x.length ≤ 100) ∨ (v = .none ∧ x = "")
theorem len_zero {x : Str} (h : x.length = 0) : x = "" := by
  apply Str.ext'
  have : x.cps = #[] := Array.eq_empty_of_size_eq_zero h
  rw [this]; rfl
theorem orD {cn : Str} {cs : Scope} {a : Addr} {ccd : Value} {cl : List (Str × Addr)} {y : Str} {p1 p2 p3 : Pos} {k : Nat} (hk : ScopeKind.function = cs.kind) (hd : false = (y == ("__debug__" : Str))) {prog : Program} {w : World} {A : Around} {E : Value → Shared → Prop} {h₀ : Heap} {L : Addr} {m : Str → Option Value} {v : Value} {x : Str} {Q : Value → Shared → Prop} {gh : Heap} {gn : Array GenState} {dr : Drawn} {tk0 : Nat} {os : OsState}
    (F : Fr h₀ L gh m) (hx : some NameKind.local = (envX cn cs L a ccd cl).kindOf y) (hv : some v = m y) (hD : OrV v x) (hq : ∀ t tk', 0 < tk' → Q (.str x t) ⟨gh, gn, dr, tk', os⟩) :
    wpAny (model prog w) A (eval (.BoolOp .Or [.Name y p1, .Constant (.str "") k p2] p3) (envX cn cs L a ccd cl)) Q E ⟨gh, gn, dr, tk0, os⟩ := by
  refine BoolOp_or (nameL hk hd F hx hv ?_)
  rcases hD with ⟨t, rfl, h2⟩ | ⟨rfl, rfl⟩
  · refine P.truthy_str (by omega) ?_
    by_cases h1 : x.length = 0
    · have e : ((x.length : Int) != 0) = false := by rw [h1]; rfl
      rw [e]
      have := len_zero h1
      subst this
      exact BoolOp_one (Constant_str (hq _ _ (Nat.succ_pos _)))
    · have e : ((x.length : Int) != 0) = true := by simp; exact h1
      rw [e]; exact hq _ _ (Nat.succ_pos _)
  · exact truthy_none (BoolOp_one (Constant_str (hq _ _ (Nat.succ_pos _))))
section
variable {w : World} {loose : List Str} {mean : ExcName → Option Value} {mg mb : Str → Option Value} {dp un : Nat} {gd : Option (List Code)} {cn : Str} {cs : Scope} {a : Addr} {ccd : Value} {cl : List (Str × Addr)} {outer : List Env} {A₀ : Around} {base h₀ : Heap} {L : Addr} {m : Str → Option Value} {gh : Heap} {gn : Array GenState} {dr : Drawn} {tk0 : Nat} {os : OsState} {Q E : Value → Shared → Prop} {news : Led}
theorem text_spec {T : TA} {as qs : List Addr} {nds : List Nd} {x : Str} {t1 : Tok} (C : Cx w loose mean mg mb outer A₀ base h₀ cs) (F : Fr h₀ L gh m) (N : News h₀ L gh news) (hp : 0 < tk0) (hdp : dp + 4 < recursionLimit) (hun : un + 32 < cLine)
  (R : TreeC w news T as qs nds) (CA : ContAt w news T nds) (hroom : nds.length + 2 ≤ 1000)
  (hret : ∀ (as' qs' : List Addr) (news' : Led) (t : Tok) (h' : Heap) (tk' : Nat), 0 < tk' → Fr h₀ L h' m → News h₀ L h' news' → Made w news news' T as qs as' qs' nds [⟨"text", "", "", x, [], [], -1⟩] → Q (.int (nds.length : Int) t) ⟨h', gn, dr, tk', os⟩) :
  wpAny (model PySem.Challenge.rw_nz0091_01.row.prog w) (ktrTop dp un gd cn cs L a ccd cl outer) (call (.ref 176) [.ref T.t, .str x t1]) Q E ⟨gh, gn, dr, tk0, os⟩ := by
  refine viaF fun hG9 => ?_
  have hinst := R.inst
  have hdict := R.dict
  obtain ⟨B, X, TT, hk⟩ := C
  refine hG9 ?_
  refine' enterP (binds := [(PySem.Str.ofString "self", Value.ref T.t), (PySem.Str.ofString "text", Value.str x t1)]) B F X N TT hk hp (by ktr_room) ?ho ?hcd ?hb ?hl rfl ?_ ?c1 ?c2 ?c3 ?c4
  case ho => k_is
  case hcd => k_is
  case hb => first | exact BindsTo.of_eq rfl | exact hb _ _ _ _ (by k_is) | exact binds_K (by k_in) rfl (by k_is) rfl rfl rfl
  case hl => exact locs rfl
  case c1 => rfl
  case c2 => rfl
  case c3 => rfl
  case c4 => decide
  intro g L₁ h₁ tk hp₁ FG mm F₁ N₁ B₁ X₁ T₁ A₁ qk ek
  k_steps
  unfold Stop
  refine' add5_spec (d := ⟨"text", "", "", x, [], [], -1⟩) (va := []) ?zzC ?zzF ?zzN ?zzp ?zzd ?zzu ?zzR ?zzro ?zzax ?zzvl ?zzne ?zzhu ?zzpa ?_
  case zzC => tb_start
  case zzF => k_asm
  case zzN => k_asm
  case zzp => tb_rel
  case zzd => ktr_room
  case zzu => ktr_room
  case zzR => exact R.sub (by ktr_unf)
  case zzro => exact succ1 hroom
  case zzax => k_mem
  case zzvl => exact Nat.zero_le _
  case zzne => (show PySem.Str.ofString "text" ≠ PySem.Str.ofString "element"; decide +kernel)
  case zzhu => rfl
  case zzpa => rfl
  intro a1 q1 NL t4 h4 tk4 hp4 F4 N4 R4 K4 fa4 fq4
  try dsimp only
  k_steps
  rename Fr _ _ _ _ => F9
  rename News _ _ _ _ => N9
  exact hret _ _ NL _ _ _ (by tb_rel) F9 (news_sub N9 (by ktr_unf)) (made1 CA R.ct_not R4 (K4.of_sub (by ktr_unf)) (isTem_kind (show (PySem.Str.ofString "text" == PySem.Str.ofString "element") = false by decide +kernel)) (fun p hp => fa4 p (by repeat (first | assumption | apply List.mem_cons_of_mem))) fun p hp => fq4 p (by repeat (first | assumption | apply List.mem_cons_of_mem)))
theorem comment_spec {T : TA} {as qs : List Addr} {nds : List Nd} {x : Str} {t1 : Tok} (C : Cx w loose mean mg mb outer A₀ base h₀ cs) (F : Fr h₀ L gh m) (N : News h₀ L gh news) (hp : 0 < tk0) (hdp : dp + 4 < recursionLimit) (hun : un + 32 < cLine)
  (R : TreeC w news T as qs nds) (CA : ContAt w news T nds) (hroom : nds.length + 2 ≤ 1000)
  (hret : ∀ (as' qs' : List Addr) (news' : Led) (t : Tok) (h' : Heap) (tk' : Nat), 0 < tk' → Fr h₀ L h' m → News h₀ L h' news' → Made w news news' T as qs as' qs' nds [⟨"comment", "", "", x, [], [], -1⟩] → Q (.int (nds.length : Int) t) ⟨h', gn, dr, tk', os⟩) :
  wpAny (model PySem.Challenge.rw_nz0091_01.row.prog w) (ktrTop dp un gd cn cs L a ccd cl outer) (call (.ref 183) [.ref T.t, .str x t1]) Q E ⟨gh, gn, dr, tk0, os⟩ := by
  refine viaF fun hG9 => ?_
  have hinst := R.inst
  have hdict := R.dict
  obtain ⟨B, X, TT, hk⟩ := C
  refine hG9 ?_
  refine' enterP (binds := [(PySem.Str.ofString "self", Value.ref T.t), (PySem.Str.ofString "text", Value.str x t1)]) B F X N TT hk hp (by ktr_room) ?ho ?hcd ?hb ?hl rfl ?_ ?c1 ?c2 ?c3 ?c4
  case ho => k_is
  case hcd => k_is
  case hb => first | exact BindsTo.of_eq rfl | exact hb _ _ _ _ (by k_is) | exact binds_K (by k_in) rfl (by k_is) rfl rfl rfl
  case hl => exact locs rfl
  case c1 => rfl
  case c2 => rfl
  case c3 => rfl
  case c4 => decide
  intro g L₁ h₁ tk hp₁ FG mm F₁ N₁ B₁ X₁ T₁ A₁ qk ek
  k_steps
  unfold Stop
  refine' add5_spec (d := ⟨"comment", "", "", x, [], [], -1⟩) (va := []) ?zzC ?zzF ?zzN ?zzp ?zzd ?zzu ?zzR ?zzro ?zzax ?zzvl ?zzne ?zzhu ?zzpa ?_
  case zzC => tb_start
  case zzF => k_asm
  case zzN => k_asm
  case zzp => tb_rel
  case zzd => ktr_room
  case zzu => ktr_room
  case zzR => exact R.sub (by ktr_unf)
  case zzro => exact succ1 hroom
  case zzax => k_mem
  case zzvl => exact Nat.zero_le _
  case zzne => (show PySem.Str.ofString "comment" ≠ PySem.Str.ofString "element"; decide +kernel)
  case zzhu => rfl
  case zzpa => rfl
  intro a1 q1 NL t4 h4 tk4 hp4 F4 N4 R4 K4 fa4 fq4
  try dsimp only
  k_steps
  rename Fr _ _ _ _ => F9
  rename News _ _ _ _ => N9
  exact hret _ _ NL _ _ _ (by tb_rel) F9 (news_sub N9 (by ktr_unf)) (made1 CA R.ct_not R4 (K4.of_sub (by ktr_unf)) (isTem_kind (show (PySem.Str.ofString "comment" == PySem.Str.ofString "element") = false by decide +kernel)) (fun p hp => fa4 p (by repeat (first | assumption | apply List.mem_cons_of_mem))) fun p hp => fq4 p (by repeat (first | assumption | apply List.mem_cons_of_mem)))
end

local macro_rules (kind := PyProof.Rows.tacticWalk_at_) | x => rule9 "eval BoolOp" "orD rfl rfl ?F ?b ?v ?D ?" [("F", kasm9), ("b", exact9 "rfl"), ("v", exact9 "rfl"), ("D", asm9)] [at9 "own came"] x

section
variable {w : World} {loose : List Str} {mean : ExcName → Option Value} {mg mb : Str → Option Value} {dp un : Nat} {gd : Option (List Code)} {cn : Str} {cs : Scope} {a : Addr} {ccd : Value} {cl : List (Str × Addr)} {outer : List Env} {A₀ : Around} {base h₀ : Heap} {L : Addr} {m : Str → Option Value} {gh : Heap} {gn : Array GenState} {dr : Drawn} {tk0 : Nat} {os : OsState} {Q E : Value → Shared → Prop} {news : Led}
theorem doctype_spec {T : TA} {as qs : List Addr} {nds : List Nd} {x y z : Str} {v1 v2 : Value} {t3 : Tok} (C : Cx w loose mean mg mb outer A₀ base h₀ cs) (F : Fr h₀ L gh m) (N : News h₀ L gh news) (hp : 0 < tk0) (hdp : dp + 4 < recursionLimit) (hun : un + 32 < cLine)
  (R : TreeC w news T as qs nds) (CA : ContAt w news T nds) (hroom : nds.length + 2 ≤ 1000) (hy : y.length ≤ 6) (hv1 : OrV v1 x) (hv2 : OrV v2 z)
  (hret : ∀ (as' qs' : List Addr) (news' : Led) (t : Tok) (h' : Heap) (tk' : Nat), 0 < tk' → Fr h₀ L h' m → News h₀ L h' news' → Made w news news' T as qs as' qs' nds [⟨"doctype", "", x, "", [], [], -1⟩] → Q (.int (nds.length : Int) t) ⟨h', gn, dr, tk', os⟩) :
  wpAny (model PySem.Challenge.rw_nz0091_01.row.prog w) (ktrTop dp un gd cn cs L a ccd cl outer) (call (.ref 190) [.ref T.t, v1, v2, .str y t3]) Q E ⟨gh, gn, dr, tk0, os⟩ := by
  refine viaF fun hG9 => ?_
  have hinst := R.inst
  have hdict := R.dict
  have hv3 : OrV (.str y t3) y := .inl ⟨_, rfl, Nat.le_trans hy (by decide)⟩
  obtain ⟨B, X, TT, hk⟩ := C
  refine hG9 ?_
  refine' enterP (binds := [(PySem.Str.ofString "self", Value.ref T.t), (PySem.Str.ofString "name", v1), (PySem.Str.ofString "public", v2), (PySem.Str.ofString "system", Value.str y t3)]) B F X N TT hk hp (by ktr_room) ?ho ?hcd ?hb ?hl rfl ?_ ?c1 ?c2 ?c3 ?c4
  case ho => k_is
  case hcd => k_is
  case hb => first | exact BindsTo.of_eq rfl | exact hb _ _ _ _ (by k_is) | exact binds_K (by k_in) rfl (by k_is) rfl rfl rfl
  case hl => exact locs rfl
  case c1 => rfl
  case c2 => rfl
  case c3 => rfl
  case c4 => decide
  intro g L₁ h₁ tk hp₁ FG mm F₁ N₁ B₁ X₁ T₁ A₁ qk ek
  k_steps
  unfold Stop
  refine' add4_spec (d := ⟨"doctype", "", x, "", [], [], -1⟩) (va := [_, _]) ?zzC ?zzF ?zzN ?zzp ?zzd ?zzu ?zzR ?zzro ?zzax ?zzvl ?zzat ?zztx ?zzhu ?zzpa ?_
  case zzC => tb_start
  case zzF => k_asm
  case zzN => k_asm
  case zzp => tb_rel
  case zzd => ktr_room
  case zzu => ktr_room
  case zzR => exact R.sub (by ktr_unf)
  case zzro => exact succ1 hroom
  case zzax => k_mem
  case zzvl => exact Nat.le_of_ble_eq_true rfl
  case zzat => (intro e; exact absurd e (show PySem.Str.ofString "doctype" ≠ PySem.Str.ofString "element" by decide +kernel))
  case zztx => rfl
  case zzhu => rfl
  case zzpa => rfl
  intro a1 q1 NL t4 h4 tk4 hp4 F4 N4 R4 K4 fa4 fq4
  try dsimp only
  k_steps
  rename Fr _ _ _ _ => F9
  rename News _ _ _ _ => N9
  exact hret _ _ NL _ _ _ (by tb_rel) F9 (news_sub N9 (by ktr_unf)) (made1 CA R.ct_not R4 (K4.of_sub (by ktr_unf)) (isTem_kind (show (PySem.Str.ofString "doctype" == PySem.Str.ofString "element") = false by decide +kernel)) (fun p hp => fa4 p (by repeat (first | assumption | apply List.mem_cons_of_mem))) fun p hp => fq4 p (by repeat (first | assumption | apply List.mem_cons_of_mem)))
end

noncomputable def docNd : Nd := ⟨"document", "", "", "", [], [], -1⟩
noncomputable def initLed (w : World) (T : TA) (oc : Obj) (news : Led) : Led := (T.ct, oc) :: (T.c, LO [] 0) :: (T.p, LO [] 0) :: (T.x, LO [] 0) :: (T.a, LO [] 0) :: (T.n, LO [] 0) :: (T.s, LO [] 0) :: (T.k, LO [] 0) :: (T.t, instObj 250 T.d) :: (T.d, dictOf (treeEs w.params T) 8) :: news
structure InitOk (T : TA) (news : Led) : Prop where
  l0 : ∀ p ∈ news, @LT.lt Nat _ p.1 T.d
  l1 : @LT.lt Nat _ T.d T.t
  l2 : @LT.lt Nat _ T.t T.k
  l3 : @LT.lt Nat _ T.k T.s
  l4 : @LT.lt Nat _ T.s T.n
  l5 : @LT.lt Nat _ T.n T.a
  l6 : @LT.lt Nat _ T.a T.x
  l7 : @LT.lt Nat _ T.x T.p
  l8 : @LT.lt Nat _ T.p T.c
  l9 : @LT.lt Nat _ T.c T.ct
theorem InitOk.all {T : TA} {news : Led} (I : InitOk T news) {p : Addr × Obj} (hp : p ∈ news) : ∀ y ∈ treeAddrs T [] [], @LT.lt Nat _ p.1 y := by
  have h0 := I.l0 p hp
  have h1 := Nat.lt_trans h0 I.l1
  have h2 := Nat.lt_trans h1 I.l2
  have h3 := Nat.lt_trans h2 I.l3
  have h4 := Nat.lt_trans h3 I.l4
  have h5 := Nat.lt_trans h4 I.l5
  have h6 := Nat.lt_trans h5 I.l6
  have h7 := Nat.lt_trans h6 I.l7
  have h8 := Nat.lt_trans h7 I.l8
  have h9 := Nat.lt_trans h8 I.l9
  intro y hy
  unfold treeAddrs TA.lists at hy
  simp only [List.append_nil, List.mem_cons, List.cons_append, List.nil_append, List.not_mem_nil, or_false] at hy
  rcases hy with rfl | rfl | rfl | rfl | rfl | rfl | rfl | rfl | rfl | rfl
  · exact h1
  · exact h0
  · exact h9
  · exact h2
  · exact h3
  · exact h4
  · exact h5
  · exact h6
  · exact h7
  · exact h8
theorem init_tree {w : World} {T : TA} {oc : Obj} {news : Led} (I : InitOk T news) (hd' : oc.IsDictOf (intKind PySem.Challenge.rw_nz0091_01.row.prog w) []) (lo : (T.ct == sysModules) = false) : TreeC w (initLed w T oc news) T [] [] [] := by
  obtain ⟨l0, l1, l2, l3, l4, l5, l6, l7, l8, l9⟩ := I
  exact {
    inst := by unfold initLed; simp
    dict := by unfold initLed; simp
    kinds := ⟨[], 0, by unfold initLed; simp, .nil⟩
    spaces := ⟨[], 0, by unfold initLed; simp, .nil⟩
    names := ⟨[], 0, by unfold initLed; simp, .nil⟩
    texts := ⟨[], 0, by unfold initLed; simp, .nil⟩
    parents := ⟨[], 0, by unfold initLed; simp, .nil⟩
    attrs := ⟨0, by unfold initLed; simp⟩
    alen := rfl
    attr := fun i d a h => by simp at h
    kids := ⟨0, by unfold initLed; simp⟩
    klen := rfl
    kid := fun i d a h => by simp at h
    lo := lo
    room := Nat.zero_le _
    has := fun x hx => by
      unfold treeAddrs TA.lists at hx
      simp only [List.append_nil, List.mem_cons, List.cons_append, List.nil_append, List.not_mem_nil, or_false] at hx
      unfold initLed
      rcases hx with rfl | rfl | rfl | rfl | rfl | rfl | rfl | rfl | rfl | rfl
      · exact ⟨instObj 250 T.d, by simp, by show Value.ref 250 ≠ _; simp⟩
      · exact ⟨dictOf (treeEs w.params T) 8, by simp, by show Value.type "dict" ≠ _; simp⟩
      · exact ⟨oc, by simp, dict_cls hd'⟩
      all_goals exact ⟨LO [] 0, by simp, lo_cls⟩
    nd := by
      unfold treeAddrs TA.lists
      simp only [List.append_nil, List.cons_append, List.nil_append, List.nodup_cons, List.mem_cons, List.not_mem_nil, or_false, not_or, not_false_eq_true, List.nodup_nil, and_true]
      have ne : ∀ {a b : Addr}, @LT.lt Nat _ a b → ¬ a = b := fun h e => Nat.ne_of_lt h e
      have ne' : ∀ {a b : Addr}, @LT.lt Nat _ b a → ¬ a = b := fun h e => Nat.ne_of_lt h e.symm
      have qd_t := l1
      have qd_k := Nat.lt_trans qd_t l2
      have qd_s := Nat.lt_trans qd_k l3
      have qd_n := Nat.lt_trans qd_s l4
      have qd_a := Nat.lt_trans qd_n l5
      have qd_x := Nat.lt_trans qd_a l6
      have qd_p := Nat.lt_trans qd_x l7
      have qd_c := Nat.lt_trans qd_p l8
      have qd_ct := Nat.lt_trans qd_c l9
      have qt_k := l2
      have qt_s := Nat.lt_trans qt_k l3
      have qt_n := Nat.lt_trans qt_s l4
      have qt_a := Nat.lt_trans qt_n l5
      have qt_x := Nat.lt_trans qt_a l6
      have qt_p := Nat.lt_trans qt_x l7
      have qt_c := Nat.lt_trans qt_p l8
      have qt_ct := Nat.lt_trans qt_c l9
      have qk_s := l3
      have qk_n := Nat.lt_trans qk_s l4
      have qk_a := Nat.lt_trans qk_n l5
      have qk_x := Nat.lt_trans qk_a l6
      have qk_p := Nat.lt_trans qk_x l7
      have qk_c := Nat.lt_trans qk_p l8
      have qk_ct := Nat.lt_trans qk_c l9
      have qs_n := l4
      have qs_a := Nat.lt_trans qs_n l5
      have qs_x := Nat.lt_trans qs_a l6
      have qs_p := Nat.lt_trans qs_x l7
      have qs_c := Nat.lt_trans qs_p l8
      have qs_ct := Nat.lt_trans qs_c l9
      have qn_a := l5
      have qn_x := Nat.lt_trans qn_a l6
      have qn_p := Nat.lt_trans qn_x l7
      have qn_c := Nat.lt_trans qn_p l8
      have qn_ct := Nat.lt_trans qn_c l9
      have qa_x := l6
      have qa_p := Nat.lt_trans qa_x l7
      have qa_c := Nat.lt_trans qa_p l8
      have qa_ct := Nat.lt_trans qa_c l9
      have qx_p := l7
      have qx_c := Nat.lt_trans qx_p l8
      have qx_ct := Nat.lt_trans qx_c l9
      have qp_c := l8
      have qp_ct := Nat.lt_trans qp_c l9
      have qc_ct := l9
      exact ⟨⟨ne' qd_t, ne qt_ct, ne qt_k, ne qt_s, ne qt_n, ne qt_a, ne qt_x, ne qt_p, ne qt_c⟩, ⟨ne qd_ct, ne qd_k, ne qd_s, ne qd_n, ne qd_a, ne qd_x, ne qd_p, ne qd_c⟩, ⟨ne' qk_ct, ne' qs_ct, ne' qn_ct, ne' qa_ct, ne' qx_ct, ne' qp_ct, ne' qc_ct⟩, ⟨ne qk_s, ne qk_n, ne qk_a, ne qk_x, ne qk_p, ne qk_c⟩, ⟨ne qs_n, ne qs_a, ne qs_x, ne qs_p, ne qs_c⟩, ⟨ne qn_a, ne qn_x, ne qn_p, ne qn_c⟩, ⟨ne qa_x, ne qa_p, ne qa_c⟩, ⟨ne qx_p, ne qx_c⟩, ne qp_c⟩ }
section
variable {w : World} {loose : List Str} {mean : ExcName → Option Value} {mg mb : Str → Option Value} {dp un : Nat} {gd : Option (List Code)} {cn : Str} {cs : Scope} {a : Addr} {ccd : Value} {cl : List (Str × Addr)} {outer : List Env} {A₀ : Around} {base h₀ : Heap} {L : Addr} {m : Str → Option Value} {gh : Heap} {gn : Array GenState} {dr : Drawn} {tk0 : Nat} {os : OsState} {Q E : Value → Shared → Prop} {news : Led}
theorem tree_new_spec (C : Cx w loose mean mg mb outer A₀ base h₀ cs) (F : Fr h₀ L gh m) (N : News h₀ L gh news) (hp : 0 < tk0) (hdp : dp + 8 < recursionLimit) (hun : un + 64 < cLine)
  (hret : ∀ (T : TA) (a q : Addr) (news' : Led) (h' : Heap) (tk' : Nat), 0 < tk' → Fr h₀ L h' m → News h₀ L h' news' → Sub news news' → TreeC w news' T [a] [q] [docNd] → ContAt w news' T [docNd] → (∀ x ∈ treeAddrs T [a] [q], ∀ p ∈ news, @LT.lt Nat _ p.1 x) → Q (.ref T.t) ⟨h', gn, dr, tk', os⟩) :
  wpAny (model PySem.Challenge.rw_nz0091_01.row.prog w) (ktrTop dp un gd cn cs L a ccd cl outer) (call (.ref 250) []) Q E ⟨gh, gn, dr, tk0, os⟩ := by
  refine viaF fun hG9 => ?_
  obtain ⟨B, X, TT, hk⟩ := C
  refine hG9 ?_
  refine' enterCls (binds := fun x => [(PySem.Str.ofString "self", Value.ref x)]) B F X N TT hk hp (by ktr_room) ?hm ?hi ?hf ?ho ?hcd ?hb ?hl ?_ ?c1 ?c2 ?c3 ?c4
  case hm => k_is
  case hi => k_is
  case hf => k_is
  case ho => k_is
  case hcd => k_is
  case hb => intro x h; first | exact BindsTo.of_eq rfl | exact binds_K (by k_in) rfl (by k_is) rfl rfl rfl
  case hl => intro x; exact locs rfl
  case c1 => rfl
  case c2 => rfl
  case c3 => rfl
  case c4 => decide
  intro x dx g L₁ h₁ tk hp₁ l1 l2 FG F₁ N₁ B₁ X₁ T₁ A₁
  have lx : ∀ p ∈ news, @LT.lt Nat _ p.1 x := fun p hp => Nat.lt_trans (l1 p hp) l2
  k_steps
  unfold Stop
  rename News _ _ _ _ => N9
  rename Obj.IsDictOf (intKind _ _) _ _ => hd9
  refine viaF fun hG9 => ?_
  obtain ⟨T, oc, N8, hT, hd8, lo8, I8⟩ : ∃ (T : TA) (oc : Obj), News g L₁ _ (initLed w T oc news) ∧ T.t = x ∧ oc.IsDictOf (intKind PySem.Challenge.rw_nz0091_01.row.prog w) [] ∧ (T.ct == sysModules) = false ∧ InitOk T news :=
    ⟨⟨_, _, _, _, _, _, _, _, _, _, _, _, _, _, _, _, _, _⟩, _, N9, rfl, hd9, by assumption, ⟨l1, l2, by dsimp only; exact And.left (by assumption), by dsimp only; exact And.left (by assumption), by dsimp only; exact And.left (by assumption), by dsimp only; exact And.left (by assumption), by dsimp only; exact And.left (by assumption), by dsimp only; exact And.left (by assumption), by dsimp only; exact And.left (by assumption), by dsimp only; exact And.left (by assumption)⟩⟩
  refine hG9 ?_
  clear N9 hd9
  subst hT
  have R8 := init_tree I8 hd8 lo8
  refine' add1_spec (d := docNd) ?zzC ?zzF ?zzN ?zzp ?zzd ?zzu ?zzR ?zzro ?zzne ?zzsp ?zznm ?zztx ?zzhu ?zzpa ?_
  case zzC => tb_start
  case zzF => k_asm
  case zzN => k_asm
  case zzp => tb_rel
  case zzd => ktr_room
  case zzu => ktr_room
  case zzR => exact R8
  case zzro => decide
  case zzne => decide +kernel
  case zzsp => rfl
  case zznm => rfl
  case zztx => rfl
  case zzhu => rfl
  case zzpa => rfl
  intro a1 q1 NL t4 h4 tk4 hp4 F4 N4 R4 K4 fa4 fq4
  try dsimp only
  k_steps
  rename Fr _ _ _ _ => F9
  rename News _ _ _ _ => N9
  have hsub : Sub news NL := fun p hp' => K4 p (by unfold initLed; simp [hp']) (.inl fun hl => absurd (I8.all hp' _ (lists_sub hl)) (Nat.lt_irrefl _))
  refine hret T a1 q1 NL _ _ (by tb_rel) F9 (news_sub N9 (by ktr_unf)) hsub R4 ?_ ?_
  · refine viaF fun hG9 => ?_
    obtain ⟨o, h1, h2⟩ : ∃ o, (T.ct, o) ∈ NL ∧ o.IsDictOf (intKind PySem.Challenge.rw_nz0091_01.row.prog w) [] := ⟨oc, K4 _ (by unfold initLed; simp) (.inl R8.ct_not), hd8⟩
    refine hG9 ?_
    exact ⟨o, [], h1, h2, Nat.zero_le _, fun i => ⟨fun e he ht => by
      have he' : [docNd][i]? = some e := he
      cases i with
      | zero => have : e = docNd := by simpa using he'.symm
                subst this; exact absurd ht (by decide +kernel)
      | succ i => simp at he', fun _ => rfl⟩⟩
  · intro y hy p hp'
    by_cases hy0 : y ∈ treeAddrs T [] []
    · exact I8.all hp' y hy0
    · have hy2 : y = a1 ∨ y = q1 := by
        unfold treeAddrs at hy hy0
        simp only [List.mem_cons, List.mem_append, List.not_mem_nil, or_false, not_or] at hy hy0
        rcases hy with h | h | h | h | h | h
        · exact absurd h hy0.1
        · exact absurd h hy0.2.1
        · exact absurd h hy0.2.2.1
        · exact absurd h hy0.2.2.2
        · exact .inl h
        · exact .inr h
      rcases hy2 with rfl | rfl
      · exact fa4 p (by unfold initLed; simp [hp'])
      · exact fq4 p (by unfold initLed; simp [hp'])
end

noncomputable def PUp (nds : List Nd) : Prop := ∀ i d, nds[i]? = some d → d.parent = -1 ∨ ∃ j : Nat, d.parent = (j : Int) ∧ j < i
inductive AB9 (i : Nat) (b : Addr) (news : Led) (m₀ : Str → Option Value) (k : Nat) (m' : Str → Option Value) (nw : Led) : Prop
  | mk (vs : List Value) (is : List Nat) (n : Nat) (u : Int) (t : Tok) (h1 : nw = (b, LO vs n) :: news) (h2 : All2 IsNat vs is) (h3 : ∀ c ∈ is, c < i) (h4 : is.length + k ≤ i) (h5 : (u = -1 ∧ k = 0) ∨ (∃ j : Nat, u = (j : Int) ∧ k = j + 1 ∧ j < i))
    (h6 : ∀ y, m' y = (fun y : Str => if y = "up" then some (Value.int u t) else if y = "out" then some (Value.ref b) else m₀ y) y) : AB9 i b news m₀ k m' nw
section
local macro_rules (kind := PyProof.Rows.tacticWalk_at_) | x => call9 "call builtin:list.append" "appendU" 4 x
variable {w : World} {loose : List Str} {mean : ExcName → Option Value} {mg mb : Str → Option Value} {dp un : Nat} {gd : Option (List Code)} {cn : Str} {cs : Scope} {a : Addr} {ccd : Value} {cl : List (Str × Addr)} {outer : List Env} {A₀ : Around} {base h₀ : Heap} {L : Addr} {m : Str → Option Value} {gh : Heap} {gn : Array GenState} {dr : Drawn} {tk0 : Nat} {os : OsState} {Q E : Value → Shared → Prop} {news : Led}
theorem remove_spec {T : TA} {as qs : List Addr} {nds : List Nd} {i : Nat} {d : Nd} {ti : Tok} (C : Cx w loose mean mg mb outer A₀ base h₀ cs) (F : Fr h₀ L gh m) (N : News h₀ L gh news) (hp : 0 < tk0) (hdp : dp + 2 < recursionLimit) (hun : un + 16 < cLine)
  (R : TreeRep w news T as qs nds) (hi : nds[i]? = some d) (hpar : d.parent = -1)
  (hret : ∀ (h' : Heap) (tk' : Nat), 0 < tk' → Fr h₀ L h' m → News h₀ L h' news → Q .none ⟨h', gn, dr, tk', os⟩) :
  wpAny (model PySem.Challenge.rw_nz0091_01.row.prog w) (ktrTop dp un gd cn cs L a ccd cl outer) (call (.ref 212) [.ref T.t, .int (i : Int) ti]) Q E ⟨gh, gn, dr, tk0, os⟩ := by
  have hinst := R.inst
  have hdict := R.dict
  obtain ⟨_, hparent⟩ := R.parentAt hi
  rw [hpar] at hparent
  refine viaF fun hG9 => ?_
  obtain ⟨B, X, TT, hk⟩ := C
  refine hG9 ?_
  refine' enterP (binds := [(PySem.Str.ofString "self", Value.ref T.t), (PySem.Str.ofString "node", Value.int (i : Int) ti)]) B F X N TT hk hp (by ktr_room) ?ho ?hcd ?hb ?hl rfl ?_ ?c1 ?c2 ?c3 ?c4
  case ho => k_is
  case hcd => k_is
  case hb => first | exact BindsTo.of_eq rfl | exact hb _ _ _ _ (by k_is) | exact binds_K (by k_in) rfl (by k_is) rfl rfl rfl
  case hl => exact locs rfl
  case c1 => rfl
  case c2 => rfl
  case c3 => rfl
  case c4 => decide
  intro g L₁ h₁ tk hp₁ FG mm F₁ N₁ B₁ X₁ T₁ A₁ qk ek
  k_steps
  exact hret _ _ (by tb_rel) (by k_asm) (by k_asm)
theorem above_spec {T : TA} {as qs : List Addr} {nds : List Nd} {i : Nat} {d : Nd} {ti : Tok} (C : Cx w loose mean mg mb outer A₀ base h₀ cs) (F : Fr h₀ L gh m) (N : News h₀ L gh news) (hp : 0 < tk0) (hdp : dp + 2 < recursionLimit) (hun : un + 16 < cLine)
  (R : TreeRep w news T as qs nds) (PU : PUp nds) (hi : nds[i]? = some d)
  (hret : ∀ (b : Addr) (vs : List Value) (is : List Nat) (n : Nat) (h' : Heap) (tk' : Nat), 0 < tk' → All2 IsNat vs is → (∀ c ∈ is, c < i) → Fr h₀ L h' m → News h₀ L h' ((b, LO vs n) :: news) → Q (.ref b) ⟨h', gn, dr, tk', os⟩) :
  wpAny (model PySem.Challenge.rw_nz0091_01.row.prog w) (ktrTop dp un gd cn cs L a ccd cl outer) (call (.ref 261) [.ref T.t, .int (i : Int) ti]) Q E ⟨gh, gn, dr, tk0, os⟩ := by
  refine viaF fun hG9 => ?_
  have hinst := R.inst
  have hdict := R.dict
  have hil : i < 1000 := Nat.lt_of_lt_of_le (lt_of_get hi) R.room
  obtain ⟨_, hparent⟩ := R.parentAt hi
  have hpi := PU i d hi
  obtain ⟨B, X, TT, hk⟩ := C
  refine hG9 ?_
  refine' enterP (binds := [(PySem.Str.ofString "tree", Value.ref T.t), (PySem.Str.ofString "node", Value.int (i : Int) ti)]) B F X N TT hk hp (by ktr_room) ?ho ?hcd ?hb ?hl rfl ?_ ?c1 ?c2 ?c3 ?c4
  case ho => k_is
  case hcd => k_is
  case hb => first | exact BindsTo.of_eq rfl | exact hb _ _ _ _ (by k_is) | exact binds_K (by k_in) rfl (by k_is) rfl rfl rfl
  case hl => exact locs rfl
  case c1 => rfl
  case c2 => rfl
  case c3 => rfl
  case c4 => decide
  intro g L₁ h₁ tk hp₁ FG mm F₁ N₁ B₁ X₁ T₁ A₁ qk ek
  k_steps
  unfold Stop
  rename Fr _ _ _ _ => F9
  rename News _ _ _ _ => N9
  refine viaF fun hG9 => ?_
  obtain ⟨b, up0, F8, N8, hb⟩ : ∃ b up0, Fr g L₁ _ (fun y => if y = "up" then some (Value.int d.parent up0) else if y = "out" then some (Value.ref b) else List.lookup y [(PySem.Str.ofString "tree", Value.ref T.t), (PySem.Str.ofString "node", Value.int (i : Int) ti)].reverse) ∧ News g L₁ _ ((b, LO [] 0) :: news) ∧ ∀ p ∈ news, p.1 ≠ b := ⟨_, _, F9, N9, by k_all⟩
  obtain ⟨k0, hk0, hk1⟩ : ∃ k : Nat, ((d.parent = -1 ∧ k = 0) ∨ (∃ j : Nat, d.parent = (j : Int) ∧ k = j + 1 ∧ j < i)) ∧ k ≤ i := by
    rcases hpi with h | ⟨j, h, hj⟩
    · exact ⟨0, .inl ⟨h, rfl⟩, Nat.zero_le _⟩
    · exact ⟨j + 1, .inr ⟨j, h, rfl, hj⟩, hj⟩
  refine hG9 ?_
  refine whileS (k := k0) F8 N8 (by tb_rel)
    (AB9 i b news (List.lookup · [(PySem.Str.ofString "tree", Value.ref T.t), (PySem.Str.ofString "node", Value.int (i : Int) ti)].reverse))
    ⟨[], [], 0, d.parent, up0, rfl, .nil, by simp, by simpa using hk1, hk0, fun _ => rfl⟩ ?_
  clear F9 N9 F8 N8
  rintro k m' nw h tk ⟨vs, is, n, u, t, rfl, hvs, his, hkl, hu, hm'⟩ hpk F6 N6
  rw [funext hm'] at F6
  have hvl := hvs.length
  rcases hu with ⟨rfl, rfl⟩ | ⟨j, rfl, rfl, hj⟩
  · k_steps
    rename Fr _ _ _ _ => F9
    rename News _ _ _ _ => N9
    exact hret b vs is n _ _ (by tb_rel) hvs his F9 N9
  · refine viaF fun hG9 => ?_
    obtain ⟨e, he⟩ : ∃ e, nds[j]? = some e := ⟨nds[j]'(Nat.lt_trans hj (lt_of_get hi)), by simp⟩
    obtain ⟨tp2, hparent2⟩ := R.parentAt he
    have hpj := PU j e he
    have hv9 : vs.length ≤ 1000 := eqLe hvl (Nat.le_trans (Nat.le_add_right _ _) (Nat.le_trans hkl (Nat.le_of_lt hil)))
    refine hG9 ?_
    k_steps
    · rename Fr _ _ _ _ => F9
      rename News _ _ _ _ => N9
      refine viaF fun hG9 => ?_
      obtain ⟨k2, hk2, hk3⟩ : ∃ k : Nat, ((e.parent = -1 ∧ k = 0) ∨ (∃ l : Nat, e.parent = (l : Int) ∧ k = l + 1 ∧ l < i)) ∧ k ≤ j := by
        rcases hpj with h | ⟨l, h, hl⟩
        · exact ⟨0, .inl ⟨h, rfl⟩, Nat.zero_le _⟩
        · exact ⟨l + 1, .inr ⟨l, h, rfl, Nat.lt_trans hl hj⟩, hl⟩
      refine hG9 ?_
      refine turnW_next F9 N9 (k' := k2) (Nat.lt_succ_of_le hk3) ⟨_, is ++ [j], _, e.parent, tp2, rfl, hvs.snoc ⟨_, rfl⟩, ?_, by simp; omega, hk2, fun y => ?_⟩
      · intro c hc
        rcases List.mem_append.mp hc with hc | hc
        · exact his c hc
        · rw [List.mem_singleton.mp hc]; exact hj
      · by_cases h1 : y = "up"
        · subst h1; rfl
        · simp +zetaDelta only [if_neg h1]
    all_goals omega
end

local macro_rules (kind := PyProof.Rows.tacticWalk_at_) | x => call9 "call ref" "remove_spec" 9 x
local macro_rules (kind := PyProof.Rows.tacticWalk_at_) | x => call9 "call ref" "above_spec" 9 x

section
variable {prog : Program} {w : World} {A : Around} {E : Value → Shared → Prop} {gh : Heap} {gn : Array GenState} {dr : Drawn} {tk0 : Nat} {os : OsState} {h₀ : Heap} {L D : Addr} {m : Str → Option Value} {news : Led} {n : Nat}
theorem inNo {vs : List Value} {is : List Nat} {k i : Nat} {t : Tok} {Q : Value → Shared → Prop} (N : News h₀ L gh news) (hm : (D, LO vs n) ∈ news) (hi : All2 IsNat vs is) (hk : ∀ c ∈ is, c < i) (hik : i ≤ k) (h : Q (.bool false) ⟨gh, gn, dr, tk0, os⟩) :
    wpAny (model prog w) A (compareOp .In (.int (k : Int) t) (.ref D)) Q E ⟨gh, gn, dr, tk0, os⟩ :=
  inL N hm hi (by rw [decide_eq_false (fun hc => by have := hk k hc; omega)]; exact h)
theorem notInNo {vs : List Value} {is : List Nat} {k : Nat} {t : Tok} {Q : Value → Shared → Prop} (N : News h₀ L gh news) (hm : (D, LO vs n) ∈ news) (hi : All2 IsNat vs is) (hk : k ∈ is) (h : Q (.bool false) ⟨gh, gn, dr, tk0, os⟩) :
    wpAny (model prog w) A (compareOp .NotIn (.int (k : Int) t) (.ref D)) Q E ⟨gh, gn, dr, tk0, os⟩ :=
  notInL N hm hi (by rw [decide_eq_true hk]; exact h)
end
noncomputable def insNds (nds : List Nd) (p j node : Nat) (dp dn : Nd) : List Nd := (nds.set p { dp with under := insNat dp.under j node }).set node { dn with parent := (p : Int) }
section
variable {nds : List Nd} {p j node : Nat} {dp dn : Nd}
theorem set_map {α β : Type} (f : α → β) (l : List α) (i : Nat) (x y : α) (hx : l[i]? = some y) (h : f x = f y) : (l.set i x).map f = l.map f := by
  apply List.ext_getElem?
  intro k
  rw [List.getElem?_map, List.getElem?_map, List.getElem?_set]
  by_cases e : i = k
  · subst e
    have := lt_of_get hx
    simp [this, hx, h]
    have h2 : l[i] = y := by have := List.getElem?_eq_getElem this; rw [hx] at this; exact (Option.some.inj this).symm
    rw [h2]
  · rw [if_neg e]
theorem ins_at (hp : nds[p]? = some dp) (hn : nds[node]? = some dn) (hne : p ≠ node) (i : Nat) : (insNds nds p j node dp dn)[i]? = if i = node then some { dn with parent := (p : Int) } else if i = p then some { dp with under := insNat dp.under j node } else nds[i]? := by
  unfold insNds
  have h1 := lt_of_get hp
  have h2 := lt_of_get hn
  rw [List.getElem?_set]
  by_cases e : node = i
  · subst e; simp [h2]
  · have e' : ¬ i = node := fun q => e q.symm
    rw [if_neg e, if_neg e', List.getElem?_set]
    by_cases f : p = i
    · subst f; simp [h1]
    · have f' : ¬ i = p := fun q => f q.symm
      rw [if_neg f, if_neg f']
theorem ins_len : (insNds nds p j node dp dn).length = nds.length := by unfold insNds; simp
theorem ins_map {β : Type} (f : Nd → β) (hp : nds[p]? = some dp) (hn : nds[node]? = some dn) (hne : p ≠ node) (h1 : ∀ d u, f { d with under := u } = f d) (h2 : ∀ d q, f { d with parent := q } = f d) : (insNds nds p j node dp dn).map f = nds.map f := by
  unfold insNds
  rw [set_map f _ node _ dn (by rw [List.getElem?_set, if_neg hne]; exact hn) (h2 _ _), set_map f _ p _ dp hp (h1 _ _)]
theorem ins_parent (hp : nds[p]? = some dp) : (insNds nds p j node dp dn).map Nd.parent = (nds.map Nd.parent).set node (p : Int) := by
  unfold insNds
  rw [List.map_set]
  exact congrArg (fun l => List.set l node (p : Int)) (set_map Nd.parent nds p _ dp hp rfl)
theorem ContOk.ins {kvs : List (Int × Value)} (h : ContOk kvs nds) (hp : nds[p]? = some dp) (hn : nds[node]? = some dn) (hne : p ≠ node) : ContOk kvs (insNds nds p j node dp dn) := fun i => by
  have key : ∀ d', (insNds nds p j node dp dn)[i]? = some d' → ∃ d, nds[i]? = some d ∧ d.isTem = d'.isTem := fun d' hd' => by
    rw [ins_at hp hn hne] at hd'
    by_cases e : i = node
    · subst e; rw [if_pos rfl] at hd'; cases hd'; exact ⟨dn, hn, rfl⟩
    · rw [if_neg e] at hd'
      by_cases f : i = p
      · subst f; rw [if_pos rfl] at hd'; cases hd'; exact ⟨dp, hp, rfl⟩
      · rw [if_neg f] at hd'; exact ⟨d', hd', rfl⟩
  have key2 : ∀ d, nds[i]? = some d → ∃ d', (insNds nds p j node dp dn)[i]? = some d' ∧ d'.isTem = d.isTem := fun d hd => by
    rw [ins_at hp hn hne]
    by_cases e : i = node
    · subst e; rw [hn] at hd; cases hd; exact ⟨_, if_pos rfl, rfl⟩
    · by_cases f : i = p
      · subst f; rw [hp] at hd; cases hd; exact ⟨{ dp with under := insNat dp.under j node }, by rw [if_neg e, if_pos rfl], rfl⟩
      · exact ⟨d, by rw [if_neg e, if_neg f]; exact hd, rfl⟩
  refine ⟨fun d hd ht => ?_, fun hn' => ?_⟩
  · obtain ⟨d0, h0, h1⟩ := key d hd
    exact (h i).1 d0 h0 (h1 ▸ ht)
  · refine (h i).2 fun d hd => ?_
    obtain ⟨d', h0, h1⟩ := key2 d hd
    rw [← h1]; exact hn' d' h0
end
section
variable {w : World} {h₀ h : Heap} {L : Addr} {news : Led} {T : TA} {as qs : List Addr} {nds : List Nd} {p j node : Nat} {dp dn : Nd} {q : Addr} {vu vu' vp : List Value} {nu nu' np np' : Nat} {t : Tok}
theorem TreeC.moved (R : TreeC w news T as qs nds) (N : News h₀ L h news) (hp : nds[p]? = some dp) (hn : nds[node]? = some dn) (hne : p ≠ node) (hq : qs[p]? = some q) (hvu : (q, LO vu nu) ∈ news) (hus : All2 IsNat vu' (insNat dp.under j node)) (hvp : (T.p, LO vp np) ∈ news) (hps : All2 IsInt vp (nds.map Nd.parent)) :
    TreeC w (setL T.p (LO (vp.set node (.int (p : Int) t)) np') (setL q (LO vu' nu') news)) T as qs (insNds nds p j node dp dn) ∧ Keep (T.p :: qs) news (setL T.p (LO (vp.set node (.int (p : Int) t)) np') (setL q (LO vu' nu') news)) := by
  have nd := R.nd
  unfold treeAddrs at nd
  have h1 := List.nodup_cons.mp nd
  have h2 := List.nodup_cons.mp h1.2
  have h3 := List.nodup_cons.mp h2.2
  have h4 := List.nodup_append.mp h3.2
  have h5 := List.nodup_append.mp h4.2.1
  have hqm : q ∈ qs := List.mem_of_getElem? hq
  have hqa : q ∈ as ++ qs := List.mem_append_right _ hqm
  have hpl : T.p ∈ T.lists := by unfold TA.lists; simp
  have lq : ∀ x ∈ T.lists, x ≠ q := fun x hx e => h4.2.2 x hx q hqa e
  have hTq : T.p ≠ q := lq _ hpl
  have ht1 : T.t ≠ q := fun e => h1.1 (e ▸ List.mem_cons_of_mem _ (List.mem_cons_of_mem _ (List.mem_append_right _ hqa)))
  have hd1 : T.d ≠ q := fun e => h2.1 (e ▸ List.mem_cons_of_mem _ (List.mem_append_right _ hqa))
  have ht2 : T.t ≠ T.p := fun e => h1.1 (e ▸ List.mem_cons_of_mem _ (List.mem_cons_of_mem _ (List.mem_append_left _ hpl)))
  have hd2 : T.d ≠ T.p := fun e => h2.1 (e ▸ List.mem_cons_of_mem _ (List.mem_append_left _ hpl))
  have K : Keep [T.p, q] news (setL T.p (LO (vp.set node (.int (p : Int) t)) np') (setL q (LO vu' nu') news)) := by
    rintro ⟨x, o⟩ hx hc
    have hx2 : x ≠ T.p ∧ x ≠ q := by
      rcases hc with hc | hc
      · simp only [List.mem_cons, List.not_mem_nil, or_false, not_or] at hc; exact hc
      · exact ⟨R.tup_ne N hx hc _ (lists_sub hpl), R.tup_ne N hx hc _ (List.mem_cons_of_mem _ (List.mem_cons_of_mem _ (List.mem_cons_of_mem _ (List.mem_append_right _ hqa))))⟩
    exact setL_ne hx2.1 (setL_ne hx2.2 hx)
  have k : ∀ x, x ≠ T.p → x ≠ q → ∀ o, (x, o) ∈ news → (x, o) ∈ setL T.p (LO (vp.set node (.int (p : Int) t)) np') (setL q (LO vu' nu') news) := fun x a b o hx => setL_ne a (setL_ne b hx)
  obtain ⟨n11, n12, n13, n14, n15, n16, n21, n22, n23, n24, n25, n31, n32, n33, n34, n41, n42, n43, n51, n52, n61⟩ := R.nes
  have aq : ∀ x ∈ as, x ≠ T.p ∧ x ≠ q := fun x hx => ⟨fun e => h4.2.2 _ hpl _ (List.mem_append_left _ hx) e.symm, fun e => h5.2.2 _ hx _ hqm e⟩
  refine ⟨?_, K.wide fun x hx => ?_⟩
  · exact {
      inst := k _ ht2 ht1 _ R.inst
      dict := k _ hd2 hd1 _ R.dict
      kinds := let ⟨vs, n, h, r⟩ := R.kinds; ⟨vs, n, k _ n15 (lq _ (by unfold TA.lists; simp)) _ h, by rw [ins_map _ hp hn hne (fun _ _ => rfl) (fun _ _ => rfl)]; exact r⟩
      spaces := let ⟨vs, n, h, r⟩ := R.spaces; ⟨vs, n, k _ n24 (lq _ (by unfold TA.lists; simp)) _ h, by rw [ins_map _ hp hn hne (fun _ _ => rfl) (fun _ _ => rfl)]; exact r⟩
      names := let ⟨vs, n, h, r⟩ := R.names; ⟨vs, n, k _ n33 (lq _ (by unfold TA.lists; simp)) _ h, by rw [ins_map _ hp hn hne (fun _ _ => rfl) (fun _ _ => rfl)]; exact r⟩
      texts := let ⟨vs, n, h, r⟩ := R.texts; ⟨vs, n, k _ n51 (lq _ (by unfold TA.lists; simp)) _ h, by rw [ins_map _ hp hn hne (fun _ _ => rfl) (fun _ _ => rfl)]; exact r⟩
      parents := ⟨_, np', setL_self (setL_ne hTq hvp), by rw [ins_parent hp]; exact hps.set ⟨t, rfl⟩ node⟩
      attrs := let ⟨n, h⟩ := R.attrs; ⟨n, k _ n42 (lq _ (by unfold TA.lists; simp)) _ h⟩
      alen := by rw [ins_len]; exact R.alen
      attr := fun i d a e1 e2 e3 => by
        have ha := aq a (List.mem_of_getElem? e2)
        have hK : a ∉ [T.p, q] := by simp [ha.1, ha.2]
        rw [ins_at hp hn hne] at e1
        by_cases e : i = node
        · rw [if_pos e] at e1; cases e1
          exact (R.attr i dn a (e ▸ hn) e2 e3).keep K hK
        · rw [if_neg e] at e1
          by_cases f : i = p
          · rw [if_pos f] at e1; cases e1
            exact (R.attr i dp a (f ▸ hp) e2 e3).keep K hK
          · rw [if_neg f] at e1
            exact (R.attr i d a e1 e2 e3).keep K hK
      kids := let ⟨n, h⟩ := R.kids; ⟨n, k _ n61.symm (lq _ (by unfold TA.lists; simp)) _ h⟩
      klen := by rw [ins_len]; exact R.klen
      kid := fun i d q' e1 e2 => by
        have hqp : q' ≠ T.p := fun e => h4.2.2 _ hpl _ (List.mem_append_right _ (List.mem_of_getElem? e2)) e.symm
        rw [ins_at hp hn hne] at e1
        have other : i ≠ p → q' ≠ q := fun f e => f (by
          have a1 := lt_of_get e2
          have b1 := lt_of_get hq
          have a2 : qs[i] = q' := by have := List.getElem?_eq_getElem a1; rw [e2] at this; exact (Option.some.inj this).symm
          have b2 : qs[p] = q := by have := List.getElem?_eq_getElem b1; rw [hq] at this; exact (Option.some.inj this).symm
          exact (List.getElem_inj h5.2.1).mp (a2.trans (e.trans b2.symm)))
        by_cases e : i = node
        · rw [if_pos e] at e1; cases e1
          obtain ⟨vs, n, m1, m2⟩ := R.kid i dn q' (e ▸ hn) e2
          exact ⟨vs, n, k _ hqp (other (fun f => hne (f.symm.trans e))) _ m1, m2⟩
        · rw [if_neg e] at e1
          by_cases f : i = p
          · rw [if_pos f] at e1; cases e1
            subst f
            rw [hq] at e2; cases e2
            exact ⟨vu', nu', setL_ne hTq.symm (setL_self hvu), hus⟩
          · rw [if_neg f] at e1
            obtain ⟨vs, n, m1, m2⟩ := R.kid i d q' e1 e2
            exact ⟨vs, n, k _ hqp (other f) _ m1, m2⟩
      lo := R.lo
      room := by rw [ins_len]; exact R.room
      has := fun x hx => by
        by_cases e : x = T.p
        · subst e; exact ⟨_, setL_self (setL_ne hTq hvp), lo_cls⟩
        · by_cases f : x = q
          · subst f; exact ⟨_, setL_ne hTq.symm (setL_self hvu), lo_cls⟩
          · obtain ⟨o, hm, hc⟩ := R.has x hx; exact ⟨o, k x e f o hm, hc⟩
      nd := R.nd }
  · simp only [List.mem_cons, List.not_mem_nil, or_false] at hx
    rcases hx with rfl | rfl
    · exact List.mem_cons_self ..
    · exact List.mem_cons_of_mem _ hqm
end

theorem nat_ne {a b : Nat} (h : a ≠ b) : (a : Int) ≠ (b : Int) := by omega
theorem nat_ne1 (a : Nat) : (a : Int) ≠ -1 := by omega
section
variable {w : World} {news : Led} {T : TA} {as qs : List Addr} {nds : List Nd} {p : Nat} {q : Addr}
theorem TreeC.kid_ne (R : TreeC w news T as qs nds) (hq : qs[p]? = some q) : (@Ne Nat T.p q) ∧ (@Ne Nat T.c q) ∧ (@Ne Nat T.t q ∧ @Ne Nat T.d q) := by
  have nd := R.nd
  unfold treeAddrs at nd
  have h1 := List.nodup_cons.mp nd
  have h2 := List.nodup_cons.mp h1.2
  have h3 := List.nodup_cons.mp h2.2
  have h4 := List.nodup_append.mp h3.2
  have hqa : q ∈ as ++ qs := List.mem_append_right _ (List.mem_of_getElem? hq)
  exact ⟨fun e => h4.2.2 _ (by unfold TA.lists; simp) q hqa e, fun e => h4.2.2 _ (by unfold TA.lists; simp) q hqa e, fun e => h1.1 (e ▸ List.mem_cons_of_mem _ (List.mem_cons_of_mem _ (List.mem_append_right _ hqa))), fun e => h2.1 (e ▸ List.mem_cons_of_mem _ (List.mem_append_right _ hqa))⟩
theorem TreeC.ct_moved (R : TreeC w news T as qs nds) : T.ct ∉ T.p :: qs := by
  have nd := R.nd
  unfold treeAddrs at nd
  have h3 := (List.nodup_cons.mp (List.nodup_cons.mp (List.nodup_cons.mp nd).2).2).1
  intro h
  rcases List.mem_cons.mp h with h | h
  · exact h3 (h ▸ List.mem_append_left _ (by unfold TA.lists; simp))
  · exact h3 (List.mem_append_right _ (List.mem_append_right _ h))
theorem setL2_sub {a b : Addr} {x y : Obj} {p : Addr × Obj} {news : Led} : Sub (setL a x (setL b y news)) (setL a x (setL b y (p :: news))) := fun q hq => by
  unfold setL at hq ⊢
  rw [List.map_cons, List.map_cons]; exact List.mem_cons_of_mem _ hq
end

local macro_rules (kind := PyProof.Rows.tacticWalk_at_) | x => side9 "compareOp In int ref" "inNo" 5 x
local macro_rules (kind := PyProof.Rows.tacticWalk_at_) | x => side9 "compareOp NotIn int ref" "notInNo" 4 x
local macro_rules (kind := PyProof.Rows.tacticWalk_at_) | x => side9 "call builtin:list.index" "indexL" 6 x
local macro_rules (kind := PyProof.Rows.tacticWalk_at_) | x => call9 "call builtin:list.insert" "insertL" 5 x

section
variable {w : World} {loose : List Str} {mean : ExcName → Option Value} {mg mb : Str → Option Value} {dp un : Nat} {gd : Option (List Code)} {cn : Str} {cs : Scope} {a : Addr} {ccd : Value} {cl : List (Str × Addr)} {outer : List Env} {A₀ : Around} {base h₀ : Heap} {L : Addr} {m : Str → Option Value} {gh : Heap} {gn : Array GenState} {dr : Drawn} {tk0 : Nat} {os : OsState} {Q E : Value → Shared → Prop} {news : Led}
theorem insertG_spec {T : TA} {as qs : List Addr} {nds : List Nd} {p node j : Nat} {ep en : Nd} {t1 t2 tb : Tok} {args : List Value} (C : Cx w loose mean mg mb outer A₀ base h₀ cs) (F : Fr h₀ L gh m) (N : News h₀ L gh news) (hp : 0 < tk0) (hdp : dp + 4 < recursionLimit) (hun : un + 32 < cLine)
  (R : TreeC w news T as qs nds) (CA : ContAt w news T nds) (PU : PUp nds) (hp' : nds[p]? = some ep) (hn : nds[node]? = some en) (hpn : p < node) (hdn : en.parent = -1) (hnd : ep.under.Nodup) (hul : ep.under.length ≤ 1000) (hj : j = ep.under.length)
  (hb : ∀ fn oc od osl, (K0 w.params).lookup 198 = some ⟨oc, od, .func fn, osl⟩ → BindsTo ⟨gh, gn, dr, tk0, os⟩ fn ⟨.ref T.t :: args, []⟩ [(PySem.Str.ofString "self", Value.ref T.t), (PySem.Str.ofString "parent", Value.int (p : Int) t1), (PySem.Str.ofString "node", Value.int (node : Int) t2), (PySem.Str.ofString "before", Value.int (-1) tb)])
  (hret : ∀ (news' : Led) (h' : Heap) (tk' : Nat), 0 < tk' → Fr h₀ L h' m → News h₀ L h' news' → TreeC w news' T as qs (insNds nds p j node ep en) → ContAt w news' T (insNds nds p j node ep en) → Keep (T.p :: qs) news news' → Q .none ⟨h', gn, dr, tk', os⟩) :
  wpAny (model PySem.Challenge.rw_nz0091_01.row.prog w) (ktrTop dp un gd cn cs L a ccd cl outer) (call (.ref 198) (.ref T.t :: args)) Q E ⟨gh, gn, dr, tk0, os⟩ := by
  refine wpAny_pos hp ?_
  refine viaF fun hG9 => ?_
  have RR := R.rep CA
  have hinst := R.inst
  have hdict := R.dict
  have hpl : p < 2 ^ 62 := Nat.lt_trans (Nat.lt_of_lt_of_le (lt_of_get hp') R.room) (by decide)
  obtain ⟨q, hq⟩ : ∃ q, qs[p]? = some q := ⟨qs[p]'(R.klen ▸ lt_of_get hp'), by simp⟩
  obtain ⟨nk, hkids⟩ := R.kids
  have hitem := refAt hkids hq hpl
  obtain ⟨vu, nu, hvu, hus⟩ := R.kid _ _ _ hp' hq
  obtain ⟨vp, np, hvp, hps⟩ := R.parents
  have hvl := hus.length
  have hpll := hps.length
  refine hG9 ?_
  rw [List.length_map] at hpll
  refine viaF fun hG9 => ?_
  have hroom := R.room
  have hnl := lt_of_get hn
  have hqm : q ∈ treeAddrs T as qs := List.mem_cons_of_mem _ (List.mem_cons_of_mem _ (List.mem_cons_of_mem _ (List.mem_append_right _ (List.mem_append_right _ (List.mem_of_getElem? hq)))))
  obtain ⟨n11, n12, n13, n14, n15, n16, n21, n22, n23, n24, n25, n31, n32, n33, n34, n41, n42, n43, n51, n52, n61⟩ := R.nes
  obtain ⟨hq1, hq2, hq3, hq4⟩ := R.kid_ne hq
  have hne1 : (node : Int) ≠ (p : Int) := nat_ne (Nat.ne_of_gt hpn)
  have hne2 : (-1 : Int) ≠ (node : Int) := fun e => nat_ne1 node e.symm
  obtain ⟨B, X, TT, hk⟩ := C
  refine hG9 ?_
  refine' enterP (binds := [(PySem.Str.ofString "self", Value.ref T.t), (PySem.Str.ofString "parent", Value.int (p : Int) t1), (PySem.Str.ofString "node", Value.int (node : Int) t2), (PySem.Str.ofString "before", Value.int (-1) tb)]) B F X N TT hk hp (by ktr_room) ?ho ?hcd ?hb ?hl rfl ?_ ?c1 ?c2 ?c3 ?c4
  case ho => k_is
  case hcd => k_is
  case hb => first | exact BindsTo.of_eq rfl | exact hb _ _ _ _ (by k_is) | exact binds_K (by k_in) rfl (by k_is) rfl rfl rfl
  case hl => exact locs rfl
  case c1 => rfl
  case c2 => rfl
  case c3 => rfl
  case c4 => decide
  intro g L₁ h₁ tk hp₁ FG mm F₁ N₁ B₁ X₁ T₁ A₁ qk ek
  k_steps
  all_goals first
    | exact absurd (show (node : Int) = (p : Int) by assumption) hne1
    | exact absurd (show (-1 : Int) = (node : Int) by assumption) hne2
    | skip
  rename Fr _ _ _ _ => F9
  rename News _ _ _ _ => N9
  have hus9 : All2 IsNat (kl_ins vu (vu.length : Int) (.int (node : Int) t2)) (insNat ep.under j node) := by rw [hj, ← hvl]; exact kl_ins_nat hus (by rw [hvl]; exact Nat.le_refl _)
  obtain ⟨R9, K9⟩ := R.moved (t := t1) (np' := np) (nu' := nu + 1) N hp' hn (Nat.ne_of_lt hpn) hq hvu hus9 hvp hps
  refine hret _ _ _ ?zp F9 (news_sub N9 setL2_sub) R9 ?_ K9
  case zp => first | assumption | omega
  refine viaF fun hG9 => ?_
  obtain ⟨oc, kvs, h1, h2, h3, h4⟩ := CA.keep K9 R.ct_moved
  refine hG9 ?_
  exact ⟨oc, kvs, h1, h2, by rw [ins_len]; exact h3, h4.ins hp' hn (Nat.ne_of_lt hpn)⟩
theorem insertN_spec {T : TA} {as qs : List Addr} {nds : List Nd} {p node j : Nat} {ep en : Nd} {t1 t2 : Tok} {tb : Tok} (C : Cx w loose mean mg mb outer A₀ base h₀ cs) (F : Fr h₀ L gh m) (N : News h₀ L gh news) (hp : 0 < tk0) (hdp : dp + 4 < recursionLimit) (hun : un + 32 < cLine)
  (R : TreeC w news T as qs nds) (CA : ContAt w news T nds) (PU : PUp nds) (hp' : nds[p]? = some ep) (hn : nds[node]? = some en) (hpn : p < node) (hdn : en.parent = -1) (hnd : ep.under.Nodup) (hul : ep.under.length ≤ 1000) (hj : j = ep.under.length)
  (hret : ∀ (news' : Led) (h' : Heap) (tk' : Nat), 0 < tk' → Fr h₀ L h' m → News h₀ L h' news' → TreeC w news' T as qs (insNds nds p j node ep en) → ContAt w news' T (insNds nds p j node ep en) → Keep (T.p :: qs) news news' → Q .none ⟨h', gn, dr, tk', os⟩) :
  wpAny (model PySem.Challenge.rw_nz0091_01.row.prog w) (ktrTop dp un gd cn cs L a ccd cl outer) (call (.ref 198) [.ref T.t, .int (p : Int) t1, .int (node : Int) t2, .int (-1) tb]) Q E ⟨gh, gn, dr, tk0, os⟩ := by
  exact insertG_spec (tb := tb) C F N hp hdp hun R CA PU hp' hn hpn hdn hnd hul hj (by
    intro fn oc od osl e
    refine' bindsAt ?e1 e ?e2
    case e1 => k_is
    case e2 => first | exact BindsTo.of_eq rfl | exact binds_K (C.X.keeps F.keep) rfl (by k_is) rfl rfl rfl) hret
end

section
variable {w : World} {loose : List Str} {mean : ExcName → Option Value} {mg mb : Str → Option Value} {dp un : Nat} {gd : Option (List Code)} {cn : Str} {cs : Scope} {a : Addr} {ccd : Value} {cl : List (Str × Addr)} {outer : List Env} {A₀ : Around} {base h₀ : Heap} {L : Addr} {m : Str → Option Value} {gh : Heap} {gn : Array GenState} {dr : Drawn} {tk0 : Nat} {os : OsState} {Q E : Value → Shared → Prop} {news : Led}
theorem insertB_spec {T : TA} {as qs : List Addr} {nds : List Nd} {p node j : Nat} {ep en : Nd} {t1 t2 : Tok} {b : Nat} {tb : Tok} (C : Cx w loose mean mg mb outer A₀ base h₀ cs) (F : Fr h₀ L gh m) (N : News h₀ L gh news) (hp : 0 < tk0) (hdp : dp + 4 < recursionLimit) (hun : un + 32 < cLine)
  (R : TreeC w news T as qs nds) (CA : ContAt w news T nds) (PU : PUp nds) (hp' : nds[p]? = some ep) (hn : nds[node]? = some en) (hpn : p < node) (hdn : en.parent = -1) (hnd : ep.under.Nodup) (hul : ep.under.length ≤ 1000) (hj : ep.under[j]? = some b) (hbn : b ≠ node)
  (hret : ∀ (news' : Led) (h' : Heap) (tk' : Nat), 0 < tk' → Fr h₀ L h' m → News h₀ L h' news' → TreeC w news' T as qs (insNds nds p j node ep en) → ContAt w news' T (insNds nds p j node ep en) → Keep (T.p :: qs) news news' → Q .none ⟨h', gn, dr, tk', os⟩) :
  wpAny (model PySem.Challenge.rw_nz0091_01.row.prog w) (ktrTop dp un gd cn cs L a ccd cl outer) (call (.ref 198) [.ref T.t, .int (p : Int) t1, .int (node : Int) t2, .int (b : Int) tb]) Q E ⟨gh, gn, dr, tk0, os⟩ := by
  refine wpAny_pos hp ?_
  refine viaF fun hG9 => ?_
  have RR := R.rep CA
  have hinst := R.inst
  have hdict := R.dict
  have hpl : p < 2 ^ 62 := Nat.lt_trans (Nat.lt_of_lt_of_le (lt_of_get hp') R.room) (by decide)
  obtain ⟨q, hq⟩ : ∃ q, qs[p]? = some q := ⟨qs[p]'(R.klen ▸ lt_of_get hp'), by simp⟩
  obtain ⟨nk, hkids⟩ := R.kids
  have hitem := refAt hkids hq hpl
  obtain ⟨vu, nu, hvu, hus⟩ := R.kid _ _ _ hp' hq
  obtain ⟨vp, np, hvp, hps⟩ := R.parents
  have hvl := hus.length
  have hpll := hps.length
  refine hG9 ?_
  rw [List.length_map] at hpll
  refine viaF fun hG9 => ?_
  have hroom := R.room
  have hnl := lt_of_get hn
  have hqm : q ∈ treeAddrs T as qs := List.mem_cons_of_mem _ (List.mem_cons_of_mem _ (List.mem_cons_of_mem _ (List.mem_append_right _ (List.mem_append_right _ (List.mem_of_getElem? hq)))))
  obtain ⟨n11, n12, n13, n14, n15, n16, n21, n22, n23, n24, n25, n31, n32, n33, n34, n41, n42, n43, n51, n52, n61⟩ := R.nes
  obtain ⟨hq1, hq2, hq3, hq4⟩ := R.kid_ne hq
  have hbm := List.mem_of_getElem? hj
  have hjl := lt_of_get hj
  have hne1 : (node : Int) ≠ (p : Int) := nat_ne (Nat.ne_of_gt hpn)
  have hne2 : (b : Int) ≠ (node : Int) := nat_ne hbn
  have hne3 : (b : Int) ≠ -1 := nat_ne1 b
  obtain ⟨B, X, TT, hk⟩ := C
  refine hG9 ?_
  refine' enterP (binds := [(PySem.Str.ofString "self", Value.ref T.t), (PySem.Str.ofString "parent", Value.int (p : Int) t1), (PySem.Str.ofString "node", Value.int (node : Int) t2), (PySem.Str.ofString "before", Value.int (b : Int) tb)]) B F X N TT hk hp (by ktr_room) ?ho ?hcd ?hb ?hl rfl ?_ ?c1 ?c2 ?c3 ?c4
  case ho => k_is
  case hcd => k_is
  case hb => first | exact BindsTo.of_eq rfl | exact hb _ _ _ _ (by k_is) | exact binds_K (by k_in) rfl (by k_is) rfl rfl rfl
  case hl => exact locs rfl
  case c1 => rfl
  case c2 => rfl
  case c3 => rfl
  case c4 => decide
  intro g L₁ h₁ tk hp₁ FG mm F₁ N₁ B₁ X₁ T₁ A₁ qk ek
  k_steps
  all_goals first
    | exact absurd (show (node : Int) = (p : Int) by assumption) hne1
    | exact absurd (show (b : Int) = (node : Int) by assumption) hne2
    | exact absurd (show (b : Int) = -1 by assumption) hne3
    | skip
  rename Fr _ _ _ _ => F9
  rename News _ _ _ _ => N9
  have hus9 : All2 IsNat (kl_ins vu (j : Int) (.int (node : Int) t2)) (insNat ep.under j node) := kl_ins_nat hus (Nat.le_of_lt hjl)
  obtain ⟨R9, K9⟩ := R.moved (t := t1) (np' := np) (nu' := nu + 1) N hp' hn (Nat.ne_of_lt hpn) hq hvu hus9 hvp hps
  refine hret _ _ _ ?zp F9 (news_sub N9 setL2_sub) R9 ?_ K9
  case zp => assumption
  refine viaF fun hG9 => ?_
  obtain ⟨oc, kvs, h1, h2, h3, h4⟩ := CA.keep K9 R.ct_moved
  refine hG9 ?_
  exact ⟨oc, kvs, h1, h2, by rw [ins_len]; exact h3, h4.ins hp' hn (Nat.ne_of_lt hpn)⟩
end

local macro_rules (kind := PyProof.Rows.tacticWalk_at_) | x => stopR9 198 x
local macro_rules (kind := PyProof.Rows.tacticWalk_at_) | x => stopR9 205 x

section
variable {w : World} {loose : List Str} {mean : ExcName → Option Value} {mg mb : Str → Option Value} {dp un : Nat} {gd : Option (List Code)} {cn : Str} {cs : Scope} {a : Addr} {ccd : Value} {cl : List (Str × Addr)} {outer : List Env} {A₀ : Around} {base h₀ : Heap} {L : Addr} {m : Str → Option Value} {gh : Heap} {gn : Array GenState} {dr : Drawn} {tk0 : Nat} {os : OsState} {Q E : Value → Shared → Prop} {news : Led}
theorem insert3_spec {T : TA} {as qs : List Addr} {nds : List Nd} {p node j : Nat} {ep en : Nd} {t1 t2 : Tok} (C : Cx w loose mean mg mb outer A₀ base h₀ cs) (F : Fr h₀ L gh m) (N : News h₀ L gh news) (hp : 0 < tk0) (hdp : dp + 4 < recursionLimit) (hun : un + 32 < cLine)
  (R : TreeC w news T as qs nds) (CA : ContAt w news T nds) (PU : PUp nds) (hp' : nds[p]? = some ep) (hn : nds[node]? = some en) (hpn : p < node) (hdn : en.parent = -1) (hnd : ep.under.Nodup) (hul : ep.under.length ≤ 1000) (hj : j = ep.under.length)
  (hret : ∀ (news' : Led) (h' : Heap) (tk' : Nat), 0 < tk' → Fr h₀ L h' m → News h₀ L h' news' → TreeC w news' T as qs (insNds nds p j node ep en) → ContAt w news' T (insNds nds p j node ep en) → Keep (T.p :: qs) news news' → Q .none ⟨h', gn, dr, tk', os⟩) :
  wpAny (model PySem.Challenge.rw_nz0091_01.row.prog w) (ktrTop dp un gd cn cs L a ccd cl outer) (call (.ref 198) [.ref T.t, .int (p : Int) t1, .int (node : Int) t2]) Q E ⟨gh, gn, dr, tk0, os⟩ := by
  exact insertG_spec (tb := 418) C F N hp hdp hun R CA PU hp' hn hpn hdn hnd hul hj (by
    intro fn oc od osl e
    refine' bindsAt ?e1 e ?e2
    case e1 => k_is
    case e2 => first | exact BindsTo.of_eq rfl | exact binds_K (C.X.keeps F.keep) rfl (by k_is) rfl rfl rfl) hret
theorem append_spec {T : TA} {as qs : List Addr} {nds : List Nd} {p node j : Nat} {ep en : Nd} {t1 t2 : Tok} (C : Cx w loose mean mg mb outer A₀ base h₀ cs) (F : Fr h₀ L gh m) (N : News h₀ L gh news) (hp : 0 < tk0) (hdp : dp + 6 < recursionLimit) (hun : un + 48 < cLine)
  (R : TreeC w news T as qs nds) (CA : ContAt w news T nds) (PU : PUp nds) (hp' : nds[p]? = some ep) (hn : nds[node]? = some en) (hpn : p < node) (hdn : en.parent = -1) (hnd : ep.under.Nodup) (hul : ep.under.length ≤ 1000) (hj : j = ep.under.length)
  (hret : ∀ (news' : Led) (h' : Heap) (tk' : Nat), 0 < tk' → Fr h₀ L h' m → News h₀ L h' news' → TreeC w news' T as qs (insNds nds p j node ep en) → ContAt w news' T (insNds nds p j node ep en) → Keep (T.p :: qs) news news' → Q .none ⟨h', gn, dr, tk', os⟩) :
  wpAny (model PySem.Challenge.rw_nz0091_01.row.prog w) (ktrTop dp un gd cn cs L a ccd cl outer) (call (.ref 205) [.ref T.t, .int (p : Int) t1, .int (node : Int) t2]) Q E ⟨gh, gn, dr, tk0, os⟩ := by
  refine wpAny_pos hp ?_
  refine viaF fun hG9 => ?_
  have hinst := R.inst
  have hdict := R.dict
  obtain ⟨B, X, TT, hk⟩ := C
  refine hG9 ?_
  refine' enterP (binds := [(PySem.Str.ofString "self", Value.ref T.t), (PySem.Str.ofString "parent", Value.int (p : Int) t1), (PySem.Str.ofString "node", Value.int (node : Int) t2)]) B F X N TT hk hp (by ktr_room) ?ho ?hcd ?hb ?hl rfl ?_ ?c1 ?c2 ?c3 ?c4
  case ho => k_is
  case hcd => k_is
  case hb => first | exact BindsTo.of_eq rfl | exact hb _ _ _ _ (by k_is) | exact binds_K (by k_in) rfl (by k_is) rfl rfl rfl
  case hl => exact locs rfl
  case c1 => rfl
  case c2 => rfl
  case c3 => rfl
  case c4 => decide
  intro g L₁ h₁ tk hp₁ FG mm F₁ N₁ B₁ X₁ T₁ A₁ qk ek
  k_steps
  unfold Stop
  refine' insert3_spec (p := p) (node := node) (j := j) (ep := ep) (en := en) ?zzC ?zzF ?zzN ?zzp ?zzd ?zzu ?zzR ?zzCA ?zzPU ?zzhp ?zzhn ?zzpn ?zzdn ?zznd ?zzul ?zzhj ?_
  case zzC => tb_start
  case zzF => k_asm
  case zzN => k_asm
  case zzp => tb_rel
  case zzd => ktr_room
  case zzu => ktr_room
  case zzR => assumption
  case zzCA => assumption
  case zzPU => assumption
  case zzhp => assumption
  case zzhn => assumption
  case zzpn => assumption
  case zzdn => assumption
  case zznd => assumption
  case zzul => assumption
  case zzhj => assumption
  intro NL h4 tk4 hp4 F4 N4 R4 C4 K4
  try dsimp only
  k_steps
  rename Fr _ _ _ _ => F9
  rename News _ _ _ _ => N9
  exact hret _ _ _ (by assumption) F9 (news_sub N9 (by ktr_unf)) R4 C4 K4
end

noncomputable def noteAddrs (nl : Addr) (rs : List NR) : List Addr := nl :: (rs.map NR.a ++ rs.map NR.u)
section
variable {w : World} {h₀ h : Heap} {L : Addr} {news led news' : Led} {T : TA} {as qs as' qs' : List Addr} {nl : Addr} {rs rs' : List NR} {nds nw : List Nd} {d : Nd}
theorem NotesRep.has (R : NotesRep news nl rs nds) : ∀ x ∈ noteAddrs nl rs, ∃ o, (x, o) ∈ news ∧ o.cls ≠ .type "tuple" := by
  intro x hx
  have key : ∀ r ∈ rs, ∃ d, NoteAt news r d := fun r hr => by
    obtain ⟨i, hi, e⟩ := List.mem_iff_getElem.mp hr
    have hl : i < nds.length := R.len ▸ hi
    exact ⟨nds[i], R.note i nds[i] r (by simp [hl]) (by rw [← e]; simp [hi])⟩
  unfold noteAddrs at hx
  simp only [List.mem_cons, List.mem_append, List.mem_map] at hx
  rcases hx with rfl | ⟨r, hr, rfl⟩ | ⟨r, hr, rfl⟩
  · obtain ⟨n, h⟩ := R.list; exact ⟨_, h, lo_cls⟩
  · obtain ⟨d, hd⟩ := key r hr
    obtain ⟨n, t1, t2, t3, t4, t5, h⟩ := hd.row
    exact ⟨_, h, lo_cls⟩
  · obtain ⟨d, hd⟩ := key r hr
    obtain ⟨vs, n, h, _⟩ := hd.kids
    exact ⟨_, h, lo_cls⟩
theorem NoteAt.keep {ch : List Addr} {r : NR} (R : NoteAt news r d) (K : Keep ch news news') (ha : r.a ∉ ch) (hu : r.u ∉ ch) : NoteAt news' r d where
  row := let ⟨n, t1, t2, t3, t4, t5, h⟩ := R.row; ⟨n, t1, t2, t3, t4, t5, K _ h (.inl ha)⟩
  attrs := let ⟨vs, n, h1, h2⟩ := R.attrs; ⟨vs, n, K _ h1 (.inr rfl), h2.imp fun _ _ ⟨q, t₁, t₂, c, e, h⟩ => ⟨q, t₁, t₂, c, e, K _ h (.inr rfl)⟩⟩
  kids := let ⟨vs, n, h1, h2⟩ := R.kids; ⟨vs, n, K _ h1 (.inl hu), h2⟩
theorem NotesRep.keep {ch : List Addr} (R : NotesRep news nl rs nds) (K : Keep ch news news') (hd' : ∀ x ∈ noteAddrs nl rs, x ∉ ch) : NotesRep news' nl rs nds where
  list := let ⟨n, h⟩ := R.list; ⟨n, K _ h (.inl (hd' _ (List.mem_cons_self ..)))⟩
  len := R.len
  note := fun i d r h1 h2 => (R.note i d r h1 h2).keep K (hd' _ (List.mem_cons_of_mem _ (List.mem_append_left _ (List.mem_map_of_mem (List.mem_of_getElem? h2))))) (hd' _ (List.mem_cons_of_mem _ (List.mem_append_right _ (List.mem_map_of_mem (List.mem_of_getElem? h2)))))
  room := R.room
/-- the law's two pictures of the tree, side by side -/
structure St (w : World) (news : Led) (T : TA) (as qs : List Addr) (nl : Addr) (rs : List NR) (nds : List Nd) : Prop where
  R : TreeC w news T as qs nds
  C : ContAt w news T nds
  N : NotesRep news nl rs nds
  sep : ∀ x ∈ treeAddrs T as qs, x ∉ noteAddrs nl rs
  nd : (noteAddrs nl rs).Nodup
theorem notes_add {at' l u : Addr} {nr nn n0 n1 : Nat} {vs : List Value} {t1 t2 t3 t4 t5 : Tok} (R : NotesRep news nl rs nds) (nd : (noteAddrs nl rs).Nodup) (K : Keep [nl] news led)
    (hl : (nl, LO (rs.map (fun r => Value.ref r.a) ++ [.ref l]) nn) ∈ led) (hr : (l, LO [.str d.kind t1, .str d.space t2, .str d.name t3, .ref at', .str d.text t4, .ref u, .int d.parent t5] nr) ∈ led) (ha : (at', TO vs n0) ∈ led) (hps : All2 (PairAt led) vs d.attrs) (hu : (u, LO [] n1) ∈ led) (hun : d.under = []) (hroom : nds.length + 1 ≤ 1000) :
    NotesRep led nl (rs ++ [⟨l, at', u⟩]) (nds ++ [d]) where
  list := ⟨nn, by simpa using hl⟩
  len := by rw [List.length_append, List.length_append, R.len]; rfl
  note := fun i e r h1 h2 => by
    have hlen := R.len
    rcases get_snoc h1 with h1 | ⟨i1, rfl⟩
    · have := lt_of_get h1
      rcases get_snoc h2 with h2 | ⟨i2, rfl⟩
      · have hm := List.mem_of_getElem? h2
        have nd' := List.nodup_cons.mp nd
        refine (R.note i e r h1 h2).keep K ?_ ?_
        · simp only [List.mem_singleton]; intro q; exact nd'.1 (q ▸ List.mem_append_left _ (List.mem_map_of_mem hm))
        · simp only [List.mem_singleton]; intro q; exact nd'.1 (q ▸ List.mem_append_right _ (List.mem_map_of_mem hm))
      · omega
    · rcases get_snoc h2 with h2 | ⟨i2, rfl⟩
      · have := lt_of_get h2; omega
      · exact ⟨⟨nr, t1, t2, t3, t4, t5, hr⟩, ⟨vs, n0, ha, hps⟩, ⟨[], n1, hu, by rw [hun]; exact .nil⟩⟩
  room := by rw [List.length_append]; exact hroom
theorem treeAddrs_new {x : Addr} : x ∈ treeAddrs T (as ++ as') (qs ++ qs') ↔ x ∈ treeAddrs T as qs ∨ x ∈ as' ++ qs' := by
  unfold treeAddrs
  simp only [List.mem_cons, List.mem_append]
  constructor
  · rintro (h | h | h | h | (h | h) | h | h) <;> simp [h]
  · rintro ((h | h | h | h | h | h) | h | h) <;> simp [h]
theorem noteAddrs_new {x : Addr} : x ∈ noteAddrs nl (rs ++ rs') ↔ x ∈ noteAddrs nl rs ∨ x ∈ rs'.map NR.a ++ rs'.map NR.u := by
  unfold noteAddrs
  simp only [List.mem_cons, List.mem_append, List.map_append]
  constructor
  · rintro (h | (h | h) | h | h)
    · exact .inl (.inl h)
    · exact .inl (.inr (.inl h))
    · exact .inr (.inl h)
    · exact .inl (.inr (.inr h))
    · exact .inr (.inr h)
  · rintro ((h | h | h) | h | h)
    · exact .inl h
    · exact .inr (.inl (.inl h))
    · exact .inr (.inr (.inl h))
    · exact .inr (.inl (.inr h))
    · exact .inr (.inr (.inr h))
theorem made_st (S : St w news T as qs nl rs nds) (hK : Keep [nl] news led) (hN : NotesRep led nl (rs ++ rs') (nds ++ nw)) (hnew : ∀ x ∈ rs'.map NR.a ++ rs'.map NR.u, ∀ p ∈ news, @LT.lt Nat _ p.1 x) (hnd : (rs'.map NR.a ++ rs'.map NR.u).Nodup)
    (M : Made w led news' T as qs as' qs' nds nw) : St w news' T (as ++ as') (qs ++ qs') nl (rs ++ rs') (nds ++ nw) ∧ Keep (nl :: T.ct :: T.lists) news news' ∧ (∀ x ∈ as' ++ qs', ∀ p ∈ news, @LT.lt Nat _ p.1 x) := by
  have tn : ∀ x ∈ treeAddrs T as qs, ∃ o, (x, o) ∈ news := fun x hx => let ⟨o, h, _⟩ := S.R.has x hx; ⟨o, h⟩
  have ct : ∀ x ∈ T.ct :: T.lists, x ∈ treeAddrs T as qs := fun x hx => by
    rcases List.mem_cons.mp hx with rfl | hx
    · unfold treeAddrs; simp
    · exact lists_sub hx
  have nn : ∀ x ∈ noteAddrs nl rs, ∃ o, (x, o) ∈ news := fun x hx => let ⟨o, h, _⟩ := S.N.has x hx; ⟨o, h⟩
  have up : ∀ p ∈ news, ∃ o, (p.1, o) ∈ led := fun p hp => by
    by_cases e : p.1 = nl
    · obtain ⟨n, h⟩ := hN.list; exact ⟨_, e ▸ h⟩
    · exact ⟨p.2, hK p hp (.inl (by simpa using e))⟩
  have fresh : ∀ x ∈ as' ++ qs', ∀ p ∈ news, @LT.lt Nat _ p.1 x := fun x hx p hp => by
    obtain ⟨o, h⟩ := up p hp
    exact M.fresh x hx (p.1, o) h
  refine ⟨⟨M.R, M.C, ?_, ?_, ?_⟩, ?_, fresh⟩
  · refine hN.keep M.K fun x hx hc => ?_
    rcases noteAddrs_new.mp hx with hx | hx
    · exact S.sep x (ct x hc) hx
    · obtain ⟨o, h⟩ := tn x (ct x hc)
      exact absurd (hnew x hx _ h) (Nat.lt_irrefl _)
  · intro x hx hc
    rcases treeAddrs_new.mp hx with hx | hx
    · rcases noteAddrs_new.mp hc with hc | hc
      · exact S.sep x hx hc
      · obtain ⟨o, h⟩ := tn x hx
        exact absurd (hnew x hc _ h) (Nat.lt_irrefl _)
    · obtain ⟨o, h, _⟩ := hN.has x hc
      exact absurd (M.fresh x hx _ h) (Nat.lt_irrefl _)
  · have e : (noteAddrs nl (rs ++ rs')).Perm (noteAddrs nl rs ++ (rs'.map NR.a ++ rs'.map NR.u)) := by
      unfold noteAddrs
      simp only [List.map_append, List.cons_append]
      refine List.Perm.cons _ ?_
      rw [List.append_assoc, List.append_assoc]
      refine List.Perm.append_left _ ?_
      rw [← List.append_assoc, ← List.append_assoc]
      exact List.Perm.append_right _ List.perm_append_comm
    refine e.symm.nodup ?_
    refine List.nodup_append.mpr ⟨S.nd, hnd, fun x hx y hy e => ?_⟩
    subst e
    obtain ⟨o, h⟩ := nn x hx
    exact absurd (hnew x hy _ h) (Nat.lt_irrefl _)
  · intro p hp hc
    refine M.K p (hK p hp ?_) ?_
    · rcases hc with hc | hc
      · exact .inl (by simp only [List.mem_singleton]; intro e; exact hc (e ▸ List.mem_cons_self ..))
      · exact .inr hc
    · rcases hc with hc | hc
      · exact .inl fun h => hc (List.mem_cons_of_mem _ h)
      · exact .inr hc
/-- the notes alone have grown: the tree stays -/
theorem St.tree_of (S : St w news T as qs nl rs nds) (hK : Keep [nl] news led) : TreeC w led T as qs nds ∧ ContAt w led T nds := by
  have hn : ∀ x ∈ treeAddrs T as qs, x ∉ [nl] := fun x hx h => S.sep x hx (by rw [List.mem_singleton.mp h]; exact List.mem_cons_self ..)
  exact ⟨S.R.keep hK hn, S.C.keep hK (hn _ (by unfold treeAddrs; simp))⟩
structure NewNd (d : Nd) : Prop where
  ok : NdOk d
  under : d.under = []
  parent : d.parent = -1
  kind : d.kind ∈ [PySem.Str.ofString "element", PySem.Str.ofString "text", PySem.Str.ofString "comment", PySem.Str.ofString "doctype"]
  spc : (d.space == "html") = true → d.kind = "element"
theorem elNds_one (h : d.isTem = false) : elNds d = [d] := by unfold elNds; rw [if_neg (by rw [h]; exact Bool.false_ne_true)]
end
/-- a row of notes has been laid behind the others -/
inductive NewRow (g : Heap) (L₁ : Addr) (h : Heap) (nl : Addr) (l0 : List Value) (k : Nat) (kd sp nm tx : Str) (news : Led) : Prop
  | mk (led3 : Led) (l5 l6 D5 : Addr) (n5 : Nat) (u1 u2 u3 u4 u5 : Tok) (N3 : News g L₁ h led3) (h1 : (nl, LO (l0 ++ [.ref l5]) k) ∈ led3) (h2 : (l5, LO [.str kd u1, .str sp u2, .str nm u3, .ref D5, .str tx u4, .ref l6, .int (-1) u5] 0) ∈ led3)
    (h3 : (l6, LO [] 0) ∈ led3) (h4 : (D5, TO [] n5) ∈ led3) (K : Keep [nl] news led3) (lt6 : ∀ p ∈ news, @LT.lt Nat _ p.1 l6) (lt65 : @LT.lt Nat _ l6 l5) : NewRow g L₁ h nl l0 k kd sp nm tx news

local macro_rules (kind := PyProof.Rows.tacticWalk_at_) | x => stopR9 275 x
local macro_rules (kind := PyProof.Rows.tacticWalk_at_) | x => stopR9 287 x
local macro_rules (kind := PyProof.Rows.tacticWalk_at_) | x => stopR9 169 x
local macro_rules (kind := PyProof.Rows.tacticWalk_at_) | x => stopR9 176 x
local macro_rules (kind := PyProof.Rows.tacticWalk_at_) | x => stopR9 183 x
local macro_rules (kind := PyProof.Rows.tacticWalk_at_) | x => stopR9 190 x

noncomputable def wordOk (x : Str) : Bool := match Txt.split x "." with
  | [a, b] => decide (a.length ≤ 20) && decide (b.length ≤ 20)
  | _ => false
theorem words_ok : (lawWords.all wordOk) = true := by decide +kernel
theorem words_len : lawWords.length = 53 := by decide
theorem words_short : ∀ x ∈ lawWords, x.length ≤ 40 := by decide +kernel
theorem word_split {x : Str} (h : x ∈ lawWords) : ∃ a b, Txt.split x "." = [a, b] ∧ a.length ≤ 20 ∧ b.length ≤ 20 := by
  have h1 := List.all_eq_true.mp words_ok x h
  unfold wordOk at h1
  split at h1
  · rename_i a b e
    simp only [Bool.and_eq_true, decide_eq_true_eq] at h1
    exact ⟨a, b, e, h1.1, h1.2⟩
  · cases h1
theorem two_inv {vs : List Value} {a b : Str} (h : All2 IsStr vs [a, b]) : ∃ t t', vs = [.str a t, .str b t'] := by
  cases h with
  | cons h1 h2 => cases h2 with
    | cons h3 h4 => cases h4; obtain ⟨t, rfl⟩ := h1; obtain ⟨t', rfl⟩ := h3; exact ⟨t, t', rfl⟩
section
variable {prog : Program} {w : World} {A : Around} {E : Value → Shared → Prop} {gh : Heap} {gn : Array GenState} {dr : Drawn} {tk0 : Nat} {os : OsState} {h₀ : Heap} {L : Addr} {m : Str → Option Value} {news : Led} {x y : Str} {t u : Tok} {Q : Value → Shared → Prop}
theorem splitTwo {a b : Str} (F : Fr h₀ L gh m) (N : News h₀ L gh news) (hp : 0 < tk0) (hy : (y.length == 0) = false) (hsz : x.length ≤ 16000000) (e : Txt.split x y = [a, b])
    (h : ∀ D ta tb h' k, 0 < k → Fr h₀ L h' m → News h₀ L h' ((D, LO [.str a ta, .str b tb] 0) :: news) → (∀ p ∈ news, @LT.lt Nat _ p.1 D) → Q (.ref D) ⟨h', gn, dr, k, os⟩) :
    wpAny (model prog w) A (call (.builtin "str.split") [.str x t, .str y u]) Q E ⟨gh, gn, dr, tk0, os⟩ :=
  splitB F N hp hy hsz fun D vs h' k hk e' F' N' l1 => by
    rw [e] at e'
    obtain ⟨ta, tb, rfl⟩ := two_inv e'
    exact h D ta tb h' k hk F' N' l1
theorem itemTE {value slice : Expr} {l : Addr} {vs : List Value} {n k : Nat} {i : Int} {v : Value} (N : News h₀ L gh news) (hm : (l, TO vs n) ∈ news) (e : i = (k : Int)) (hk : k < vs.length) (hz : vs.length ≤ 1000) (hv : vs[k]? = some v) (h : Q v ⟨gh, gn, dr, tk0, os⟩)
    (hs : subscripted slice false (.ref l) (.int i u) = operate [.ref l, .int i u] (getItem (.ref l) (.int i u)) := by with_unfolding_all rfl) :
    wpAny (model prog w) A (subscriptTail value slice (.ref l) (.int i u)) Q E ⟨gh, gn, dr, tk0, os⟩ := by
  subst e
  refine item_tupleT (to_isTup N hm) (by omega) (by omega) (j := k) ?_ hv h hs
  unfold seqIndex?
  first | (simp; exact idx1 hk) | simp [hk]
end
theorem keep_row {nl l2 l3 : Addr} {o' o2 o3 : Obj} {led1 pre : Led} (hnt : ∀ y : Obj, (nl, y) ∈ led1 → y.cls ≠ .type "tuple") : Keep [nl] led1 (pre ++ setL nl o' ((l2, o2) :: (l3, o3) :: led1)) := by
  rintro ⟨x, y⟩ hp hc
  refine List.mem_append_right _ (setL_ne ?_ (List.mem_cons_of_mem _ (List.mem_cons_of_mem _ hp)))
  intro e
  have e' : x = nl := e
  subst e'
  rcases hc with hc | hc
  · exact hc (List.mem_cons_self ..)
  · exact hnt y hp hc
theorem keep_pre {nl : Addr} {o' : Obj} {led1 pre : Led} (hnt : ∀ y : Obj, (nl, y) ∈ led1 → y.cls ≠ .type "tuple") : Keep [nl] led1 (setL nl o' (pre ++ led1)) := by
  rintro ⟨x, y⟩ hp hc
  refine setL_ne ?_ (List.mem_append_right _ hp)
  intro e
  have e' : x = nl := e
  subst e'
  rcases hc with hc | hc
  · exact hc (List.mem_cons_self ..)
  · exact hnt y hp hc
theorem keep_up {nl : Addr} {o : Obj} {news led : Led} (K : Keep [nl] news led) (hnl : (nl, o) ∈ led) : ∀ p ∈ news, ∃ o, (p.1, o) ∈ led := fun p hp => by
  by_cases e : p.1 = nl
  · exact ⟨o, e ▸ hnl⟩
  · exact ⟨p.2, K p hp (.inl (by simpa using e))⟩
theorem noteAddrs_nd {nl : Addr} {rs rs' : List NR} {news : Led} (nd : (noteAddrs nl rs).Nodup) (hn : ∀ x ∈ noteAddrs nl rs, ∃ o, (x, o) ∈ news) (hnew : ∀ x ∈ rs'.map NR.a ++ rs'.map NR.u, ∀ p ∈ news, @LT.lt Nat _ p.1 x) (hnd : (rs'.map NR.a ++ rs'.map NR.u).Nodup) : (noteAddrs nl (rs ++ rs')).Nodup := by
  have e : (noteAddrs nl (rs ++ rs')).Perm (noteAddrs nl rs ++ (rs'.map NR.a ++ rs'.map NR.u)) := by
    unfold noteAddrs
    simp only [List.map_append, List.cons_append]
    refine List.Perm.cons _ ?_
    rw [List.append_assoc, List.append_assoc]
    refine List.Perm.append_left _ ?_
    rw [← List.append_assoc, ← List.append_assoc]
    exact List.Perm.append_right _ List.perm_append_comm
  refine e.symm.nodup ?_
  refine List.nodup_append.mpr ⟨nd, hnd, fun x hx y hy e => ?_⟩
  subst e
  obtain ⟨o, h⟩ := hn x hx
  exact absurd (hnew x hy _ h) (Nat.lt_irrefl _)
section
local macro_rules (kind := PyProof.Rows.tacticWalk_at_) | x => call9 "call builtin:str.split" "splitTwo" 6 x
local macro_rules (kind := PyProof.Rows.tacticWalk_at_) | x => stop9 "compareOp Eq ref ref" x
local macro_rules (kind := PyProof.Rows.tacticWalk_at_) | x => method9 x
variable {w : World} {loose : List Str} {mean : ExcName → Option Value} {mg mb : Str → Option Value} {dp un : Nat} {gd : Option (List Code)} {cn : Str} {cs : Scope} {a : Addr} {ccd : Value} {cl : List (Str × Addr)} {outer : List Env} {A₀ : Around} {base h₀ : Heap} {L : Addr} {m : Str → Option Value} {gh : Heap} {gn : Array GenState} {dr : Drawn} {tk0 : Nat} {os : OsState} {Q E : Value → Shared → Prop} {news : Led}
theorem make_el {T : TA} {as qs : List Addr} {nl : Addr} {rs : List NR} {nds : List Nd} {so dg : Int} {t1 t2 : Tok} (C : Cx w loose mean mg mb outer A₀ base h₀ cs) (F : Fr h₀ L gh m) (N : News h₀ L gh news) (hp : 0 < tk0) (hdp : dp + 8 < recursionLimit) (hun : un + 64 < cLine)
  (S : St w news T as qs nl rs nds) (hroom : nds.length + 2 ≤ 1000) (hso : so.fmod 8 < 4)
  (hret : ∀ (d : Nd) (as' qs' : List Addr) (rs' : List NR) (news' : Led) (t : Tok) (h' : Heap) (tk' : Nat), NewNd d → 0 < tk' → Fr h₀ L h' m → News h₀ L h' news' → St w news' T (as ++ as') (qs ++ qs') nl (rs ++ rs') (nds ++ elNds d) → Keep (nl :: T.ct :: T.lists) news news' → (∀ x ∈ as' ++ qs', ∀ p ∈ news, @LT.lt Nat _ p.1 x) → (∀ x ∈ rs'.map NR.a ++ rs'.map NR.u, ∀ p ∈ news, @LT.lt Nat _ p.1 x) → Q (.int (nds.length : Int) t) ⟨h', gn, dr, tk', os⟩) :
  wpAny (model PySem.Challenge.rw_nz0091_01.row.prog w) (ktrTop dp un gd cn cs L a ccd cl outer) (call (.ref 318) [.ref T.t, .ref nl, .int so t1, .int dg t2]) Q E ⟨gh, gn, dr, tk0, os⟩ := by
  refine viaF fun hG9 => ?_
  have hinst := S.R.inst
  have hdict := S.R.dict
  obtain ⟨nn, hnl⟩ := S.N.list
  have hrl : (rs.map fun r => Value.ref r.a).length ≤ 1000 := by rw [List.length_map, S.N.len]; exact S.N.room
  have hne1 : @Ne Nat T.t nl := fun e => S.sep T.t (by unfold treeAddrs; simp) (by rw [e]; exact List.mem_cons_self ..)
  have hne2 : @Ne Nat T.d nl := fun e => S.sep T.d (by unfold treeAddrs; simp) (by rw [e]; exact List.mem_cons_self ..)
  obtain ⟨B, X, TT, hk⟩ := C
  refine hG9 ?_
  refine' enterP (binds := [(PySem.Str.ofString "tree", Value.ref T.t), (PySem.Str.ofString "notes", Value.ref nl), (PySem.Str.ofString "sort", Value.int so t1), (PySem.Str.ofString "digit", Value.int dg t2)]) B F X N TT hk hp (by ktr_room) ?ho ?hcd ?hb ?hl rfl ?_ ?c1 ?c2 ?c3 ?c4
  case ho => k_is
  case hcd => k_is
  case hb => first | exact BindsTo.of_eq rfl | exact hb _ _ _ _ (by k_is) | exact binds_K (by k_in) rfl (by k_is) rfl rfl rfl
  case hl => exact locs rfl
  case c1 => rfl
  case c2 => rfl
  case c3 => rfl
  case c4 => decide
  intro g L₁ h₁ tk hp₁ FG mm F₁ N₁ B₁ X₁ T₁ A₁ qk ek
  k_steps
  unfold Stop
  refine' law_words_spec ?zzC ?zzF ?zzN ?zzp ?zzd ?zzu  ?_
  case zzC => tb_start
  case zzF => k_asm
  case zzN => k_asm
  case zzp => tb_rel
  case zzd => ktr_room
  case zzu => ktr_room
  intro aw vw hw tkw hpw ew lw Fw Nw
  try dsimp only
  refine viaF fun hG9 => ?_
  obtain ⟨j, hj, hj12⟩ : ∃ j : Nat, (so.fdiv 8).fmod 12 = (j : Int) ∧ j < lawWords.length := let ⟨n, h1, h2⟩ := fmodN 12 rfl rfl; ⟨n, h1, by rw [words_len]; exact Nat.lt_of_lt_of_le h2 (by decide)⟩
  obtain ⟨x, hx⟩ : ∃ x, lawWords[j]? = some x := ⟨lawWords[j], by simp [hj12]⟩
  obtain ⟨v, hv, tv, rfl⟩ := ew.get hx
  have hxm := List.mem_of_getElem? hx
  have hxl := words_short x hxm
  obtain ⟨sp, nm, hsp, hspl, hnml⟩ := word_split hxm
  have hitem : ItemAt ((aw, LO vw 0) :: news) aw ((so.fdiv 8).fmod 12) (.str x tv) := hj ▸ .of (List.mem_cons_self ..) hv (lt62b (words_len ▸ hj12) rfl)
  refine hG9 ?_
  k_steps
  unfold Stop
  refine' law_attrs_spec ?zzC ?zzF ?zzN ?zzp ?zzd ?zzu  ?_
  case zzC => tb_start
  case zzF => k_asm
  case zzN => k_asm
  case zzp => tb_rel
  case zzd => ktr_room
  case zzu => ktr_room
  intro aa tups va ps ha tka hpa ea oka Fa Na
  try dsimp only
  rename (∀ p : Addr × Obj, p ∈ (aw, LO vw 0) :: news → _) => lD9
  refine viaF fun hG9 => ?_
  obtain ⟨led1, Na1, hsub1, haa, hps1⟩ : ∃ led1, News g L₁ ha led1 ∧ Sub news led1 ∧ (aa, TO va 0) ∈ led1 ∧ All2 (PairAt led1) va ps :=
    ⟨_, Na, fun p hp => List.mem_cons_of_mem _ (List.mem_append_right _ (List.mem_cons_of_mem _ (List.mem_cons_of_mem _ hp))), List.mem_cons_self .., ea.imp fun _ _ h => h.sub fun p hp => List.mem_cons_of_mem _ (List.mem_append_left _ hp)⟩
  refine hG9 ?_
  clear Na hitem lD9 hv ew
  have hinst1 := hsub1 _ hinst
  have hdict1 := hsub1 _ hdict
  have hnl1 := hsub1 _ hnl
  have hnt1 : ∀ y : Obj, (nl, y) ∈ led1 → y.cls ≠ .type "tuple" := fun y hy => news_fun Na1 hnl1 hy ▸ lo_cls
  k_steps
  unfold Stop
  refine eqStrs (ns := [sp, nm]) (ms := [PySem.Str.ofString "html", PySem.Str.ofString "template"]) (by k_asm) (by k_mem) (by k_mem) (.cons ⟨_, rfl⟩ (.cons ⟨_, rfl⟩ .nil)) (.cons ⟨_, rfl⟩ (.cons ⟨_, rfl⟩ .nil)) rfl (by first | (show _ + _ < _; ktr_room) | ((try dsimp only); omega)) ?_
  have hdec : decide ([sp, nm] = [PySem.Str.ofString "html", PySem.Str.ofString "template"]) = (⟨"element", sp, nm, "", ps, [], -1⟩ : Nd).isTem := tem_dec (d := ⟨"element", sp, nm, "", ps, [], -1⟩) fun _ => rfl
  rw [hdec]
  have hnew : NewNd ⟨"element", sp, nm, "", ps, [], -1⟩ := ⟨⟨hnml, Nat.zero_le _, oka.many, oka.key, oka.val⟩, rfl, rfl, by simp, fun _ => rfl⟩
  rename News _ _ _ _ => N9
  refine viaF fun hG9 => ?_
  obtain ⟨led2, l2, l3, ua, ub, ue, ux, up, N2, hnl2, hrow2, hkid2, K2, lt3, lt23⟩ : ∃ (led2 : Led) (l2 l3 : Addr) (ua ub ue ux up : Tok), News g L₁ _ led2 ∧ (nl, LO (rs.map (fun r => .ref r.a) ++ [.ref l2]) (nn + 1)) ∈ led2 ∧
      (l2, LO [.str "element" ue, .str sp ua, .str nm ub, .ref aa, .str "" ux, .ref l3, .int (-1) up] 0) ∈ led2 ∧ (l3, LO [] 0) ∈ led2 ∧ Keep [nl] led1 led2 ∧ (∀ p ∈ led1, @LT.lt Nat _ p.1 l3) ∧ (@LT.lt Nat _ l3 l2) := by
    rename (∀ p : Addr × Obj, p ∈ led1 → _) => h3
    rename (_ ∧ AllLt _ led1) => h23
    have hl3 := h3 _ hnl1
    exact ⟨_, _, _, _, _, _, _, _, N9, List.mem_cons_of_mem _ (List.mem_cons_of_mem _ (setL_self (List.mem_cons_of_mem _ (List.mem_cons_of_mem _ hnl1)))),
      List.mem_cons_of_mem _ (List.mem_cons_of_mem _ (setL_ne (Nat.ne_of_gt (Nat.lt_trans hl3 h23.1)) (List.mem_cons_self ..))), List.mem_cons_of_mem _ (List.mem_cons_of_mem _ (setL_ne (Nat.ne_of_gt hl3) (List.mem_cons_of_mem _ (List.mem_cons_self ..)))),
      keep_row (pre := [_, _]) hnt1, h3, h23.1⟩
  refine hG9 ?_
  rename (_ ∧ AllLt _ (setL _ _ _)) => hz1
  rename (∀ p : Addr × Obj, p ∈ setL _ _ _ → _) => hz2
  clear N9 hz1 hz2
  have KS := K2.of_sub hsub1
  obtain ⟨RT, CT⟩ := S.tree_of KS
  have haa2 := K2 _ haa (.inr rfl)
  have hps2 : All2 (PairAt led2) va ps := hps1.imp fun _ _ ⟨q, t₁, t₂, c, e, h⟩ => ⟨q, t₁, t₂, c, e, K2 _ h (.inr rfl)⟩
  have hva : va.length ≤ 1000 := eqLe hps2.length (Nat.le_trans oka.many (by decide))
  have hinst2 := RT.inst
  have hdict2 := RT.dict
  have lt2 : ∀ p ∈ led1, @LT.lt Nat _ p.1 l2 := fun p hp => Nat.lt_trans (lt3 p hp) lt23
  have hNR := notes_add (d := ⟨"element", sp, nm, "", ps, [], -1⟩) S.N S.nd KS hnl2 hrow2 haa2 hps2 hkid2 rfl (succ1 hroom)
  cases htm : (⟨"element", sp, nm, "", ps, [], -1⟩ : Nd).isTem with
  | true =>
    have hnt2 : ∀ y : Obj, (nl, y) ∈ led2 → y.cls ≠ .type "tuple" := fun y hy => news_fun N2 hnl2 hy ▸ lo_cls
    have hrl2 : (rs.map (fun r => Value.ref r.a) ++ [Value.ref l2]).length ≤ 1001 := by rw [List.length_append]; exact Nat.succ_le_succ hrl
    k_steps
    unfold Stop
    rename News _ _ _ _ => N9
    refine viaF fun hG9 => ?_
    obtain ⟨led3, l5, l6, D5, n5, u1, u2, u3, u4, u5, N3, hnl3, hrow3, hkid3, htup3, K3, lt6, lt65⟩ : NewRow g L₁ _ nl (rs.map (fun r => .ref r.a) ++ [.ref l2]) (nn + 1 + 1) "fragment" "" "" "" led2 := by
      rename (_ ∧ AllLt _ led2) => hA
      rename (_ ∧ _ ∧ AllLt _ led2) => hB
      rename (∀ p : Addr × Obj, p ∈ led2 → _) => hD
      have hDn := Nat.ne_of_gt (hD _ hnl2)
      have hA2 := allLt_all hA.2
      have hB2 := allLt_all hB.2.2
      exact ⟨_, _, _, _, _, _, _, _, _, _, N9, setL_self (List.mem_cons_of_mem _ (List.mem_cons_of_mem _ (List.mem_cons_of_mem _ hnl2))), setL_ne (Nat.ne_of_gt (hB2 _ hnl2)) (List.mem_cons_self ..), setL_ne (Nat.ne_of_gt (hA2 _ hnl2)) (List.mem_cons_of_mem _ (List.mem_cons_self ..)),
        setL_ne hDn (List.mem_cons_of_mem _ (List.mem_cons_of_mem _ (List.mem_cons_self ..))), keep_pre (pre := [_, _, _]) hnt2, hA2, hB.1⟩
    have hl5 : ∀ p ∈ led2, @LT.lt Nat _ p.1 l5 := fun p hp => Nat.lt_trans (lt6 p hp) lt65
    have up2 := keep_up KS hnl2
    have KS3 := KS.trans K3
    obtain ⟨RT3, CT3⟩ := S.tree_of KS3
    have haa3 := K3 _ haa2 (.inr rfl)
    have hps3 : All2 (PairAt led3) va ps := hps2.imp fun _ _ ⟨q, t₁, t₂, c, e, h⟩ => ⟨q, t₁, t₂, c, e, K3 _ h (.inr rfl)⟩
    have hnn : ∀ x ∈ noteAddrs nl rs, ∃ o, (x, o) ∈ news := fun x hx => let ⟨o, h, _⟩ := S.N.has x hx; ⟨o, h⟩
    have nd2 : (noteAddrs nl (rs ++ [⟨l2, aa, l3⟩])).Nodup := noteAddrs_nd S.nd hnn (fun x hx p hp => by
      simp only [List.map_cons, List.map_nil, List.cons_append, List.nil_append, List.mem_cons, List.not_mem_nil, or_false] at hx
      rcases hx with rfl | rfl
      · exact lt2 p (hsub1 p hp)
      · exact lt3 p (hsub1 p hp)) (by simp; exact fun e => absurd lt23 (by rw [e]; exact Nat.lt_irrefl _))
    have hNR3 := notes_add (d := fragNd) hNR nd2 K3 (by simpa using hnl3) hrow3 htup3 .nil hkid3 rfl (by rw [List.length_append]; exact hroom)
    refine hG9 ?_
    rw [List.append_assoc, List.append_assoc] at hNR3
    have eel : elNds ⟨"element", sp, nm, "", ps, [], -1⟩ = [⟨"element", sp, nm, "", ps, [], -1⟩, fragNd] := by unfold elNds; rw [if_pos htm]
    have h52 := hl5 _ hrow2
    have h62 := lt6 _ hrow2
    have h53 := hl5 _ hkid2
    have h63 := lt6 _ hkid2
    have hfr : ∀ x ∈ ([⟨l2, aa, l3⟩, ⟨l5, D5, l6⟩] : List NR).map NR.a ++ ([⟨l2, aa, l3⟩, ⟨l5, D5, l6⟩] : List NR).map NR.u, ∀ p ∈ news, @LT.lt Nat _ p.1 x := fun x hx p hp => by
      obtain ⟨o, ho⟩ := up2 p hp
      simp only [List.map_cons, List.map_nil, List.cons_append, List.nil_append, List.mem_cons, List.not_mem_nil, or_false] at hx
      rcases hx with rfl | rfl | rfl | rfl
      · exact lt2 p (hsub1 p hp)
      · exact hl5 (p.1, o) ho
      · exact lt3 p (hsub1 p hp)
      · exact lt6 (p.1, o) ho
    refine' element_spec (d := ⟨"element", sp, nm, "", ps, [], -1⟩) (va := va) (nx := 0) ?zzC ?zzF ?zzN ?zzp ?zzd ?zzu ?zzR ?zzCA ?zzro ?zzax ?zzvl ?zzat ?zzki ?zztx ?zzhu ?zzpa ?_
    case zzC => tb_start
    case zzF => k_asm
    case zzN => k_asm
    case zzp => tb_rel
    case zzd => ktr_room
    case zzu => ktr_room
    case zzR => exact RT3
    case zzCA => exact CT3
    case zzro => exact hroom
    case zzax => exact haa3
    case zzvl => exact hva
    case zzat => (intro _; exact hps3)
    case zzki => rfl
    case zztx => rfl
    case zzhu => rfl
    case zzpa => rfl
    intro as' qs' NL t4 h4 tk4 hp4 F4 N4 R4 C4 K4 f4
    try dsimp only
    k_steps
    rename Fr _ _ _ _ => F9
    rename News _ _ _ _ => N9
    refine viaF fun hG9 => ?_
    obtain ⟨S9, K9, f9⟩ := made_st (as' := as') (qs' := qs') (rs' := [⟨l2, aa, l3⟩, ⟨l5, D5, l6⟩]) (nw := elNds ⟨"element", sp, nm, "", ps, [], -1⟩) S KS3 (by rw [eel]; exact hNR3) hfr (by
      have ne : ∀ {a b : Addr}, @LT.lt Nat _ a b → ¬ a = b := fun h e => Nat.ne_of_lt h e
      have ne' : ∀ {a b : Addr}, @LT.lt Nat _ b a → ¬ a = b := fun h e => Nat.ne_of_lt h e.symm
      simp only [List.map_cons, List.map_nil, List.cons_append, List.nil_append, List.nodup_cons, List.mem_cons, List.not_mem_nil, or_false, not_or, not_false_eq_true, List.nodup_nil, and_true]
      exact ⟨⟨ne h52, ne' lt23, ne h62⟩, ⟨ne' h53, ne' lt65⟩, ne h63⟩) ⟨R4, C4, K4, f4⟩
    refine hG9 ?_
    exact hret _ as' qs' [⟨l2, aa, l3⟩, ⟨l5, D5, l6⟩] NL _ _ _ hnew (by tb_rel) F9 (news_sub N9 (by ktr_unf)) S9 K9 f9 hfr
  | false =>
    k_steps
    unfold Stop
    refine' element_spec (d := ⟨"element", sp, nm, "", ps, [], -1⟩) (va := va) (nx := 0) ?zzC ?zzF ?zzN ?zzp ?zzd ?zzu ?zzR ?zzCA ?zzro ?zzax ?zzvl ?zzat ?zzki ?zztx ?zzhu ?zzpa ?_
    case zzC => tb_start
    case zzF => k_asm
    case zzN => k_asm
    case zzp => tb_rel
    case zzd => ktr_room
    case zzu => ktr_room
    case zzR => exact RT
    case zzCA => exact CT
    case zzro => exact hroom
    case zzax => exact haa2
    case zzvl => exact hva
    case zzat => (intro _; exact hps2)
    case zzki => rfl
    case zztx => rfl
    case zzhu => rfl
    case zzpa => rfl
    intro as' qs' NL t4 h4 tk4 hp4 F4 N4 R4 C4 K4 f4
    try dsimp only
    k_steps
    rename Fr _ _ _ _ => F9
    rename News _ _ _ _ => N9
    refine viaF fun hG9 => ?_
    obtain ⟨S9, K9, f9⟩ := made_st (as' := as') (qs' := qs') (rs' := [⟨l2, aa, l3⟩]) (nw := elNds ⟨"element", sp, nm, "", ps, [], -1⟩) S KS (by rw [elNds_one htm]; exact hNR) (fun x hx p hp => by
      simp only [List.map_cons, List.map_nil, List.cons_append, List.nil_append, List.mem_cons, List.not_mem_nil, or_false] at hx
      rcases hx with rfl | rfl
      · exact lt2 p (hsub1 p hp)
      · exact lt3 p (hsub1 p hp)) (by simp; exact fun e => absurd lt23 (by rw [e]; exact Nat.lt_irrefl _)) ⟨R4, C4, K4, f4⟩
    refine hG9 ?_
    refine hret _ as' qs' [⟨l2, aa, l3⟩] NL _ _ _ hnew (by tb_rel) F9 (news_sub N9 (by ktr_unf)) S9 K9 f9 (fun x hx p hp => ?_)
    simp only [List.map_cons, List.map_nil, List.cons_append, List.nil_append, List.mem_cons, List.not_mem_nil, or_false] at hx
    rcases hx with rfl | rfl
    · exact lt2 p (hsub1 p hp)
    · exact lt3 p (hsub1 p hp)
end

local macro_rules (kind := PyProof.Rows.tacticWalk_at_) | x => method9 x
local macro_rules (kind := PyProof.Rows.tacticWalk_at_) | x => stopR9 282 x

section
variable {w : World} {loose : List Str} {mean : ExcName → Option Value} {mg mb : Str → Option Value} {dp un : Nat} {gd : Option (List Code)} {cn : Str} {cs : Scope} {a : Addr} {ccd : Value} {cl : List (Str × Addr)} {outer : List Env} {A₀ : Around} {base h₀ : Heap} {L : Addr} {m : Str → Option Value} {gh : Heap} {gn : Array GenState} {dr : Drawn} {tk0 : Nat} {os : OsState} {Q E : Value → Shared → Prop} {news : Led}
theorem make_tx {T : TA} {as qs : List Addr} {nl : Addr} {rs : List NR} {nds : List Nd} {so dg : Int} {t1 t2 : Tok} (C : Cx w loose mean mg mb outer A₀ base h₀ cs) (F : Fr h₀ L gh m) (N : News h₀ L gh news) (hp : 0 < tk0) (hdp : dp + 8 < recursionLimit) (hun : un + 64 < cLine)
  (S : St w news T as qs nl rs nds) (hroom : nds.length + 2 ≤ 1000) (hso : so.fmod 8 < 6) (hso2 : 4 ≤ so.fmod 8)
  (hret : ∀ (d : Nd) (as' qs' : List Addr) (rs' : List NR) (news' : Led) (t : Tok) (h' : Heap) (tk' : Nat), NewNd d → 0 < tk' → Fr h₀ L h' m → News h₀ L h' news' → St w news' T (as ++ as') (qs ++ qs') nl (rs ++ rs') (nds ++ elNds d) → Keep (nl :: T.ct :: T.lists) news news' → (∀ x ∈ as' ++ qs', ∀ p ∈ news, @LT.lt Nat _ p.1 x) → (∀ x ∈ rs'.map NR.a ++ rs'.map NR.u, ∀ p ∈ news, @LT.lt Nat _ p.1 x) → Q (.int (nds.length : Int) t) ⟨h', gn, dr, tk', os⟩) :
  wpAny (model PySem.Challenge.rw_nz0091_01.row.prog w) (ktrTop dp un gd cn cs L a ccd cl outer) (call (.ref 318) [.ref T.t, .ref nl, .int so t1, .int dg t2]) Q E ⟨gh, gn, dr, tk0, os⟩ := by
  refine viaF fun hG9 => ?_
  have hinst := S.R.inst
  have hdict := S.R.dict
  obtain ⟨nn, hnl⟩ := S.N.list
  have hrl : (rs.map fun r => Value.ref r.a).length ≤ 1000 := by rw [List.length_map, S.N.len]; exact S.N.room
  have hne1 : @Ne Nat T.t nl := fun e => S.sep T.t (by unfold treeAddrs; simp) (by rw [e]; exact List.mem_cons_self ..)
  have hne2 : @Ne Nat T.d nl := fun e => S.sep T.d (by unfold treeAddrs; simp) (by rw [e]; exact List.mem_cons_self ..)
  have hnt : ∀ y : Obj, (nl, y) ∈ news → y.cls ≠ .type "tuple" := fun y hy => news_fun N hnl hy ▸ lo_cls
  obtain ⟨B, X, TT, hk⟩ := C
  refine hG9 ?_
  refine' enterP (binds := [(PySem.Str.ofString "tree", Value.ref T.t), (PySem.Str.ofString "notes", Value.ref nl), (PySem.Str.ofString "sort", Value.int so t1), (PySem.Str.ofString "digit", Value.int dg t2)]) B F X N TT hk hp (by ktr_room) ?ho ?hcd ?hb ?hl rfl ?_ ?c1 ?c2 ?c3 ?c4
  case ho => k_is
  case hcd => k_is
  case hb => first | exact BindsTo.of_eq rfl | exact hb _ _ _ _ (by k_is) | exact binds_K (by k_in) rfl (by k_is) rfl rfl rfl
  case hl => exact locs rfl
  case c1 => rfl
  case c2 => rfl
  case c3 => rfl
  case c4 => decide
  intro g L₁ h₁ tk hp₁ FG mm F₁ N₁ B₁ X₁ T₁ A₁ qk ek
  k_steps
  unfold Stop
  refine' law_text_spec ?zzC ?zzF ?zzN ?zzp ?zzd ?zzu  ?_
  case zzC => tb_start
  case zzF => k_asm
  case zzN => k_asm
  case zzp => tb_rel
  case zzd => ktr_room
  case zzu => ktr_room
  intro x tx hx tkx hxl hpx Fx Nx
  try dsimp only
  k_steps
  unfold Stop
  rename News _ _ _ _ => N9
  refine viaF fun hG9 => ?_
  obtain ⟨led3, l5, l6, D5, n5, u1, u2, u3, u4, u5, N3, hnl3, hrow3, hkid3, htup3, K3, lt6, lt65⟩ : NewRow g L₁ _ nl (rs.map fun r => .ref r.a) (nn + 1) "text" "" "" x news := by
    rename (_ ∧ AllLt _ news) => hA
    rename (_ ∧ _ ∧ AllLt _ news) => hB
    rename (∀ p : Addr × Obj, p ∈ news → _) => hD
    have hDn := Nat.ne_of_gt (hD _ hnl)
    have hA2 := allLt_all hA.2
    have hB2 := allLt_all hB.2.2
    exact ⟨_, _, _, _, _, _, _, _, _, _, N9, setL_self (List.mem_cons_of_mem _ (List.mem_cons_of_mem _ (List.mem_cons_of_mem _ hnl))), setL_ne (Nat.ne_of_gt (hB2 _ hnl)) (List.mem_cons_self ..), setL_ne (Nat.ne_of_gt (hA2 _ hnl)) (List.mem_cons_of_mem _ (List.mem_cons_self ..)),
      setL_ne hDn (List.mem_cons_of_mem _ (List.mem_cons_of_mem _ (List.mem_cons_self ..))), keep_pre (pre := [_, _, _]) hnt, hA2, hB.1⟩
  have hl5 : ∀ p ∈ news, @LT.lt Nat _ p.1 l5 := fun p hp => Nat.lt_trans (lt6 p hp) lt65
  obtain ⟨RT3, CT3⟩ := S.tree_of K3
  have hinst3 := RT3.inst
  have hdict3 := RT3.dict
  have hNR3 := notes_add (d := ⟨"text", "", "", x, [], [], -1⟩) S.N S.nd K3 hnl3 hrow3 htup3 .nil hkid3 rfl (succ1 hroom)
  have htm : (⟨"text", "", "", x, [], [], -1⟩ : Nd).isTem = false := isTem_kind (show (PySem.Str.ofString "text" == PySem.Str.ofString "element") = false by decide +kernel)
  have eel := elNds_one htm
  have hnew : NewNd ⟨"text", "", "", x, [], [], -1⟩ := ⟨⟨Nat.zero_le _, hxl, Nat.zero_le _, fun _ h => absurd h (by simp), fun _ h => absurd h (by simp)⟩, rfl, rfl, by simp, fun h => absurd h (by show ¬ (PySem.Str.ofString "" == PySem.Str.ofString "html") = true; decide +kernel)⟩
  have hfr : ∀ z ∈ ([⟨l5, D5, l6⟩] : List NR).map NR.a ++ ([⟨l5, D5, l6⟩] : List NR).map NR.u, ∀ p ∈ news, @LT.lt Nat _ p.1 z := fun z hz p hp => by
    simp only [List.map_cons, List.map_nil, List.cons_append, List.nil_append, List.mem_cons, List.not_mem_nil, or_false] at hz
    rcases hz with rfl | rfl
    · exact hl5 p hp
    · exact lt6 p hp
  refine hG9 ?_
  refine' text_spec (x := x) ?zzC ?zzF ?zzN ?zzp ?zzd ?zzu ?zzR ?zzCA ?zzro ?_
  case zzC => tb_start
  case zzF => k_asm
  case zzN => k_asm
  case zzp => tb_rel
  case zzd => ktr_room
  case zzu => ktr_room
  case zzR => exact RT3
  case zzCA => exact CT3
  case zzro => exact hroom
  intro as' qs' NL t4 h4 tk4 hp4 F4 N4 M4
  try dsimp only
  k_steps
  rename Fr _ _ _ _ => F9
  rename News _ _ _ _ => N9
  refine viaF fun hG9 => ?_
  obtain ⟨S9, K9, f9⟩ := made_st (as' := as') (qs' := qs') (rs' := [⟨l5, D5, l6⟩]) S K3 hNR3 hfr (by simp; exact fun e => absurd lt65 (by rw [e]; exact Nat.lt_irrefl _)) M4
  refine hG9 ?_
  rw [← eel] at S9
  exact hret _ as' qs' [⟨l5, D5, l6⟩] NL _ _ _ hnew (by tb_rel) F9 (news_sub N9 (by ktr_unf)) S9 K9 f9 hfr
theorem make_co {T : TA} {as qs : List Addr} {nl : Addr} {rs : List NR} {nds : List Nd} {so dg : Int} {t1 t2 : Tok} (C : Cx w loose mean mg mb outer A₀ base h₀ cs) (F : Fr h₀ L gh m) (N : News h₀ L gh news) (hp : 0 < tk0) (hdp : dp + 8 < recursionLimit) (hun : un + 64 < cLine)
  (S : St w news T as qs nl rs nds) (hroom : nds.length + 2 ≤ 1000) (hso : so.fmod 8 = 6)
  (hret : ∀ (d : Nd) (as' qs' : List Addr) (rs' : List NR) (news' : Led) (t : Tok) (h' : Heap) (tk' : Nat), NewNd d → 0 < tk' → Fr h₀ L h' m → News h₀ L h' news' → St w news' T (as ++ as') (qs ++ qs') nl (rs ++ rs') (nds ++ elNds d) → Keep (nl :: T.ct :: T.lists) news news' → (∀ x ∈ as' ++ qs', ∀ p ∈ news, @LT.lt Nat _ p.1 x) → (∀ x ∈ rs'.map NR.a ++ rs'.map NR.u, ∀ p ∈ news, @LT.lt Nat _ p.1 x) → Q (.int (nds.length : Int) t) ⟨h', gn, dr, tk', os⟩) :
  wpAny (model PySem.Challenge.rw_nz0091_01.row.prog w) (ktrTop dp un gd cn cs L a ccd cl outer) (call (.ref 318) [.ref T.t, .ref nl, .int so t1, .int dg t2]) Q E ⟨gh, gn, dr, tk0, os⟩ := by
  refine viaF fun hG9 => ?_
  have hinst := S.R.inst
  have hdict := S.R.dict
  obtain ⟨nn, hnl⟩ := S.N.list
  have hrl : (rs.map fun r => Value.ref r.a).length ≤ 1000 := by rw [List.length_map, S.N.len]; exact S.N.room
  have hne1 : @Ne Nat T.t nl := fun e => S.sep T.t (by unfold treeAddrs; simp) (by rw [e]; exact List.mem_cons_self ..)
  have hne2 : @Ne Nat T.d nl := fun e => S.sep T.d (by unfold treeAddrs; simp) (by rw [e]; exact List.mem_cons_self ..)
  have hnt : ∀ y : Obj, (nl, y) ∈ news → y.cls ≠ .type "tuple" := fun y hy => news_fun N hnl hy ▸ lo_cls
  obtain ⟨B, X, TT, hk⟩ := C
  refine hG9 ?_
  refine' enterP (binds := [(PySem.Str.ofString "tree", Value.ref T.t), (PySem.Str.ofString "notes", Value.ref nl), (PySem.Str.ofString "sort", Value.int so t1), (PySem.Str.ofString "digit", Value.int dg t2)]) B F X N TT hk hp (by ktr_room) ?ho ?hcd ?hb ?hl rfl ?_ ?c1 ?c2 ?c3 ?c4
  case ho => k_is
  case hcd => k_is
  case hb => first | exact BindsTo.of_eq rfl | exact hb _ _ _ _ (by k_is) | exact binds_K (by k_in) rfl (by k_is) rfl rfl rfl
  case hl => exact locs rfl
  case c1 => rfl
  case c2 => rfl
  case c3 => rfl
  case c4 => decide
  intro g L₁ h₁ tk hp₁ FG mm F₁ N₁ B₁ X₁ T₁ A₁ qk ek
  k_steps
  unfold Stop
  refine' law_text_spec ?zzC ?zzF ?zzN ?zzp ?zzd ?zzu  ?_
  case zzC => tb_start
  case zzF => k_asm
  case zzN => k_asm
  case zzp => tb_rel
  case zzd => ktr_room
  case zzu => ktr_room
  intro x tx hx tkx hxl hpx Fx Nx
  try dsimp only
  k_steps
  unfold Stop
  rename News _ _ _ _ => N9
  refine viaF fun hG9 => ?_
  obtain ⟨led3, l5, l6, D5, n5, u1, u2, u3, u4, u5, N3, hnl3, hrow3, hkid3, htup3, K3, lt6, lt65⟩ : NewRow g L₁ _ nl (rs.map fun r => .ref r.a) (nn + 1) "comment" "" "" x news := by
    rename (_ ∧ AllLt _ news) => hA
    rename (_ ∧ _ ∧ AllLt _ news) => hB
    rename (∀ p : Addr × Obj, p ∈ news → _) => hD
    have hDn := Nat.ne_of_gt (hD _ hnl)
    have hA2 := allLt_all hA.2
    have hB2 := allLt_all hB.2.2
    exact ⟨_, _, _, _, _, _, _, _, _, _, N9, setL_self (List.mem_cons_of_mem _ (List.mem_cons_of_mem _ (List.mem_cons_of_mem _ hnl))), setL_ne (Nat.ne_of_gt (hB2 _ hnl)) (List.mem_cons_self ..), setL_ne (Nat.ne_of_gt (hA2 _ hnl)) (List.mem_cons_of_mem _ (List.mem_cons_self ..)),
      setL_ne hDn (List.mem_cons_of_mem _ (List.mem_cons_of_mem _ (List.mem_cons_self ..))), keep_pre (pre := [_, _, _]) hnt, hA2, hB.1⟩
  have hl5 : ∀ p ∈ news, @LT.lt Nat _ p.1 l5 := fun p hp => Nat.lt_trans (lt6 p hp) lt65
  obtain ⟨RT3, CT3⟩ := S.tree_of K3
  have hinst3 := RT3.inst
  have hdict3 := RT3.dict
  have hNR3 := notes_add (d := ⟨"comment", "", "", x, [], [], -1⟩) S.N S.nd K3 hnl3 hrow3 htup3 .nil hkid3 rfl (succ1 hroom)
  have htm : (⟨"comment", "", "", x, [], [], -1⟩ : Nd).isTem = false := isTem_kind (show (PySem.Str.ofString "comment" == PySem.Str.ofString "element") = false by decide +kernel)
  have eel := elNds_one htm
  have hnew : NewNd ⟨"comment", "", "", x, [], [], -1⟩ := ⟨⟨Nat.zero_le _, hxl, Nat.zero_le _, fun _ h => absurd h (by simp), fun _ h => absurd h (by simp)⟩, rfl, rfl, by simp, fun h => absurd h (by show ¬ (PySem.Str.ofString "" == PySem.Str.ofString "html") = true; decide +kernel)⟩
  have hfr : ∀ z ∈ ([⟨l5, D5, l6⟩] : List NR).map NR.a ++ ([⟨l5, D5, l6⟩] : List NR).map NR.u, ∀ p ∈ news, @LT.lt Nat _ p.1 z := fun z hz p hp => by
    simp only [List.map_cons, List.map_nil, List.cons_append, List.nil_append, List.mem_cons, List.not_mem_nil, or_false] at hz
    rcases hz with rfl | rfl
    · exact hl5 p hp
    · exact lt6 p hp
  refine hG9 ?_
  refine' comment_spec (x := x) ?zzC ?zzF ?zzN ?zzp ?zzd ?zzu ?zzR ?zzCA ?zzro ?_
  case zzC => tb_start
  case zzF => k_asm
  case zzN => k_asm
  case zzp => tb_rel
  case zzd => ktr_room
  case zzu => ktr_room
  case zzR => exact RT3
  case zzCA => exact CT3
  case zzro => exact hroom
  intro as' qs' NL t4 h4 tk4 hp4 F4 N4 M4
  try dsimp only
  k_steps
  rename Fr _ _ _ _ => F9
  rename News _ _ _ _ => N9
  refine viaF fun hG9 => ?_
  obtain ⟨S9, K9, f9⟩ := made_st (as' := as') (qs' := qs') (rs' := [⟨l5, D5, l6⟩]) S K3 hNR3 hfr (by simp; exact fun e => absurd lt65 (by rw [e]; exact Nat.lt_irrefl _)) M4
  refine hG9 ?_
  rw [← eel] at S9
  exact hret _ as' qs' [⟨l5, D5, l6⟩] NL _ _ _ hnew (by tb_rel) F9 (news_sub N9 (by ktr_unf)) S9 K9 f9 hfr
  exact absurd hso (by assumption)
end

noncomputable def nm3 : Nat → Str | 0 => "html" | 1 => "" | _ => "x"
noncomputable def nmP : Nat → Str | 0 => "p" | _ => ""
theorem nm3_len (k : Nat) : (nm3 k).length ≤ 20 := by
  match k with
  | 0 => show (PySem.Str.ofString "html").length ≤ 20; decide
  | 1 => show (PySem.Str.ofString "").length ≤ 20; decide
  | n + 2 => show (PySem.Str.ofString "x").length ≤ 20; decide
section
variable {prog : Program} {w : World} {A : Around} {E : Value → Shared → Prop} {gh : Heap} {gn : Array GenState} {dr : Drawn} {tk0 : Nat} {os : OsState} {h₀ : Heap} {L : Addr} {m : Str → Option Value} {news : Led} {u : Tok} {Q : Value → Shared → Prop}
theorem pickS {value slice : Expr} {l : Addr} {n k : Nat} {i : Int} {ta tb tc : Tok} (N : News h₀ L gh news) (hm : (l, TO [.str "html" ta, .str "" tb, .str "x" tc] n) ∈ news) (e : i = (k : Int)) (hk : k < 3) (h : ∀ t, Q (.str (nm3 k) t) ⟨gh, gn, dr, tk0, os⟩)
    (hs : subscripted slice false (.ref l) (.int i u) = operate [.ref l, .int i u] (getItem (.ref l) (.int i u)) := by with_unfolding_all rfl) :
    wpAny (model prog w) A (subscriptTail value slice (.ref l) (.int i u)) Q E ⟨gh, gn, dr, tk0, os⟩ := by
  match k, hk, e, h with
  | 0, hk, e, h => exact itemTE N hm e hk (Nat.le_of_ble_eq_true rfl) rfl (h _) hs
  | 1, hk, e, h => exact itemTE N hm e hk (Nat.le_of_ble_eq_true rfl) rfl (h _) hs
  | 2, hk, e, h => exact itemTE N hm e hk (Nat.le_of_ble_eq_true rfl) rfl (h _) hs
theorem pickN {value slice : Expr} {l : Addr} {n k : Nat} {i : Int} {ta tc : Tok} (N : News h₀ L gh news) (hm : (l, TO [.str "html" ta, .none, .str "x" tc] n) ∈ news) (e : i = (k : Int)) (hk : k < 3) (h : ∀ v, OrV v (nm3 k) → Q v ⟨gh, gn, dr, tk0, os⟩)
    (hs : subscripted slice false (.ref l) (.int i u) = operate [.ref l, .int i u] (getItem (.ref l) (.int i u)) := by with_unfolding_all rfl) :
    wpAny (model prog w) A (subscriptTail value slice (.ref l) (.int i u)) Q E ⟨gh, gn, dr, tk0, os⟩ := by
  match k, hk, e, h with
  | 0, hk, e, h => exact itemTE N hm e hk (Nat.le_of_ble_eq_true rfl) rfl (h _ (.inl ⟨_, rfl, by decide⟩)) hs
  | 1, hk, e, h => exact itemTE N hm e hk (Nat.le_of_ble_eq_true rfl) rfl (h _ (.inr ⟨rfl, rfl⟩)) hs
  | 2, hk, e, h => exact itemTE N hm e hk (Nat.le_of_ble_eq_true rfl) rfl (h _ (.inl ⟨_, rfl, by decide⟩)) hs
theorem pickP {value slice : Expr} {l : Addr} {n k : Nat} {i : Int} {ta : Tok} (N : News h₀ L gh news) (hm : (l, TO [.str "p" ta, .none] n) ∈ news) (e : i = (k : Int)) (hk : k < 2) (h : ∀ v, OrV v (nmP k) → Q v ⟨gh, gn, dr, tk0, os⟩)
    (hs : subscripted slice false (.ref l) (.int i u) = operate [.ref l, .int i u] (getItem (.ref l) (.int i u)) := by with_unfolding_all rfl) :
    wpAny (model prog w) A (subscriptTail value slice (.ref l) (.int i u)) Q E ⟨gh, gn, dr, tk0, os⟩ := by
  match k, hk, e, h with
  | 0, hk, e, h => exact itemTE N hm e hk (Nat.le_of_ble_eq_true rfl) rfl (h _ (.inl ⟨_, rfl, by decide⟩)) hs
  | 1, hk, e, h => exact itemTE N hm e hk (Nat.le_of_ble_eq_true rfl) rfl (h _ (.inr ⟨rfl, rfl⟩)) hs
end
section
local macro_rules (kind := PyProof.Rows.tacticWalk_at_) | x => rule9 "subscriptTail" "pickS ?N ?m ?e ?k ?" [("N", kasm9), ("m", kmem9), ("e", asm9), ("k", asm9)] [at9 "own came"] x
local macro_rules (kind := PyProof.Rows.tacticWalk_at_) | x => rule9 "subscriptTail" "pickN ?N ?m ?e ?k ?" [("N", kasm9), ("m", kmem9), ("e", asm9), ("k", asm9)] [at9 "own came"] x
local macro_rules (kind := PyProof.Rows.tacticWalk_at_) | x => rule9 "subscriptTail" "pickP ?N ?m ?e ?k ?" [("N", kasm9), ("m", kmem9), ("e", asm9), ("k", asm9)] [at9 "own came"] x
variable {w : World} {loose : List Str} {mean : ExcName → Option Value} {mg mb : Str → Option Value} {dp un : Nat} {gd : Option (List Code)} {cn : Str} {cs : Scope} {a : Addr} {ccd : Value} {cl : List (Str × Addr)} {outer : List Env} {A₀ : Around} {base h₀ : Heap} {L : Addr} {m : Str → Option Value} {gh : Heap} {gn : Array GenState} {dr : Drawn} {tk0 : Nat} {os : OsState} {Q E : Value → Shared → Prop} {news : Led}
theorem make_dt {T : TA} {as qs : List Addr} {nl : Addr} {rs : List NR} {nds : List Nd} {so dg : Int} {t1 t2 : Tok} (C : Cx w loose mean mg mb outer A₀ base h₀ cs) (F : Fr h₀ L gh m) (N : News h₀ L gh news) (hp : 0 < tk0) (hdp : dp + 8 < recursionLimit) (hun : un + 64 < cLine)
  (S : St w news T as qs nl rs nds) (hroom : nds.length + 2 ≤ 1000) (hso : so.fmod 8 = 7)
  (hret : ∀ (d : Nd) (as' qs' : List Addr) (rs' : List NR) (news' : Led) (t : Tok) (h' : Heap) (tk' : Nat), NewNd d → 0 < tk' → Fr h₀ L h' m → News h₀ L h' news' → St w news' T (as ++ as') (qs ++ qs') nl (rs ++ rs') (nds ++ elNds d) → Keep (nl :: T.ct :: T.lists) news news' → (∀ x ∈ as' ++ qs', ∀ p ∈ news, @LT.lt Nat _ p.1 x) → (∀ x ∈ rs'.map NR.a ++ rs'.map NR.u, ∀ p ∈ news, @LT.lt Nat _ p.1 x) → Q (.int (nds.length : Int) t) ⟨h', gn, dr, tk', os⟩) :
  wpAny (model PySem.Challenge.rw_nz0091_01.row.prog w) (ktrTop dp un gd cn cs L a ccd cl outer) (call (.ref 318) [.ref T.t, .ref nl, .int so t1, .int dg t2]) Q E ⟨gh, gn, dr, tk0, os⟩ := by
  refine viaF fun hG9 => ?_
  have hinst := S.R.inst
  have hdict := S.R.dict
  obtain ⟨nn, hnl⟩ := S.N.list
  have hrl : (rs.map fun r => Value.ref r.a).length ≤ 1000 := by rw [List.length_map, S.N.len]; exact S.N.room
  have hne1 : @Ne Nat T.t nl := fun e => S.sep T.t (by unfold treeAddrs; simp) (by rw [e]; exact List.mem_cons_self ..)
  have hne2 : @Ne Nat T.d nl := fun e => S.sep T.d (by unfold treeAddrs; simp) (by rw [e]; exact List.mem_cons_self ..)
  have hnt : ∀ y : Obj, (nl, y) ∈ news → y.cls ≠ .type "tuple" := fun y hy => news_fun N hnl hy ▸ lo_cls
  obtain ⟨B, X, TT, hk⟩ := C
  refine hG9 ?_
  refine' enterP (binds := [(PySem.Str.ofString "tree", Value.ref T.t), (PySem.Str.ofString "notes", Value.ref nl), (PySem.Str.ofString "sort", Value.int so t1), (PySem.Str.ofString "digit", Value.int dg t2)]) B F X N TT hk hp (by ktr_room) ?ho ?hcd ?hb ?hl rfl ?_ ?c1 ?c2 ?c3 ?c4
  case ho => k_is
  case hcd => k_is
  case hb => first | exact BindsTo.of_eq rfl | exact hb _ _ _ _ (by k_is) | exact binds_K (by k_in) rfl (by k_is) rfl rfl rfl
  case hl => exact locs rfl
  case c1 => rfl
  case c2 => rfl
  case c3 => rfl
  case c4 => decide
  intro g L₁ h₁ tk hp₁ FG mm F₁ N₁ B₁ X₁ T₁ A₁ qk ek
  k_steps
  unfold Stop
  refine' law_text_spec ?zzC ?zzF ?zzN ?zzp ?zzd ?zzu  ?_
  case zzC => tb_start
  case zzF => k_asm
  case zzN => k_asm
  case zzp => tb_rel
  case zzd => ktr_room
  case zzu => ktr_room
  intro x tx hx tkx hxl hpx Fx Nx
  try dsimp only
  refine viaF fun hG9 => ?_
  have h3a := Int.fmod_nonneg_of_pos (so.fdiv 8) (b := 3) (by decide)
  have h3b := Int.fmod_lt_of_pos (so.fdiv 8) (b := 3) (by decide)
  have h2a := Int.fmod_nonneg_of_pos (so.fdiv 8) (b := 2) (by decide)
  have h2b := Int.fmod_lt_of_pos (so.fdiv 8) (b := 2) (by decide)
  obtain ⟨k3, e3, hk3⟩ : ∃ k : Nat, (so.fdiv 8).fmod 3 = (k : Int) ∧ k < 3 := fmodN 3 rfl rfl
  obtain ⟨k2, e2, hk2⟩ : ∃ k : Nat, (so.fdiv 8).fmod 2 = (k : Int) ∧ k < 2 := fmodN 2 rfl rfl
  refine hG9 ?_
  clear h3a h3b h2a h2b
  have hs6 : ¬ so.fmod 8 = 6 := by rw [hso]; decide
  k_steps
  · exact absurd (show so.fmod 8 = 6 by assumption) hs6
  unfold Stop
  rename News _ _ _ _ => N9
  refine viaF fun hG9 => ?_
  obtain ⟨led3, l5, l6, D5, n5, u1, u2, u3, u4, u5, N3, hnl3, hrow3, hkid3, htup3, K3, lt6, lt65⟩ : NewRow g L₁ _ nl (rs.map fun r => .ref r.a) (nn + 1) "doctype" "" (nm3 k3) "" news := by
    rename (_ ∧ AllLt _ news) => hD
    rename (_ ∧ _ ∧ AllLt _ news) => hA
    rename (_ ∧ _ ∧ _ ∧ AllLt _ news) => hB
    have hDn := Nat.ne_of_gt (allLt_all hD.2 _ hnl)
    have hA2 := allLt_all hA.2.2
    have hB2 := allLt_all hB.2.2.2
    have up2 : ∀ {p a b : Addr × Obj} {l : Led}, p ∈ l → p ∈ a :: b :: l := fun h => List.mem_cons_of_mem _ (List.mem_cons_of_mem _ h)
    exact ⟨_, _, _, _, _, _, _, _, _, _, N9, up2 (setL_self (up2 (up2 hnl))), up2 (setL_ne (Nat.ne_of_gt (hB2 _ hnl)) (List.mem_cons_self ..)), up2 (setL_ne (Nat.ne_of_gt (hA2 _ hnl)) (List.mem_cons_of_mem _ (List.mem_cons_self ..))),
      up2 (setL_ne hDn (up2 (List.mem_cons_self ..))), (keep_pre (pre := [_, _, _, _]) hnt).sub (Sub.cons (Sub.cons Sub.refl)), hA2, hB.1⟩
  have hl5 : ∀ p ∈ news, @LT.lt Nat _ p.1 l5 := fun p hp => Nat.lt_trans (lt6 p hp) lt65
  obtain ⟨RT3, CT3⟩ := S.tree_of K3
  have hinst3 := RT3.inst
  have hdict3 := RT3.dict
  have hNR3 := notes_add (d := ⟨"doctype", "", nm3 k3, "", [], [], -1⟩) S.N S.nd K3 hnl3 hrow3 htup3 .nil hkid3 rfl (succ1 hroom)
  have htm : (⟨"doctype", "", nm3 k3, "", [], [], -1⟩ : Nd).isTem = false := isTem_kind (show (PySem.Str.ofString "doctype" == PySem.Str.ofString "element") = false by decide +kernel)
  have eel := elNds_one htm
  have hnew : NewNd ⟨"doctype", "", nm3 k3, "", [], [], -1⟩ := ⟨⟨nm3_len k3, Nat.zero_le _, Nat.zero_le _, fun _ h => absurd h (by simp), fun _ h => absurd h (by simp)⟩, rfl, rfl, by simp, fun h => absurd h (by show ¬ (PySem.Str.ofString "" == PySem.Str.ofString "html") = true; decide +kernel)⟩
  have hfr : ∀ z ∈ ([⟨l5, D5, l6⟩] : List NR).map NR.a ++ ([⟨l5, D5, l6⟩] : List NR).map NR.u, ∀ p ∈ news, @LT.lt Nat _ p.1 z := fun z hz p hp => by
    simp only [List.map_cons, List.map_nil, List.cons_append, List.nil_append, List.mem_cons, List.not_mem_nil, or_false] at hz
    rcases hz with rfl | rfl
    · exact hl5 p hp
    · exact lt6 p hp
  refine hG9 ?_
  refine' doctype_spec (x := nm3 k3) (z := nmP k2) (y := x) ?zzC ?zzF ?zzN ?zzp ?zzd ?zzu ?zzR ?zzCA ?zzro ?zzhy ?zzv1 ?zzv2 ?_
  case zzC => tb_start
  case zzF => k_asm
  case zzN => k_asm
  case zzp => tb_rel
  case zzd => ktr_room
  case zzu => ktr_room
  case zzR => exact RT3
  case zzCA => exact CT3
  case zzro => exact hroom
  case zzhy => exact hxl
  case zzv1 => assumption
  case zzv2 => assumption
  intro as' qs' NL t4 h4 tk4 hp4 F4 N4 M4
  try dsimp only
  k_steps
  rename Fr _ _ _ _ => F9
  rename News _ _ _ _ => N9
  refine viaF fun hG9 => ?_
  obtain ⟨S9, K9, f9⟩ := made_st (as' := as') (qs' := qs') (rs' := [⟨l5, D5, l6⟩]) S K3 hNR3 hfr (by simp; exact fun e => absurd lt65 (by rw [e]; exact Nat.lt_irrefl _)) M4
  refine hG9 ?_
  rw [← eel] at S9
  exact hret _ as' qs' [⟨l5, D5, l6⟩] NL _ _ _ hnew (by tb_rel) F9 (news_sub N9 (by ktr_unf)) S9 K9 f9 hfr
theorem law_make_spec {T : TA} {as qs : List Addr} {nl : Addr} {rs : List NR} {nds : List Nd} {so dg : Int} {t1 t2 : Tok} (C : Cx w loose mean mg mb outer A₀ base h₀ cs) (F : Fr h₀ L gh m) (N : News h₀ L gh news) (hp : 0 < tk0) (hdp : dp + 8 < recursionLimit) (hun : un + 64 < cLine)
  (S : St w news T as qs nl rs nds) (hroom : nds.length + 2 ≤ 1000)
  (hret : ∀ (d : Nd) (as' qs' : List Addr) (rs' : List NR) (news' : Led) (t : Tok) (h' : Heap) (tk' : Nat), NewNd d → 0 < tk' → Fr h₀ L h' m → News h₀ L h' news' → St w news' T (as ++ as') (qs ++ qs') nl (rs ++ rs') (nds ++ elNds d) → Keep (nl :: T.ct :: T.lists) news news' → (∀ x ∈ as' ++ qs', ∀ p ∈ news, @LT.lt Nat _ p.1 x) → (∀ x ∈ rs'.map NR.a ++ rs'.map NR.u, ∀ p ∈ news, @LT.lt Nat _ p.1 x) → Q (.int (nds.length : Int) t) ⟨h', gn, dr, tk', os⟩) :
  wpAny (model PySem.Challenge.rw_nz0091_01.row.prog w) (ktrTop dp un gd cn cs L a ccd cl outer) (call (.ref 318) [.ref T.t, .ref nl, .int so t1, .int dg t2]) Q E ⟨gh, gn, dr, tk0, os⟩ := by
  have h1 := Int.fmod_nonneg_of_pos so (b := 8) (by decide)
  have h2 := Int.fmod_lt_of_pos so (b := 8) (by decide)
  by_cases c1 : so.fmod 8 < 4
  · exact make_el C F N hp hdp hun S hroom c1 hret
  · by_cases c2 : so.fmod 8 < 6
    · exact make_tx C F N hp hdp hun S hroom c2 (Int.not_lt.mp c1) hret
    · by_cases c3 : so.fmod 8 = 6
      · exact make_co C F N hp hdp hun S hroom c3 hret
      · exact make_dt C F N hp hdp hun S hroom (seven h2 c2 c3) hret
end

section
variable {prog : Program} {w : World} {A : Around} {E : Value → Shared → Prop} {s : Shared}
/-- one item drawn from a tuple's iterator -/
theorem nextOf_tup_item {it t : Addr} {i : Nat} {items} {x : Value} {Q : Value → Shared → Prop} (hit : s.heap.IsTupleIter it t i) (ht : s.heap.IsTuple t items) (hx : items[i]? = some x)
    (hQ : ∀ h', h'.IsTupleIter it t (i + 1) → Heap.SameBut it s.heap h' → Q x { s with heap := h' }) : wpAny (model prog w) A (Builtin.SmallTypes.nextOf (.ref it)) Q E s := by
  obtain ⟨o, ho, hc, hd⟩ := id hit
  obtain ⟨ol, hol, _, nl, hdl⟩ := ht
  unfold Builtin.SmallTypes.nextOf
  refine wpAny_bind (wpAny_callSpecial?_slot (name := Str.ofString "__next__") hit.typeIs F.slot_tuple_iterator_next (wpAny_call_entry F.slot_tuple_iterator_next hit.typeIs F.entry_tuple_iterator_next ?_ (F.args_tuple_iterator_next_1 _)))
  show wpAny _ _ (field (.ref it) 0 >>= _) _ _ s
  refine wpAny_bind (wpAny_field ho hd (x := .ref t) rfl ?_)
  show wpAny _ _ (if (Value.ref t == Value.none) = true then _ else _) _ _ s
  rw [if_neg (show ¬ ((Value.ref t == Value.none) = true) from Bool.false_ne_true)]
  show wpAny _ _ (field (.ref it) 1 >>= _) _ _ s
  refine wpAny_bind (wpAny_field ho hd (x := .int i 0) rfl ?_)
  show wpAny _ _ (seqItems? (.ref t) >>= _) _ _ s
  refine wpAny_bind (wpAny_seqItems hol hdl ?_)
  simp only [Int.toNat_natCast, hx]
  refine wpAny_bind (wpAny_setField ho hd (by simp) (wpAny_pure ⟨x, rfl, wpAny_pure (hQ _ ?_ (Heap.SameBut.update ..))⟩))
  exact ⟨_, Heap.get?_update_self _ ho (Obj.isFreed_of_fields (Obj.data_mapFields hd _)), (Obj.cls_mapFields ..).trans hc, by rw [Obj.data_mapFields hd]; simp [rawInt]⟩
theorem nextOf_tup_end {it t : Addr} {i : Nat} {items} {Q : Value → Shared → Prop} (hh : A.handled = none) (hit : s.heap.IsTupleIter it t i) (ht : s.heap.IsTuple t items) (hx : items[i]? = none)
    (hE : ∀ h' e, Heap.ExtBut it s.heap h' → (∃ o, h'.get? e = some o ∧ o.cls = .type "StopIteration") → E (.ref e) { s with heap := h' }) : wpAny (model prog w) A (Builtin.SmallTypes.nextOf (.ref it)) Q E s := by
  obtain ⟨o, ho, hc, hd⟩ := id hit
  obtain ⟨ol, hol, _, nl, hdl⟩ := ht
  unfold Builtin.SmallTypes.nextOf
  refine wpAny_bind (wpAny_callSpecial?_slot (name := Str.ofString "__next__") hit.typeIs F.slot_tuple_iterator_next (wpAny_call_entry F.slot_tuple_iterator_next hit.typeIs F.entry_tuple_iterator_next ?_ (F.args_tuple_iterator_next_1 _)))
  show wpAny _ _ (field (.ref it) 0 >>= _) _ _ s
  refine wpAny_bind (wpAny_field ho hd (x := .ref t) rfl ?_)
  show wpAny _ _ (if (Value.ref t == Value.none) = true then _ else _) _ _ s
  rw [if_neg (show ¬ ((Value.ref t == Value.none) = true) from Bool.false_ne_true)]
  show wpAny _ _ (field (.ref it) 1 >>= _) _ _ s
  refine wpAny_bind (wpAny_field ho hd (x := .int i 0) rfl ?_)
  show wpAny _ _ (seqItems? (.ref t) >>= _) _ _ s
  refine wpAny_bind (wpAny_seqItems hol hdl ?_)
  simp only [Int.toNat_natCast, hx]
  refine wpAny_bind (wpAny_rule (wpAny_bind (wpAny_setField ho hd (by simp) ?_)))
  show wpAny _ _ (newExc (.type "StopIteration") [] >>= _) _ _ _
  refine wpAny_bind ?_
  simp only [newExc, newTuple]
  refine wpAny_bind (wpAny_newObj_type ?_ (by size_fits))
  refine wpAny_bind (m := firstArgMember _ _) (wpAny_of_eq (a := Value.none) (by first | rfl | (simp only [firstArgMember]; rfl)) ?_)
  refine wpAny_newObj_type ?_ (by size_fits)
  simp only [raiseNew]
  refine wpAny_bind (wpAny_handled ?_)
  first | rw [show A.in1.handled = none from hh] | rw [hh]
  refine wpAny_bind (wpAny_pure (wpAny_throw ?_))
  exact hE _ _ (((Heap.SameBut.update ..).extBut.push _).push _) ⟨_, Heap.get?_push_size _ rfl, rfl⟩
end
theorem draws_tup {prog : Program} {w : World} {A : Around} (hh : A.handled = none) (it l : Addr) (hne : l ≠ it) (items : Array Value) :
    Draws prog w A it [it, l] items.size (fun i v => items[i]? = some v) (fun i h => h.IsTupleIter it l i ∧ h.IsTuple l items) where
  live := fun _ _ st => let ⟨o, ho, _⟩ := st.1; ⟨o, ho⟩
  frame := fun _ _ _ st hk => ⟨st.1.at fun o e => hk it (by simp) o e, st.2.at fun o e => hk l (by simp) o e⟩
  item := fun i s Q E hi st hQ => by
    refine nextOf_tup_item st.1 st.2 (x := items[i]) (by simp [hi]) fun h' hit' hs' => ?_
    exact hQ _ h' s.toks (by simp [hi]) ⟨hit', st.2.extBut hs'.extBut hne⟩ hs'
  done := fun s Q E st hE => nextOf_tup_end hh st.1 st.2 (by simp) hE
set_option maxRecDepth 100000 in
theorem meets_enum_tup (l : Addr) (items : Array Value) (n : Nat) (dct : Option Addr) (sl : Array (Option Value)) :
    Meets (Builtin.«enumerate.__new__» ⟨[.type "enumerate", .ref l], []⟩) (fun _ R s => s.heap.get? l = some { cls := .type "tuple", dict := dct, data := .seq items n, slots := sl } ∧
      R (.ok (.ret (.ref (s.heap.push { cls := .type "tuple_iterator", data := .fields #[.ref l, .int 0 0] }).objs.size)))
        { s with heap := (s.heap.push { cls := .type "tuple_iterator", data := .fields #[.ref l, .int 0 0] }).push { cls := .type "enumerate", data := .fields #[.none, .bool false, .ref s.heap.objs.size, rawInt 0, .none, .none] } }) :=
  .of_wp fun prog w A R s h => by
    obtain ⟨hp, g, d, tk, os⟩ := s; obtain ⟨hl, h⟩ := h
    have hsub := sub_enumerate
    have hL : Heap.IsTuple (Shared.heap ⟨hp, g, d, tk, os⟩) l items := ⟨_, hl, rfl, n, rfl⟩
    wp_walk using AutoSeq1.wpAny_loadPart' hl
    refine wpAny_stack_any fun st => wpAny_pure ?_
    split
    · rename_i c _ _ _ _ _
      cases (c == Value.type "enumerate")
      · wp_walk using AutoSeq1.wpAny_loadPart' hl, wpAny_pyIter_tuple hL
        exact ⟨_, rfl, h⟩
      · wp_walk using AutoSeq1.wpAny_loadPart' hl, wpAny_pyIter_tuple hL
        exact ⟨_, rfl, h⟩
    · wp_walk using AutoSeq1.wpAny_loadPart' hl, wpAny_pyIter_tuple hL
      exact ⟨_, rfl, h⟩
section
variable {prog : Program} {w : World} {A : Around} {E : Value → Shared → Prop} {s : Shared}
theorem call_enum_tup {l : Addr} {items : Array Value} {Q : Value → Shared → Prop} (hL : s.heap.IsTuple l items)
    (h : ∀ h', IsEnum h' (s.heap.objs.size + 1) s.heap.objs.size 0 .none → h'.IsTupleIter s.heap.objs.size l 0 → h'.objs.size = s.heap.objs.size + 2 →
      (∀ b o, s.heap.get? b = some o → h'.get? b = some o) → Q (.ref (s.heap.objs.size + 1)) { s with heap := h' }) :
    wpAny (model prog w) A (call (.type "enumerate") [.ref l]) Q E s := by
  obtain ⟨⟨c, dct, dt, sl⟩, hl, hc, n, hd⟩ := hL
  replace hc : c = .type "tuple" := hc
  replace hd : dt = .seq items n := hd
  subst hc hd
  refine callType_new F.called_enumerate (by decide) (F.typeCall_enumerate_1 _) (F.newCall_enumerate_1 _) (fun obj => F.args_object_init_2 obj _) F.entry_enumerate_new (meets_enum_tup l items n dct sl) ⟨hl, ?_⟩
  have hz : (s.heap.push { cls := .type "tuple_iterator", data := .fields #[.ref l, .int 0 0] }).objs.size = s.heap.objs.size + 1 := Heap.size_push ..
  show _ ∧ _
  rw [hz]
  have he : IsEnum ((s.heap.push { cls := .type "tuple_iterator", data := .fields #[.ref l, .int 0 0] }).push { cls := .type "enumerate", data := .fields #[.none, .bool false, .ref s.heap.objs.size, rawInt 0, .none, .none] }) (s.heap.objs.size + 1) s.heap.objs.size 0 .none := by
    have := Heap.get?_push_size (s.heap.push { cls := .type "tuple_iterator", data := .fields #[.ref l, .int 0 0] }) (o := { cls := .type "enumerate", data := .fields #[.none, .bool false, .ref s.heap.objs.size, rawInt 0, .none, .none] }) rfl
    rw [hz] at this; exact this
  refine ⟨⟨_, he, rfl⟩, h _ he ⟨_, Heap.get?_push_of_some _ (Heap.get?_push_size _ rfl), rfl, rfl⟩ (by rw [Heap.size_push, hz]) fun b o x => Heap.get?_push_of_some _ (Heap.get?_push_of_some _ x)⟩
end

/-- an enumerate and its source's iterator, off the ledger -/
structure EFresh (h₀ : Heap) (L : Addr) (news : Led) (e it : Addr) : Prop where
  ei : e ≠ it
  eL : L ≠ e
  iL : L ≠ it
  e0 : h₀.get? e = none
  i0 : h₀.get? it = none
  off : ∀ p ∈ news, p.1 ≠ e ∧ p.1 ≠ it
section
variable {prog : Program} {w : World} {A : Around} {E : Value → Shared → Prop} {s : Shared} {h₀ : Heap} {L : Addr} {m : Str → Option Value} {news : Led}
theorem efresh_of (F : Fr h₀ L s.heap m) (N : News h₀ L s.heap news) : EFresh h₀ L news (s.heap.objs.size + 1) s.heap.objs.size := by
  have fresh₀ : ∀ a, s.heap.objs.size ≤ a → h₀.get? a = none := fun a ha => by
    cases e : h₀.get? a with
    | none => rfl
    | some o' => exact absurd (Heap.lt_size (F.keep a o' e)) (Nat.not_lt.mpr ha)
  have hL := F.ns.lt
  exact ⟨Nat.succ_ne_self _, Nat.ne_of_lt (Nat.lt_succ_of_lt hL), Nat.ne_of_lt hL, fresh₀ _ (Nat.le_succ _), fresh₀ _ (Nat.le_refl _), fun p hp => ⟨Nat.ne_of_lt (Nat.lt_succ_of_lt (Heap.lt_size (N p hp).1)), Nat.ne_of_lt (Heap.lt_size (N p hp).1)⟩⟩
theorem enumL {l : Addr} {vs : List Value} {n : Nat} {Q : Value → Shared → Prop} (F : Fr h₀ L s.heap m) (N : News h₀ L s.heap news) (hm : (l, LO vs n) ∈ news)
    (h : ∀ e it h', IsEnum h' e it 0 .none → h'.IsListIter it l 0 → EFresh h₀ L news e it → e < h'.objs.size → it < h'.objs.size → Fr h₀ L h' m → News h₀ L h' news → Q (.ref e) { s with heap := h' }) :
    wpAny (model prog w) A (call (.type "enumerate") [.ref l]) Q E s :=
  call_enumerate_list (lo_isList N hm) fun h' he hi hz hk => h _ _ h' he hi (efresh_of F N) (by rw [hz]; exact Nat.lt_succ_self _) (by rw [hz]; exact Nat.lt_succ_of_lt (Nat.lt_succ_self _)) (F.keeps hk) (N.grown hk)
theorem enumT {l : Addr} {vs : List Value} {n : Nat} {Q : Value → Shared → Prop} (F : Fr h₀ L s.heap m) (N : News h₀ L s.heap news) (hm : (l, TO vs n) ∈ news)
    (h : ∀ e it h', IsEnum h' e it 0 .none → h'.IsTupleIter it l 0 → EFresh h₀ L news e it → e < h'.objs.size → it < h'.objs.size → Fr h₀ L h' m → News h₀ L h' news → Q (.ref e) { s with heap := h' }) :
    wpAny (model prog w) A (call (.type "enumerate") [.ref l]) Q E s :=
  call_enum_tup (to_isTup N hm) fun h' he hi hz hk => h _ _ h' he hi (efresh_of F N) (by rw [hz]; exact Nat.lt_succ_self _) (by rw [hz]; exact Nat.lt_succ_of_lt (Nat.lt_succ_self _)) (F.keeps hk) (N.grown hk)
end
/-- the end of a turn over an enumerate -/
noncomputable def TurnE (h₀ : Heap) (L e it : Addr) (oe oi : Obj) (Jn : (Str → Option Value) → Led → Prop) (s₁ : Shared) (Q : Flow → Shared → Prop) (f : Flow) (s₂ : Shared) : Prop :=
  match f with
  | .ret v => Q (.ret v) s₂
  | .brk => Q .next s₂
  | _ => ∃ h' tk m' news', s₂ = { s₁ with heap := h', toks := tk } ∧ Fr h₀ L h' m' ∧ News h₀ L h' ((e, oe) :: (it, oi) :: news') ∧ (∀ p ∈ news', p.1 ≠ e ∧ p.1 ≠ it) ∧ Jn m' news'
theorem turnE_next {h₀ : Heap} {L e it : Addr} {oe oi : Obj} {Jn : (Str → Option Value) → Led → Prop} {s₁ : Shared} {Q : Flow → Shared → Prop} {h' : Heap} {tk : Nat} {m' : Str → Option Value} {news' : Led}
    (F : Fr h₀ L h' m') (N : News h₀ L h' ((e, oe) :: (it, oi) :: news')) (off : ∀ p ∈ news', p.1 ≠ e ∧ p.1 ≠ it) (hj : Jn m' news') : TurnE h₀ L e it oe oi Jn s₁ Q .next { s₁ with heap := h', toks := tk } :=
  ⟨h', tk, m', news', rfl, F, N, off, hj⟩
theorem fr_but2 {h₀ h h' : Heap} {L e it : Addr} {m : Str → Option Value} (F : Fr h₀ L h m) (hk : ∀ b o, b ∉ [e, it] → h.get? b = some o → h'.get? b = some o) (hL : L ≠ e) (hI : h₀.get? e = none) (hL2 : L ≠ it) (hI2 : h₀.get? it = none) : Fr h₀ L h' m :=
  ⟨F.ns.at' fun o e => hk L o (by simp [hL, hL2]) e, fun b o q => hk b o (fun hm => by
    rcases List.mem_cons.mp hm with rfl | hm
    · rw [hI] at q; cases q
    · rw [List.mem_singleton.mp hm, hI2] at q; cases q) (F.keep b o q), F.above⟩
theorem news_but2 {h₀ h h' : Heap} {L e it : Addr} {news : Led} (N : News h₀ L h news) (hk : ∀ b o, b ∉ [e, it] → h.get? b = some o → h'.get? b = some o) (off : ∀ p ∈ news, p.1 ≠ e ∧ p.1 ≠ it) : News h₀ L h' news :=
  fun p hp => ⟨hk _ _ (by have := off p hp; simp [this.1, this.2]) (N p hp).1, (N p hp).2⟩
section
variable {prog : Program} {w : World} {A : Around} {s : Shared} {env : Env} {h₀ : Heap}
/-- a for with two targets over the enumerate of a list of the ledger -/
theorem forEnum {x x₂ : Str} {px px₂ tp : Pos} {k₀ : Nat} {body : List Stmt} {e it l : Addr} {vs : List Value} {n₁ : Nat} {m : Str → Option Value} {news : Led} {Q : Flow → Shared → Prop}
    (hh : A.handled = none) (hx : env.kindOf x = some .local) (hx₂ : env.kindOf x₂ = some .local)
    (hp : (env.scope.kind == .class || (env.scope.kind == .module && env.locals != env.globals)) = false)
    (F : Fr h₀ env.locals s.heap m) (N : News h₀ env.locals s.heap news) (hm : (l, LO vs n₁) ∈ news) (hpos : 0 < s.toks) (he : IsEnum s.heap e it 0 .none) (hit : s.heap.IsListIter it l 0) (X : EFresh h₀ env.locals news e it)
    (J : Nat → (Str → Option Value) → Led → Prop) (hJS : ∀ i m' nw, J i m' nw → (l, LO vs n₁) ∈ nw) (h0 : J 0 m news)
    (step : ∀ i v t m' news' h tk oe oi, vs[i]? = some v → J i m' news' → 0 < tk → Fr h₀ env.locals h (fun y => if y = x₂ then some v else if y = x then some (.int (i : Int) t) else m' y) → News h₀ env.locals h ((e, oe) :: (it, oi) :: news') → (∀ p ∈ news', p.1 ≠ e ∧ p.1 ≠ it) →
      wpAny (model prog w) A (execs body env) (TurnE h₀ env.locals e it oe oi (J (i + 1)) { s with heap := h, toks := tk } Q) (fun _ _ => False) { s with heap := h, toks := tk })
    (done : ∀ m' news' h tk, J vs.length m' news' → 0 < tk → Fr h₀ env.locals h m' → News h₀ env.locals h news' → Q .next { s with heap := h, toks := tk }) :
    wpAny (model prog w) A (pyIter (.ref e)) (fun it s₂ => codeAny (model prog w) A (.forLoop (.Tuple [.Name x px, .Name x₂ px₂] k₀ tp) it body [] env) (fun r s' => match r with | .ok f => Q f s' | .error e => cameBackBy (model prog w) A env (fun _ _ => False) e s') s₂) (fun _ _ => False) s := by
  have hl := lo_isList N hm
  have hle : l ≠ e := (X.off _ hm).1
  have hli : l ≠ it := (X.off _ hm).2
  have W := WalksT.enumerate (prog := prog) (w := w) hh e it l X.ei hle hli vs.toArray
  refine wpAny_pyIter_enum he ?_
  refine codeAny_forLoop_any
    (fun k s' => ∃ h' tk m' news' i, s' = { s with heap := h', toks := tk } ∧ 0 < tk ∧ ((∃ old, IsEnum h' e it ((i : Nat) : Int) old) ∧ h'.IsListIter it l i ∧ h'.IsList l vs.toArray) ∧ Fr h₀ env.locals h' m' ∧ News h₀ env.locals h' news' ∧ (∀ p ∈ news', p.1 ≠ e ∧ p.1 ≠ it) ∧ J i m' news' ∧ i ≤ vs.length ∧ k = vs.length + 1 - i) ?_ (vs.length + 1)
    ⟨s.heap, s.toks, m, news, 0, rfl, hpos, ⟨⟨_, he⟩, hit, hl⟩, F, N, X.off, h0, Nat.zero_le _, rfl⟩
  rintro k s' ⟨h', tk, m', news', i, rfl, hp', hst', F', N', off', hJ, hi, rfl⟩
  by_cases hlt : i < vs.length
  · refine wpAny_pos hp' ?_
    refine W.item i _ _ _ (by simpa using hlt) hst' fun T vals h₁ tk₁ hP hTge hT₁ hmid₁ hk₁ hp₁ => ?_
    obtain ⟨t₁, xv, hxv, rfl⟩ := hP
    have F₁ := fr_but2 F' hk₁ X.eL X.e0 X.iL X.i0
    have N₁ := news_but2 N' hk₁ off'
    refine W.go _ _ _ i T _ _ _ hmid₁ fun h₂ hst₂ hk₂ => ?_
    have hTap := W.apart _ _ _ hmid₁
    have hT₂ : IsTup h₂ T #[.int (i : Int) t₁, xv] := by obtain ⟨o, q, r⟩ := hT₁; exact ⟨o, hk₂ _ _ hTap q, r⟩
    have F₂ := fr_but2 F₁ hk₂ X.eL X.e0 X.iL X.i0
    have N₂ := news_but2 N₁ hk₂ off'
    refine assign_Tuple_tuple hh hT₂ rfl rfl fun h₃ he₃ => ?_
    have he' : ∀ b o, h₂.get? b = some o → h₃.get? b = some o := fun b o q => he₃ b o (Nat.ne_of_lt (Heap.lt_size q)) q
    have F₃ := F₂.keeps he'
    have N₃ := N₂.grown he'
    have hst₃ := W.frame _ _ h₃ hst₂ fun b _ o q => he' b o q
    refine assignInOrder_cons (wpAny_assign_Name (wpAny_storeName_local hx F₃.ns (fun h₄ hn₄ hs₄ => ?_) hp))
    have F₄ := F₃.set hn₄ hs₄
    refine assignInOrder_cons (wpAny_assign_Name (wpAny_storeName_local hx₂ F₄.ns (fun h₅ hn₅ hs₅ => ?_) hp))
    have F₅ := F₄.set hn₅ hs₅
    refine assignInOrder_nil ?_
    have hst₅ : (∃ old, IsEnum h₅ e it ((i + 1 : Nat) : Int) old) ∧ h₅.IsListIter it l (i + 1) ∧ h₅.IsList l vs.toArray := by
      refine W.frame (i + 1) _ _ hst₃ fun b hb o q => ?_
      have hbL : b ≠ env.locals := by
        simp only [List.mem_cons, List.not_mem_nil, or_false] at hb
        rcases hb with rfl | rfl | rfl
        · exact X.eL.symm
        · exact X.iL.symm
        · exact (N _ hm).2.1
      exact hs₅.extBut b o hbL (hs₄.extBut b o hbL q)
    obtain ⟨⟨old₅, hoe⟩, ⟨oi, hoi, hoir⟩, hl₅⟩ := id hst₅
    obtain ⟨oe, hoe, hoe'⟩ : ∃ oe, h₅.get? e = some oe ∧ ∀ h : Heap, h.get? e = some oe → IsEnum h e it ((i + 1 : Nat) : Int) old₅ := ⟨_, hoe, fun _ q => q⟩
    have N₅ : News h₀ env.locals h₅ ((e, oe) :: (it, oi) :: news') := fun p hp => by
      rcases List.mem_cons.mp hp with rfl | hp
      · exact ⟨hoe, X.eL.symm, X.e0⟩
      · rcases List.mem_cons.mp hp with rfl | hp
        · exact ⟨hoi, X.iL.symm, X.i0⟩
        · exact ((N₃.set hs₄).set hs₅) p hp
    refine wpAny_pos (s := ⟨h₅, s.gens, s.drawn, _, s.os⟩) (Nat.succ_pos _) (wpAny_mono (step i xv t₁ m' news' h₅ _ oe oi (by simpa using hxv) hJ (Nat.succ_pos _) F₅ N₅ off') (fun f s₃ h₃ hp₃ => ?_) fun _ _ e => e.elim)
    have fin : (∃ h' tk m' news', s₃ = { s with heap := h', toks := tk } ∧ Fr h₀ env.locals h' m' ∧ News h₀ env.locals h' ((e, oe) :: (it, oi) :: news') ∧ (∀ p ∈ news', p.1 ≠ e ∧ p.1 ≠ it) ∧ J (i + 1) m' news') →
        ∃ k, k < vs.length + 1 - i ∧ ∃ h' tk m' news' j, s₃ = { s with heap := h', toks := tk } ∧ 0 < tk ∧ ((∃ old, IsEnum h' e it ((j : Nat) : Int) old) ∧ h'.IsListIter it l j ∧ h'.IsList l vs.toArray) ∧ Fr h₀ env.locals h' m' ∧ News h₀ env.locals h' news' ∧ (∀ p ∈ news', p.1 ≠ e ∧ p.1 ≠ it) ∧ J j m' news' ∧ j ≤ vs.length ∧ k = vs.length + 1 - j := by
      rintro ⟨h₄, tk₄, m₄, news₄, rfl, F₄, N₄, off₄, hJ₄⟩
      have N₆ : News h₀ env.locals h₄ news₄ := fun p hp => N₄ p (List.mem_cons_of_mem _ (List.mem_cons_of_mem _ hp))
      exact ⟨vs.length + 1 - (i + 1), subTurn hlt, h₄, tk₄, m₄, news₄, i + 1, rfl, hp₃, ⟨⟨old₅, hoe' _ (N₄ _ (List.mem_cons_self ..)).1⟩, ⟨oi, (N₄ _ (List.mem_cons_of_mem _ (List.mem_cons_self ..))).1, hoir⟩, ⟨_, (N₆ _ (hJS _ _ _ hJ₄)).1, rfl, _, rfl⟩⟩, F₄, N₆, off₄, hJ₄, hlt, rfl⟩
    cases f with
    | ret v => exact h₃
    | brk => exact h₃
    | next => exact fin h₃
    | cont => exact fin h₃
  · have hin : i = vs.length := by omega
    subst hin
    refine wpAny_pos hp' (W.done _ _ _ (by simpa using hst') fun h₁ tk₁ hk₁ hp₁ => wpAny_execs_nil ?_)
    exact done m' news' h₁ tk₁ hJ hp₁ (fr_but2 F' hk₁ X.eL X.e0 X.iL X.i0) (news_but2 N' hk₁ off')
end

section
open LCg
variable {prog : Program} {w : World} {A : Around} {E : Value → Shared → Prop} {s : Shared} {h₀ : Heap} {L : Addr} {m : Str → Option Value} {env : Env}
theorem compLoopE {elt target iter : Expr} {ifs : List Expr} {scope : Scope} {pos : Pos} {it acc : Value} {env : Env} {R : Result → Shared → Prop} (I : Nat → Shared → Prop)
    (turn : ∀ n s, I n s → wpAny (model prog w) A (pyNext it) (fun r s₁ => match r with
      | none => R (.ok .next) s₁
      | some v => wpAny (model prog w) A (letOwnedTupleGo target it v) (fun _ s₁' => wpAny (model prog w) A (assign target env v) (fun _ s₂ =>
          wpAny (model prog w) A (forIn ifs true fun c r => if r = true then do let ok ← isTrue c env (eval c env); pure (ForInStep.yield ok) else pure (ForInStep.yield r)) (fun ok s₃ =>
            if ok = true then wpAny (model prog w) A (eval elt env) (fun x s₄ =>
              wpAny (model prog w) A (call (.builtin "list.append") [acc, x]) (fun _ s₅ => ∃ m, m < n ∧ I m s₅) (notedBy (model prog w) A env fun e s' => R (.error e) s') s₄) (notedBy (model prog w) A env fun e s' => R (.error e) s') s₃
            else ∃ m, m < n ∧ I m s₃) (notedBy (model prog w) A env fun e s' => R (.error e) s') s₂) (notedBy (model prog w) A env fun e s' => R (.error e) s') s₁') (notedBy (model prog w) A env fun e s' => R (.error e) s') s₁) (notedBy (model prog w) A env fun e s' => R (.error e) s') s)
    (n : Nat) (h : I n s) : codeAny (model prog w) A (.compLoop (.ListComp elt [⟨target, iter, ifs, 0⟩] scope pos) 0 it acc env) R s := by
  refine codeAny_loop rfl I (fun n s hI => ?_) n h
  show wpAny _ A ((compTurn (.ListComp elt [⟨target, iter, ifs, 0⟩] scope pos) 0 it acc env).onRaise (fun x => do noteFrame x env; theTreesLotGoes x)) _ _ s
  refine wpAny_noted ?_
  rw [compTurn_list]
  refine wpAny_bind (wpAny_standAt (wpAny_bind (wpAny_mono (turn n s hI) (fun r s₁ h₁ => ?_) fun _ _ h' => h')))
  cases r with
  | none => exact wpAny_pure h₁
  | some v =>
    refine wpAny_bind (wpAny_mono h₁ (fun _ s₁' h₁' => ?_) fun _ _ h' => h')
    refine wpAny_bind (wpAny_mono h₁' (fun _ s₂ h₂ => wpAny_bind (wpAny_mono h₂ (fun ok s₃ h₃ => ?_) fun _ _ h' => h')) fun _ _ h' => h')
    cases ok with
    | false => exact wpAny_pure ⟨rfl, h₃⟩
    | true =>
      exact wpAny_bind (wpAny_bind (wpAny_mono h₃ (fun x s₄ h₄ => wpAny_bind (wpAny_mono h₄ (fun _ s₅ h₅ => wpAny_pure (wpAny_pure ⟨rfl, h₅⟩)) fun _ _ h' => h')) fun _ _ h' => h'))
/-- the end of a turn of a list comprehension over an enumerate; the ledger stays -/
noncomputable def EndE (h₀ : Heap) (L : Addr) (m : Str → Option Value) (s₁ : Shared) (hd' : Led) (P : Prop) (s₂ : Shared) : Prop :=
  ∃ h' tk, s₂ = { s₁ with heap := h', toks := tk } ∧ Fr h₀ L h' m ∧ News h₀ L h' hd' ∧ P
theorem EndE.intro {s₁ : Shared} {hd' : Led} {P : Prop} {h' : Heap} {tk : Nat} {all : Led} (F : Fr h₀ L h' m) (N : News h₀ L h' all) (sub : ∀ p ∈ hd', p ∈ all) (h : P) : EndE h₀ L m s₁ hd' P { s₁ with heap := h', toks := tk } :=
  ⟨h', tk, rfl, F, fun p hp => N p (sub p hp), h⟩
noncomputable def TestsE (prog : Program) (w : World) (A : Around) (E : Value → Shared → Prop) (env : Env) : List Expr → (Bool → Shared → Prop) → Shared → Prop
  | [], Q, s => Q true s
  | [c], Q, s => wpAny (model prog w) A (isTrue c env (eval c env)) Q E s
  | _, _, _ => False
theorem testsE {ifs : List Expr} {env : Env} {Q : Bool → Shared → Prop} (h : TestsE prog w A E env ifs Q s) :
    wpAny (model prog w) A (forIn ifs true fun c r => if r = true then do let ok ← isTrue c env (eval c env); pure (ForInStep.yield ok) else pure (ForInStep.yield r)) Q E s := by
  match ifs, h with
  | [], h => exact wpAny_tests_nil h
  | [c], h => exact wpAny_tests_one h
theorem TestsE.mono {ifs : List Expr} {env : Env} {Q Q' : Bool → Shared → Prop} (h : TestsE prog w A E env ifs Q s) (k : ∀ b s, Q b s → Q' b s) : TestsE prog w A E env ifs Q' s := by
  match ifs, h with
  | [], h => exact k _ _ h
  | [c], h => exact wpAny_mono h k fun _ _ e => e
/-- what a turn owes -/
noncomputable def TurnsE (prog : Program) (w : World) (A : Around) (h₀ : Heap) (L : Addr) (m : Str → Option Value) (env : Env) (elt : Expr) (ifs : List Expr) (x x₂ : Str) (scope : Scope) (cl : List (Str × Addr)) (s : Shared) (e it : Addr) (n : Nat) (P : Nat → Value → Value → Prop) (J : Nat → List Value → Prop) (nw : Led) : Prop :=
  ∀ i v₁ v₂ ys oe oi C oC D m₂ h tk (E' : Value → Shared → Prop), i < n → P i v₁ v₂ → J i ys → NsObj oC m₂ → m₂ x = some v₁ → m₂ x₂ = some v₂ → Fr h₀ L h m → News h₀ L h ((e, oe) :: (it, oi) :: (C, oC) :: (D, lst ys) :: nw) → 0 < tk →
    TestsE prog w A E' (compEnvC scope cl C env) ifs (fun ok s' => if ok = true then
        wpAny (model prog w) A (eval elt (compEnvC scope cl C env)) (fun y s'' => EndE h₀ L m { s with heap := h, toks := tk } ((e, oe) :: (it, oi) :: (C, oC) :: (D, lst ys) :: nw) (J (i + 1) (ys ++ [y])) s'') E' s'
      else EndE h₀ L m { s with heap := h, toks := tk } ((e, oe) :: (it, oi) :: (C, oC) :: (D, lst ys) :: nw) (J (i + 1) ys) s') { s with heap := h, toks := tk }
theorem blockE {elt iter : Expr} {ifs : List Expr} {x x₂ : Str} {px px₂ tp : Pos} {k₀ : Nat} {scope : Scope} {cl : List (Str × Addr)} {pos : Pos} {s₂ : Shared} {e it : Addr} {fp : List Addr} {n : Nat} {Pt : Nat → Array Value → Prop} {St : Nat → Heap → Prop} {Mid : Nat → Addr → Heap → Prop}
    {P : Nat → Value → Value → Prop} {J : Nat → List Value → Prop} {nw : Led} {RR : Value → Addr → Result → Shared → Prop}
    (W : WalksT prog w A e fp [e, it] n Pt St Mid) (hPt : ∀ i vals, i < n → Pt i vals → ∃ v₁ v₂, vals = #[v₁, v₂] ∧ P i v₁ v₂) (hsz : n ≤ sizeLine) (hIo : ∀ i h, St i h → (∃ o, h.get? e = some o) ∧ ∃ o, h.get? it = some o)
    (hSt : ∀ i h h' oe oi, St i h → h.get? e = some oe → h.get? it = some oi → h'.get? e = some oe → h'.get? it = some oi → News h₀ L h' nw → St i h')
    (hcell : ∀ y ∈ scope.names, y.2 ≠ .cell) (hkind : scope.kind = .function) (hx : scope.names.lookup x = some .local) (hx₂ : scope.names.lookup x₂ = some .local) (hxx : x ≠ x₂) (hh : A.handled = none) (hst : St 0 s₂.heap) (hfp : ∀ b ∈ fp, b < s₂.heap.objs.size) (hel : e < s₂.heap.objs.size) (hil : it < s₂.heap.objs.size)
    (F : Fr h₀ L s₂.heap m) (N : News h₀ L s₂.heap nw) (X : EFresh h₀ L nw e it) (h0 : J 0 [])
    (R : TurnsE prog w A h₀ L m env elt ifs x x₂ scope cl s₂ e it n P J nw)
    (hRR : ∀ D C h tk m' ys, Fr h₀ L h m → News h₀ L h ((D, lst ys) :: nw) → (∀ p ∈ nw, @LT.lt Nat _ p.1 D) → h.Ns C m' → h₀.get? C = none → h₀.get? D = none → C ≠ L → D ≠ L → C ≠ D → (∀ p ∈ nw, p.1 ≠ C) → J n ys → RR (.ref D) C (.ok .next) { s₂ with heap := h, toks := tk }) :
    wpAny (model prog w) A (newList []) (fun acc s₃ => wpAny (model prog w) A (newFunctionEnv scope env.globals cl [] env.qual none .none (some env)) (fun cenv s₄ =>
      codeAny (model prog w) A (.compStart (.ListComp elt [⟨.Tuple [.Name x px, .Name x₂ px₂] k₀ tp, iter, ifs, 0⟩] scope pos) 0 (.ref e) acc { cenv with scope := relabel scope env }) (RR acc cenv.locals) s₄) E s₃) E s₂ := by
  refine wpAny_newObj_type (wpAny_newFunctionEnv hcell (by intro y hy; simp at hy) (fun h₁ hns₁ hsb₁ => ?_) hkind)
  dsimp only at hns₁ hsb₁ ⊢
  generalize hH2 : s₂.heap.push { cls := .type "list", dict := none, data := .seq ([] : List Value).toArray } = H2 at hns₁ hsb₁ ⊢
  have hC : H2.objs.size = s₂.heap.objs.size + 1 := by rw [← hH2, Heap.size_push]
  have hDC : s₂.heap.objs.size ≠ H2.objs.size := by rw [hC]; exact Nat.ne_of_lt (Nat.lt_succ_self _)
  have below : ∀ b, b < s₂.heap.objs.size → b ≠ H2.objs.size ∧ b ≠ s₂.heap.objs.size := fun b hb => ⟨by rw [hC]; exact Nat.ne_of_lt (Nat.lt_succ_of_lt hb), Nat.ne_of_lt hb⟩
  have hDf : s₂.heap.objs.size ∉ fp := fun hm => Nat.lt_irrefl _ (hfp _ hm)
  have hCf : H2.objs.size ∉ fp := fun hm => by have := hfp _ hm; rw [hC] at this; exact Nat.lt_irrefl _ (Nat.lt_of_succ_lt this)
  have old : ∀ b o, s₂.heap.get? b = some o → h₁.get? b = some o := fun b o e => hsb₁.extBut b o (below b (Heap.lt_size e)).1 (Heap.get?_push_of_some _ (hH2 ▸ Heap.get?_push_of_some _ e))
  have hacc : h₁.get? s₂.heap.objs.size = some (lst []) := hsb₁.extBut _ _ hDC (Heap.get?_push_of_some _ (hH2 ▸ Heap.get?_push_size _ rfl))
  have hst₁ : St 0 h₁ := W.frame _ _ _ hst fun b _ o e => old b o e
  have fresh : ∀ a, s₂.heap.objs.size ≤ a → s₂.heap.get? a = none := fun a ha => by
    cases e : s₂.heap.get? a with
    | none => rfl
    | some o' => exact absurd (Heap.lt_size e) (Nat.not_lt.mpr ha)
  have fresh₀ : ∀ a, s₂.heap.objs.size ≤ a → h₀.get? a = none := fun a ha => by
    cases e : h₀.get? a with
    | none => rfl
    | some o' => have := F.keep a o' e; rw [fresh a ha] at this; cases this
  have hD₀ : h₀.get? s₂.heap.objs.size = none := fresh₀ _ (Nat.le_refl _)
  have hC₀ : h₀.get? H2.objs.size = none := fresh₀ _ (by rw [hC]; exact Nat.le_succ _)
  have hLlt : L < s₂.heap.objs.size := F.ns.lt
  have hDL : s₂.heap.objs.size ≠ L := Ne.symm (below L hLlt).2
  have hCL : H2.objs.size ≠ L := Ne.symm (below L hLlt).1
  have hCe := (below e hel).1
  have hDe := (below e hel).2
  have hCi := (below it hil).1
  have hDi := (below it hil).2
  have hlt : ∀ p ∈ nw, p.1 < s₂.heap.objs.size := fun p hp => Heap.lt_size (N p hp).1
  have offC : ∀ p ∈ nw, p.1 ≠ H2.objs.size := fun p hp => (below _ (hlt p hp)).1
  have offD : ∀ p ∈ nw, p.1 ≠ s₂.heap.objs.size := fun p hp => (below _ (hlt p hp)).2
  have off2 : ∀ p ∈ ((s₂.heap.objs.size, lst []) :: nw : Led), p.1 ≠ e ∧ p.1 ≠ it := fun p hp => by
    rcases List.mem_cons.mp hp with rfl | hp
    · exact ⟨Ne.symm hDe, Ne.symm hDi⟩
    · exact X.off p hp
  have loop : ∀ s₃ : Shared, s₃ = { s₂ with heap := h₁, toks := s₂.toks + ([] : List (Str × Value)).length } →
      codeAny (model prog w) A (.compLoop (.ListComp elt [⟨.Tuple [.Name x px, .Name x₂ px₂] k₀ tp, iter, ifs, 0⟩] scope pos) 0 (.ref e) (.ref s₂.heap.objs.size) (compEnvC scope cl H2.objs.size env))
        (RR (.ref s₂.heap.objs.size) H2.objs.size) s₃ := by
    rintro s₃ rfl
    refine compLoopE
      (fun k s' => ∃ h' tk i ys m', s' = { s₂ with heap := h', toks := tk } ∧ i ≤ n ∧ k = n + 1 - i ∧ ys.length ≤ i ∧ St i h' ∧ Fr h₀ L h' m ∧ h'.Ns H2.objs.size m' ∧ News h₀ L h' ((s₂.heap.objs.size, lst ys) :: nw) ∧ J i ys) ?_ (n + 1)
      ⟨h₁, _, 0, [], _, rfl, Nat.zero_le _, rfl, Nat.le_refl _, hst₁, F.keeps old, hns₁, fun p hp => ?_, h0⟩
    · rintro k s' ⟨h', tk, i, ys, m', rfl, hi, rfl, hyl, hst', F', hn', N', hJ⟩
      have off2' : ∀ p ∈ ((s₂.heap.objs.size, lst ys) :: nw : Led), p.1 ≠ e ∧ p.1 ≠ it := fun p hp => by
        rcases List.mem_cons.mp hp with rfl | hp
        · exact ⟨Ne.symm hDe, Ne.symm hDi⟩
        · exact X.off p hp
      by_cases hlt : i < n
      · refine W.item i _ _ _ hlt hst' fun T vals h₂ tk₂ hP _ hT₂ hmid hk₂ => ?_
        obtain ⟨v₁, v₂, rfl, hPv⟩ := hPt i vals hlt hP
        have F₂ := fr_but2 F' hk₂ X.eL X.e0 X.iL X.i0
        have N₂ := news_but2 N' hk₂ off2'
        have hn₂ := hn'.at' fun o q => hk₂ _ o (by simp [hCe.symm, hCi.symm]) q
        refine W.go _ _ _ i T _ _ _ hmid fun h₃ hst₃ hk₃ => ?_
        have hTap := W.apart _ _ _ hmid
        have hT₃ : IsTup h₃ T #[v₁, v₂] := by obtain ⟨o, q, r⟩ := hT₂; exact ⟨o, hk₃ _ _ hTap q, r⟩
        have F₃ := fr_but2 F₂ hk₃ X.eL X.e0 X.iL X.i0
        have N₃ := news_but2 N₂ hk₃ off2'
        have hn₃ := hn₂.at' fun o q => hk₃ _ o (by simp [hCe.symm, hCi.symm]) q
        refine assign_Tuple_tuple hh hT₃ rfl rfl fun h₄ he₄ => ?_
        have he' : ∀ b o, h₃.get? b = some o → h₄.get? b = some o := fun b o q => he₄ b o (Nat.ne_of_lt (Heap.lt_size q)) q
        refine assignInOrder_cons (wpAny_assign_Name (wpAny_storeName_local (lookup_relabel_local hx) (hn₃.at' fun o e => he' _ o e) (fun h₅ hn₅ hs₅ => ?_) (by simp [compEnvC, relabel, hkind])))
        refine assignInOrder_cons (wpAny_assign_Name (wpAny_storeName_local (lookup_relabel_local hx₂) hn₅ (fun h₆ hn₆ hs₆ => ?_) (by simp [compEnvC, relabel, hkind])))
        refine assignInOrder_nil ?_
        have old6 : ∀ b o, b ≠ H2.objs.size → h₃.get? b = some o → h₆.get? b = some o := fun b o hb e => hs₆.extBut b o hb (hs₅.extBut b o hb (he' b o e))
        have hst₆ : St (i + 1) h₆ := W.frame _ _ _ hst₃ fun b hb o e => old6 b o (fun q => hCf (by rw [← q]; exact hb)) e
        obtain ⟨⟨oe, hoe⟩, ⟨oi, hoi⟩⟩ := hIo _ _ hst₆
        obtain ⟨oC, heC, hoC⟩ := ns_obj hn₆
        have F₆ : Fr h₀ L h₆ m := ((F₃.keeps he').change hs₅ hCL hC₀).change hs₆ hCL hC₀
        have N₆ : News h₀ L h₆ ((e, oe) :: (it, oi) :: (H2.objs.size, oC) :: (s₂.heap.objs.size, lst ys) :: nw) := fun p hp => by
          rcases List.mem_cons.mp hp with rfl | hp
          · exact ⟨hoe, X.eL.symm, X.e0⟩
          rcases List.mem_cons.mp hp with rfl | hp
          · exact ⟨hoi, X.iL.symm, X.i0⟩
          rcases List.mem_cons.mp hp with rfl | hp
          · exact ⟨heC, hCL, hC₀⟩
          have z := N₃ p hp
          refine ⟨old6 _ _ ?_ z.1, z.2⟩
          rcases List.mem_cons.mp hp with rfl | hp
          · exact hDC
          · exact offC p hp
        refine testsE (TestsE.mono (R i v₁ v₂ ys oe oi H2.objs.size oC s₂.heap.objs.size _ h₆ _ _ hlt hPv hJ hoC (by simp [hxx]) (by simp) F₆ N₆ (Nat.succ_pos _)) fun ok s₄ h₄ => ?_)
        have fin1 : ∀ {zs : List Value} {h₇ : Heap}, News h₀ L h₇ ((e, oe) :: (it, oi) :: (H2.objs.size, oC) :: (s₂.heap.objs.size, lst zs) :: nw) → St (i + 1) h₇ ∧ News h₀ L h₇ nw ∧ h₇.Ns H2.objs.size _ := fun {zs h₇} N₇ =>
          have N₇' : News h₀ L h₇ nw := fun p hp => N₇ p (List.mem_cons_of_mem _ (List.mem_cons_of_mem _ (List.mem_cons_of_mem _ (List.mem_cons_of_mem _ hp))))
          ⟨hSt _ _ _ oe oi hst₆ hoe hoi (N₇ _ (List.mem_cons_self ..)).1 (N₇ _ (List.mem_cons_of_mem _ (List.mem_cons_self ..))).1 N₇', N₇', hoC.ns (N₇ _ (List.mem_cons_of_mem _ (List.mem_cons_of_mem _ (List.mem_cons_self ..)))).1⟩
        cases ok with
        | true =>
          simp only [if_true] at h₄ ⊢
          refine wpAny_mono h₄ (fun y s₅ h₅ => ?_) fun _ _ e => e
          obtain ⟨h₇, tk₇, rfl, F₇, N₇, hJ₇⟩ := h₅
          obtain ⟨hst₇, N₇', hn₇⟩ := fin1 N₇
          have zD := (N₇ (s₂.heap.objs.size, lst ys) (List.mem_cons_of_mem _ (List.mem_cons_of_mem _ (List.mem_cons_of_mem _ (List.mem_cons_self ..))))).1
          refine append_at (hsz := by show ys.toArray.size ≤ sizeLine; rw [List.size_toArray]; exact Nat.le_trans (Nat.le_trans hyl hi) hsz) zD fun h₈ hs₈ hD₈ => ?_
          refine ⟨n + 1 - (i + 1), subTurn hlt, h₈, tk₇, i + 1, ys ++ [y], _, rfl, hlt, rfl, by rw [List.length_append, List.length_singleton]; exact Nat.succ_le_succ hyl, W.frame _ _ _ hst₇ fun b hb o e => hs₈.extBut b o (fun q => hDf (q ▸ hb)) e, F₇.change hs₈ hDL hD₀, hn₇.sameBut hs₈ (Ne.symm hDC), fun p hp => ?_, hJ₇⟩
          rcases List.mem_cons.mp hp with rfl | hp
          · exact ⟨hD₈.trans (congrArg some (lst_snoc ys y)), hDL, hD₀⟩
          · exact ⟨hs₈.extBut _ _ (offD p hp) (N₇' p hp).1, (N₇' p hp).2⟩
        | false =>
          simp only [Bool.false_eq_true, if_false] at h₄ ⊢
          obtain ⟨h₇, tk₇, rfl, F₇, N₇, hJ₇⟩ := h₄
          obtain ⟨hst₇, N₇', hn₇⟩ := fin1 N₇
          refine ⟨n + 1 - (i + 1), subTurn hlt, h₇, tk₇, i + 1, ys, _, rfl, hlt, rfl, Nat.le_succ_of_le hyl, hst₇, F₇, hn₇, fun p hp => N₇ p (List.mem_cons_of_mem _ (List.mem_cons_of_mem _ (List.mem_cons_of_mem _ hp))), hJ₇⟩
      · obtain rfl : i = n := Nat.le_antisymm hi (Nat.not_lt.mp hlt)
        refine W.done _ _ _ hst' fun h₂ tk₂ hk₂ => ?_
        exact hRR _ _ h₂ tk₂ _ ys (fr_but2 F' hk₂ X.eL X.e0 X.iL X.i0) (news_but2 N' hk₂ off2') (fun p hp => by have := N p hp; exact Heap.lt_size this.1) (hn'.at' fun o e => hk₂ _ o (by simp [hCe.symm, hCi.symm]) e) hC₀ hD₀ hCL hDL (Ne.symm hDC) offC hJ
    · rcases List.mem_cons.mp hp with rfl | hp
      · exact ⟨hacc, hDL, hD₀⟩
      · exact ⟨old _ _ (N p hp).1, (N p hp).2⟩
  exact codeAny_compStart_list (loop _ rfl) (W.self 0 _ _ _ hst₁ (loop _ rfl))
/-- the source of a comprehension over an enumerate, as the walk meets it -/
noncomputable def SrcE (prog : Program) (w : World) (A : Around) (h₀ : Heap) (L : Addr) (m : Str → Option Value) (env : Env) (elt : Expr) (ifs : List Expr) (x x₂ : Str) (scope : Scope) (cl : List (Str × Addr)) (y : Str) (Q : Flow → Shared → Prop) (xv : Value) (s₁ : Shared) : Prop :=
  ∃ (e it : Addr) (vs : List Value) (l : Addr) (nw : Led) (J : Nat → List Value → Prop), xv = .ref e ∧ A.handled = none ∧ IsEnum s₁.heap e it 0 .none ∧ ((s₁.heap.IsListIter it l 0 ∧ ∃ n, (l, LO vs n) ∈ nw) ∨ (s₁.heap.IsTupleIter it l 0 ∧ ∃ n, (l, TO vs n) ∈ nw)) ∧ EFresh h₀ L nw e it ∧ e < s₁.heap.objs.size ∧ it < s₁.heap.objs.size ∧
    Fr h₀ L s₁.heap m ∧ News h₀ L s₁.heap nw ∧ vs.length ≤ sizeLine ∧ J 0 [] ∧ TurnsE prog w A h₀ L m env elt ifs x x₂ scope cl s₁ e it vs.length (fun i v₁ v₂ => ∃ t, v₁ = .int (i : Int) t ∧ vs[i]? = some v₂) J nw ∧
    ∀ ys D h tk, J vs.length ys → (∀ p ∈ nw, @LT.lt Nat _ p.1 D) → 0 < tk → Fr h₀ L h (fun z => if z = y then some (.ref D) else m z) → News h₀ L h ((D, lst ys) :: nw) → Q .next { s₁ with heap := h, toks := tk }
theorem Assign_ListComp_E {elt iter : Expr} {ifs : List Expr} {x x₂ y : Str} {px px₂ tp py : Pos} {k₀ : Nat} {scope : Scope} {cl : List (Str × Addr)} {pos spos : Pos} {Q : Flow → Shared → Prop} (hLe : env.locals = L)
    (hsw : swapsWith (.ListComp elt [⟨.Tuple [.Name x px, .Name x₂ px₂] k₀ tp, iter, ifs, 0⟩] scope pos) (some (.Name y py)) spos.line env = pure true)
    (hclos : closureFor scope env = pure cl) (hcell : ∀ z ∈ scope.names, z.2 ≠ .cell) (hkind : scope.kind = .function)
    (hnames : ∀ z ∈ scope.names, z.2 = .local → scope.names.lookup z.1 = some .local) (hx : scope.names.lookup x = some .local) (hx₂ : scope.names.lookup x₂ = some .local) (hxx : x ≠ x₂)
    (hy : env.kindOf y = some .local) (hp : (env.scope.kind == .class || (env.scope.kind == .module && env.locals != env.globals)) = false)
    (h : wpAny (model prog w) A (eval iter env) (SrcE prog w A h₀ L m env elt ifs x x₂ scope cl y Q) E s)
    (hs : ∀ x, foldedSetIterable iter env x = pure x := by intro _; rfl) :
    wpAny (model prog w) A (exec (.Assign [.Name y py] (.ListComp elt [⟨.Tuple [.Name x px, .Name x₂ px₂] k₀ tp, iter, ifs, 0⟩] scope pos) spos) env) Q E s := by
  subst hLe
  rw [exec_Assign_Name_used _ _ _ _ hsw]
  refine wpAny_bind (wpAny_standAt (wpAny_bind ?_))
  show wpAny _ A (do let _ ← comprehension (.ListComp elt [⟨.Tuple [.Name x px, .Name x₂ px₂] k₀ tp, iter, ifs, 0⟩] scope pos) scope env _ (newList []) false (eval iter env) (some (assign (.Name y py) env))) _ _ s
  refine wpAny_bind (wpAny_mono (wpAny_comprehension_free (use := some (assign (.Name y py) env)) (Q := fun _ s' => Q .next s') rfl hs hclos hkind hnames
    (wpAny_mono h (fun xv s₁ h₁ => ?_) fun _ _ e => e)) (fun _ s' hq => wpAny_pure (wpAny_pure hq)) fun _ _ e => e)
  obtain ⟨e, it, vs, l, nw, J, rfl, hh, he, hit, X, hel, hil, F, N, hsz, h0, R, fin⟩ := h₁
  refine wpAny_pyIter_enum he ?_
  have last : ∀ D C h' tk m' ys, Fr h₀ env.locals h' m → News h₀ env.locals h' ((D, lst ys) :: nw) → (∀ p ∈ nw, @LT.lt Nat _ p.1 D) → h'.Ns C m' → h₀.get? C = none → h₀.get? D = none → C ≠ env.locals → D ≠ env.locals → C ≠ D → (∀ p ∈ nw, p.1 ≠ C) → J vs.length ys →
      ∀ (z : Value), z = .ref D → wpAny (model prog w) A (assign (.Name y py) env z) (fun _ s' => ∃ m'', s'.heap.Ns C m'' ∧ ∀ h'', Heap.SameBut C s'.heap h'' → Q .next { s' with heap := h'' }) E { s₁ with heap := h', toks := tk } := by
    rintro D C h' tk m' ys F' N' o1 hn hC₀ hD₀ hCL hDL hCD offC hJ _ rfl
    refine wpAny_assign_Name (wpAny_storeName_local hy F'.ns (fun h₂ hn₂ hs₂ => ?_) hp)
    have hL₀ : h₀.get? env.locals = none := Heap.get?_none_of_le F'.above
    have F₂ : Fr h₀ env.locals h₂ (fun z => if z = y then some (.ref D) else m z) := ⟨hn₂, fun b o e => hs₂.extBut b o (fun q => by rw [q, hL₀] at e; cases e) (F'.keep b o e), F'.above⟩
    refine ⟨m', hn.sameBut hs₂ hCL, fun h'' hs'' => fin ys D h'' _ hJ o1 (Nat.succ_pos _) (F₂.change hs'' hCL hC₀) (fun p hp => ?_)⟩
    have z : h₂.get? p.1 = some p.2 := hs₂.extBut _ _ (N' p hp).2.1 (N' p hp).1
    refine ⟨hs''.extBut _ _ ?_ z, (N' p hp).2⟩
    rcases List.mem_cons.mp hp with rfl | hp
    · exact Ne.symm hCD
    · exact offC p hp
  rcases hit with ⟨hit, n₁, hm⟩ | ⟨hit, n₁, hm⟩
  · have hl := lo_isList N hm
    obtain ⟨ol, hol, holr⟩ := id hl
    have W := WalksT.enumerate (prog := prog) (w := w) hh e it l X.ei (X.off _ hm).1 (X.off _ hm).2 vs.toArray
    refine blockE (P := fun i v₁ v₂ => ∃ t, v₁ = .int (i : Int) t ∧ vs[i]? = some v₂) (J := J) (n := vs.length) W (fun i vals _ ⟨t, xv, h1, h2⟩ => ⟨_, _, h2, t, rfl, by simpa using h1⟩) hsz (fun i h st => ⟨by obtain ⟨_, q⟩ := st.1; exact ⟨_, q⟩, by obtain ⟨o, q, _⟩ := st.2.1; exact ⟨o, q⟩⟩)
      (fun i h h' oe oi st e1 e2 e3 e4 Nw => ⟨by obtain ⟨old, q⟩ := st.1; exact ⟨old, by rw [IsEnum, e3, ← e1]; exact q⟩, by obtain ⟨o, q, r⟩ := st.2.1; rw [e2] at q; cases q; exact ⟨oi, e4, r⟩, ⟨_, (Nw _ hm).1, rfl, _, rfl⟩⟩)
      hcell hkind hx hx₂ hxx hh ⟨⟨_, he⟩, hit, hl⟩ (fun b hb => ?_) hel hil F N X h0 R ?_
    · simp only [List.mem_cons, List.not_mem_nil, or_false] at hb
      rcases hb with rfl | rfl | rfl
      · exact hel
      · exact hil
      · exact Heap.lt_size hol
    · intro D C h' tk m' ys F' N' o1 hn hC₀ hD₀ hCL hDL hCD offC hJ
      exact last D C h' tk m' ys F' N' o1 hn hC₀ hD₀ hCL hDL hCD offC hJ _ rfl
  · have hl : s₁.heap.IsTuple l vs.toArray := to_isTup N hm
    obtain ⟨ol, hol, holr⟩ := id hl
    have hle : e ≠ l := fun q => (X.off _ hm).1 q.symm
    have W := WalksT.enumerateD (prog := prog) (w := w) (A := A) (draws_tup (A := A.in1) hh it l (X.off _ hm).2 vs.toArray) e X.ei (fun hb => by
      rcases List.mem_cons.mp hb with q | hb
      · exact X.ei q
      · exact hle (List.mem_singleton.mp hb)) (List.mem_cons_self ..)
    refine blockE (P := fun i v₁ v₂ => ∃ t, v₁ = .int (i : Int) t ∧ vs[i]? = some v₂) (J := J) (n := vs.length) W (fun i vals _ ⟨t, xv, h1, h2⟩ => ⟨_, _, h2, t, rfl, by simpa using h1⟩) hsz (fun i h st => ⟨by obtain ⟨_, q⟩ := st.1; exact ⟨_, q⟩, by obtain ⟨o, q, _⟩ := st.2.1; exact ⟨o, q⟩⟩)
      (fun i h h' oe oi st e1 e2 e3 e4 Nw => ⟨by obtain ⟨old, q⟩ := st.1; exact ⟨old, by rw [IsEnum, e3, ← e1]; exact q⟩, by obtain ⟨o, q, r⟩ := st.2.1; rw [e2] at q; cases q; exact ⟨oi, e4, r⟩, ⟨_, (Nw _ hm).1, rfl, _, rfl⟩⟩)
      hcell hkind hx hx₂ hxx hh ⟨⟨_, he⟩, hit, hl⟩ (fun b hb => ?_) hel hil F N X h0 R ?_
    · simp only [List.mem_cons, List.not_mem_nil, or_false] at hb
      rcases hb with rfl | rfl | rfl
      · exact hel
      · exact hil
      · exact Heap.lt_size hol
    · intro D C h' tk m' ys F' N' o1 hn hC₀ hD₀ hCL hDL hCD offC hJ
      exact last D C h' tk m' ys F' N' o1 hn hC₀ hD₀ hCL hDL hCD offC hJ _ rfl
end

noncomputable def nd3 (ps : List (Str × Str)) (x sp nm : Str) : List Nd := [docNd, ⟨"element", sp, nm, "", ps, [2], -1⟩, ⟨"text", "", "", x, [], [], 1⟩]
noncomputable def wordNt (x : Str) : Bool := match Txt.split x "." with
  | [a, b] => !(a == PySem.Str.ofString "html" && b == PySem.Str.ofString "template")
  | _ => false
theorem words_nt : ((lawWords.drop 1).all wordNt) = true := by decide +kernel
theorem word_nt {x a b : Str} (h : x ∈ lawWords.drop 1) (e : Txt.split x "." = [a, b]) : (a == PySem.Str.ofString "html" && b == PySem.Str.ofString "template") = false := by
  have h1 := List.all_eq_true.mp words_nt x h
  unfold wordNt at h1
  rw [e] at h1
  dsimp only at h1
  cases h : (a == PySem.Str.ofString "html" && b == PySem.Str.ofString "template") with
  | false => rfl
  | true => rw [h] at h1; cases h1
section
variable {ps : List (Str × Str)} {x sp nm : Str}
theorem nd3_tem (hw : (sp == PySem.Str.ofString "html" && nm == PySem.Str.ofString "template") = false) : ∀ (i : Nat) (d : Nd), (nd3 ps x sp nm)[i]? = some d → d.isTem = false := by
  intro i d h
  match i, h with
  | 0, h => have e : docNd = d := by simpa [nd3] using h
            subst e; decide +kernel
  | 1, h => have e : (⟨"element", sp, nm, "", ps, [2], -1⟩ : Nd) = d := by simpa [nd3] using h
            subst e; unfold Nd.isTem; rw [hw, Bool.and_false]
  | 2, h => have e : (⟨"text", "", "", x, [], [], 1⟩ : Nd) = d := by simpa [nd3] using h
            subst e; exact isTem_kind (by show (PySem.Str.ofString "text" == PySem.Str.ofString "element") = false; decide +kernel)
  | (i + 3), h => simp [nd3] at h
theorem nd3_good (hp : PairsOk ps) (hx : x.length ≤ 6) (hn : nm.length ≤ 20) (hw : (sp == PySem.Str.ofString "html" && nm == PySem.Str.ofString "template") = false) : Good (nd3 ps x sp nm) where
  up := fun i d h => by
    match i, h with
    | 0, h => have e : docNd = d := by simpa [nd3] using h
              subst e; intro c hc; simp [docNd] at hc
    | 1, h => have e : (⟨"element", sp, nm, "", ps, [2], -1⟩ : Nd) = d := by simpa [nd3] using h
              subst e; intro c hc; simp at hc; subst hc; exact ⟨by decide, by simp [nd3]⟩
    | 2, h => have e : (⟨"text", "", "", x, [], [], 1⟩ : Nd) = d := by simpa [nd3] using h
              subst e; intro c hc; simp at hc
    | (i + 3), h => simp [nd3] at h
  ok := fun i d h => by
    match i, h with
    | 0, h => have e : docNd = d := by simpa [nd3] using h
              subst e; exact ⟨Nat.zero_le _, Nat.zero_le _, Nat.zero_le _, fun _ h => absurd h (by simp [docNd]), fun _ h => absurd h (by simp [docNd])⟩
    | 1, h => have e : (⟨"element", sp, nm, "", ps, [2], -1⟩ : Nd) = d := by simpa [nd3] using h
              subst e; exact ⟨hn, Nat.zero_le _, hp.many, hp.key, hp.val⟩
    | 2, h => have e : (⟨"text", "", "", x, [], [], 1⟩ : Nd) = d := by simpa [nd3] using h
              subst e; exact ⟨Nat.zero_le _, hx, Nat.zero_le _, fun _ h => absurd h (by simp), fun _ h => absurd h (by simp)⟩
    | (i + 3), h => simp [nd3] at h
  par := fun i d h => by
    match i, h with
    | 0, h => have e : docNd = d := by simpa [nd3] using h
              subst e; exact .inl rfl
    | 1, h => have e : (⟨"element", sp, nm, "", ps, [2], -1⟩ : Nd) = d := by simpa [nd3] using h
              subst e; exact .inl rfl
    | 2, h => have e : (⟨"text", "", "", x, [], [], 1⟩ : Nd) = d := by simpa [nd3] using h
              subst e; exact .inr ⟨1, _, rfl, rfl⟩
    | (i + 3), h => simp [nd3] at h
  ix := fun i d h => by
    have ht := nd3_tem hw i d h
    have hl := lt_of_get h
    unfold Nd.ix; rw [ht]; exact hl
  few := by simp [edges, nd3, docNd]
theorem text_leaf {nds : List Nd} {fl : Bool} {x y : Str} {p : Int} : leafText nds fl ⟨"text", "", "", x, [], [], p⟩ = lawText nds fl ⟨"text", "", "", x, [], [], p⟩ y := by
  have k1 : (PySem.Str.ofString "text" == PySem.Str.ofString "text") = true := by decide +kernel
  have k2 : (PySem.Str.ofString "text" == PySem.Str.ofString "comment") = false := by decide +kernel
  have k3 : (PySem.Str.ofString "text" == PySem.Str.ofString "doctype") = false := by decide +kernel
  unfold leafText lawText
  simp only [k1, k2, k3, Bool.false_eq_true, if_false, if_true]
theorem named_eq {fl : Bool} {y : Str} (G : Good (nd3 ps x sp nm)) (hw : (sp == PySem.Str.ofString "html" && nm == PySem.Str.ofString "template") = false) :
    outText (nd3 ps x sp nm) fl 1 ⟨"element", sp, nm, "", ps, [2], -1⟩ = lawText (nd3 ps x sp nm) fl ⟨"element", sp, nm, "", ps, [2], -1⟩ (lawText (nd3 ps x sp nm) fl ⟨"text", "", "", x, [], [], 1⟩ y) := by
  have hd1 : (nd3 ps x sp nm)[1]? = some ⟨"element", sp, nm, "", ps, [2], -1⟩ := rfl
  have hd2 : (nd3 ps x sp nm)[2]? = some ⟨"text", "", "", x, [], [], 1⟩ := rfl
  rw [← law_out G.up hd1 (by simp)]
  have hix : (⟨"element", sp, nm, "", ps, [2], -1⟩ : Nd).ix 1 = 1 := by unfold Nd.ix; rw [nd3_tem hw 1 _ hd1]; rfl
  cases hen : (⟨"element", sp, nm, "", ps, [2], -1⟩ : Nd).endless with
  | true =>
    have k1 : (PySem.Str.ofString "element" == PySem.Str.ofString "text") = false := by decide +kernel
    have k2 : (PySem.Str.ofString "element" == PySem.Str.ofString "comment") = false := by decide +kernel
    have k3 : (PySem.Str.ofString "element" == PySem.Str.ofString "doctype") = false := by decide +kernel
    have k4 : (PySem.Str.ofString "element" != PySem.Str.ofString "element") = false := by decide +kernel
    have key : ∀ z, lawText (nd3 ps x sp nm) fl ⟨"element", sp, nm, "", ps, [2], -1⟩ z = openText ⟨"element", sp, nm, "", ps, [2], -1⟩ ++ Str.empty := fun z => by
      unfold lawText
      simp only [k1, k2, k3, k4, Bool.false_eq_true, if_false, hen, if_true]
    rw [key, key]
  | false =>
    refine congrArg _ ?_
    unfold inText
    rw [hen, if_neg Bool.false_ne_true]
    have hk : kidsOf (nd3 ps x sp nm) ⟨"element", sp, nm, "", ps, [2], -1⟩ 1 = [2] := by unfold kidsOf; rw [hix, hd1]
    rw [hk]
    show rend _ _ 2 ++ Str.empty = _
    rw [Str.append_empty, rend_eq G.up hd2]
    have k5 : (PySem.Str.ofString "text" == PySem.Str.ofString "element") = false := by decide +kernel
    show (if (PySem.Str.ofString "text" == PySem.Str.ofString "element") = true then _ else _) = _
    rw [k5, if_neg Bool.false_ne_true]
    exact text_leaf
end
section
variable {w : World} {news led : Led} {T : TA} {as qs : List Addr} {nds nds' : List Nd} {ch : List Addr} {nl : Addr} {rs : List NR}
theorem TreeC.relist (R : TreeC w news T as qs nds) (K : Keep ch news led) (hch : ∀ x ∈ treeAddrs T as qs, x ∈ ch → x = T.s ∨ x = T.n) (hlen : nds'.length = nds.length) (hkind : nds'.map Nd.kind = nds.map Nd.kind) (htext : nds'.map Nd.text = nds.map Nd.text) (hpar : nds'.map Nd.parent = nds.map Nd.parent)
    (hsp : ∃ vs n, (T.s, LO vs n) ∈ led ∧ All2 IsStr vs (nds'.map Nd.space)) (hnm : ∃ vs n, (T.n, LO vs n) ∈ led ∧ All2 IsStr vs (nds'.map Nd.name)) (hd' : ∀ (i : Nat) (d' : Nd), nds'[i]? = some d' → ∃ d : Nd, nds[i]? = some d ∧ d.kind = d'.kind ∧ d.attrs = d'.attrs ∧ d.under = d'.under) :
    TreeC w led T as qs nds' := by
  obtain ⟨n11, n12, n13, n14, n15, n16, n21, n22, n23, n24, n25, n31, n32, n33, n34, n41, n42, n43, n51, n52, n61⟩ := R.nes
  obtain ⟨t11, t12, t13, t14, t15, t16, t17, d11, d12, d13, d14, d15, d16, d17⟩ := R.nes2
  have nd := R.nd
  unfold treeAddrs at nd
  have h4 := List.nodup_append.mp (List.nodup_cons.mp (List.nodup_cons.mp (List.nodup_cons.mp nd).2).2).2
  have k : ∀ y ∈ treeAddrs T as qs, y ≠ T.s → y ≠ T.n → y ∉ ch := fun y hy a b hc => (hch y hy hc).elim a b
  have mt : T.t ∈ treeAddrs T as qs := by unfold treeAddrs; simp
  have md : T.d ∈ treeAddrs T as qs := by unfold treeAddrs; simp
  have ml : ∀ {y}, y ∈ T.lists → y ∈ treeAddrs T as qs := fun h => lists_sub h
  have mr : ∀ y ∈ as ++ qs, y ∈ treeAddrs T as qs ∧ y ≠ T.s ∧ y ≠ T.n := fun y hy => ⟨List.mem_cons_of_mem _ (List.mem_cons_of_mem _ (List.mem_cons_of_mem _ (List.mem_append_right _ hy))), fun e => h4.2.2 _ (by unfold TA.lists; simp) y hy e.symm, fun e => h4.2.2 _ (by unfold TA.lists; simp) y hy e.symm⟩
  exact {
    inst := K _ R.inst (.inl (k _ mt t12 t13))
    dict := K _ R.dict (.inl (k _ md d12 d13))
    kinds := let ⟨vs, n, h, r⟩ := R.kinds; ⟨vs, n, K _ h (.inl (k _ (ml (by unfold TA.lists; simp)) n11 n12)), hkind ▸ r⟩
    spaces := hsp
    names := hnm
    texts := let ⟨vs, n, h, r⟩ := R.texts; ⟨vs, n, K _ h (.inl (k _ (ml (by unfold TA.lists; simp)) n23.symm n32.symm)), htext ▸ r⟩
    parents := let ⟨vs, n, h, r⟩ := R.parents; ⟨vs, n, K _ h (.inl (k _ (ml (by unfold TA.lists; simp)) n24.symm n33.symm)), hpar ▸ r⟩
    attrs := let ⟨n, h⟩ := R.attrs; ⟨n, K _ h (.inl (k _ (ml (by unfold TA.lists; simp)) n22.symm n31.symm))⟩
    alen := hlen ▸ R.alen
    attr := fun i d' a h1 h2 h3 => by
      obtain ⟨d, e1, e2, e3, e4⟩ := hd' i d' h1
      have hm := mr a (List.mem_append_left _ (List.mem_of_getElem? h2))
      rw [← e3]
      exact (R.attr i d a e1 h2 (e2.trans h3)).keep K (k a hm.1 hm.2.1 hm.2.2)
    kids := let ⟨n, h⟩ := R.kids; ⟨n, K _ h (.inl (k _ (ml (by unfold TA.lists; simp)) n25.symm n34.symm))⟩
    klen := hlen ▸ R.klen
    kid := fun i d' q h1 h2 => by
      obtain ⟨d, e1, e2, e3, e4⟩ := hd' i d' h1
      have hm := mr q (List.mem_append_right _ (List.mem_of_getElem? h2))
      obtain ⟨vs, n, m1, m2⟩ := R.kid i d q e1 h2
      exact ⟨vs, n, K _ m1 (.inl (k q hm.1 hm.2.1 hm.2.2)), e4 ▸ m2⟩
    lo := R.lo
    room := hlen ▸ R.room
    has := fun y hy => by
      by_cases a : y = T.s
      · subst a; obtain ⟨_, _, h, _⟩ := hsp; exact ⟨_, h, lo_cls⟩
      · by_cases b : y = T.n
        · subst b; obtain ⟨_, _, h, _⟩ := hnm; exact ⟨_, h, lo_cls⟩
        · obtain ⟨o, h, c⟩ := R.has y hy
          exact ⟨o, K _ h (.inl (k y hy a b)), c⟩
    nd := R.nd }
end

structure NA where
  (nl a0 u0 t0 a1 u1 a2 u2 t2 : Addr)
  (k1 k2 k3 k4 k5 k6 k7 k8 k9 k10 k11 k12 k13 k14 k15 k16 : Tok)
noncomputable def namIn (A : NA) (ax : Addr) (x : Str) (NL : Led) : Led := (A.a2, LO [.str "text" A.k1, .str "" A.k2, .str "" A.k3, .ref A.t2, .str x A.k4, .ref A.u2, .int 1 A.k5] 0) :: (A.u2, LO [] 0) :: (A.t2, TO [] 0) :: (A.nl, LO [.ref A.a0, .ref A.a1] 0) ::
  (A.a1, LO [.str "element" A.k6, .str "html" A.k7, .str "i" A.k8, .ref ax, .str "" A.k9, .ref A.u1, .int (-1) A.k10] 0) :: (A.u1, LO [.int 2 A.k11] 0) :: (A.a0, LO [.str "document" A.k12, .str "" A.k13, .str "" A.k14, .ref A.t0, .str "" A.k15, .ref A.u0, .int (-1) A.k16] 0) :: (A.u0, LO [] 0) :: (A.t0, TO [] 0) :: NL
noncomputable def namLed (A : NA) (ax : Addr) (x : Str) (NL : Led) : Led := setL A.nl (LO [.ref A.a0, .ref A.a1, .ref A.a2] 1) (namIn A ax x NL)
structure NamOk (A : NA) (NL : Led) : Prop where
  l0 : ∀ p ∈ NL, @LT.lt Nat _ p.1 A.t0
  l1 : @LT.lt Nat _ A.t0 A.u0
  l2 : @LT.lt Nat _ A.u0 A.a0
  l3 : @LT.lt Nat _ A.a0 A.u1
  l4 : @LT.lt Nat _ A.u1 A.a1
  l5 : @LT.lt Nat _ A.a1 A.nl
  l6 : @LT.lt Nat _ A.nl A.t2
  l7 : @LT.lt Nat _ A.t2 A.u2
  l8 : @LT.lt Nat _ A.u2 A.a2
noncomputable def NA.rs (A : NA) (ax : Addr) : List NR := [⟨A.a0, A.t0, A.u0⟩, ⟨A.a1, ax, A.u1⟩, ⟨A.a2, A.t2, A.u2⟩]
theorem nam_st {w : World} {NL : Led} {T : TA} {as qs : List Addr} {A : NA} {ax : Addr} {va : List Value} {nx : Nat} {ps : List (Str × Str)} {x : Str} (I : NamOk A NL) (R : TreeC w NL T as qs (nd3 ps x "html" "i")) (C : ContAt w NL T (nd3 ps x "html" "i")) (hax : (ax, TO va nx) ∈ NL) (hps : All2 (PairAt NL) va ps) :
    St w (namLed A ax x NL) T as qs A.nl (A.rs ax) (nd3 ps x "html" "i") := by
  obtain ⟨l0, l1, l2, l3, l4, l5, l6, l7, l8⟩ := I
  have qt0a0 : @LT.lt Nat _ A.t0 A.a0 := Nat.lt_trans l1 l2
  have qt0u1 : @LT.lt Nat _ A.t0 A.u1 := Nat.lt_trans qt0a0 l3
  have qt0a1 : @LT.lt Nat _ A.t0 A.a1 := Nat.lt_trans qt0u1 l4
  have qt0nl : @LT.lt Nat _ A.t0 A.nl := Nat.lt_trans qt0a1 l5
  have qt0t2 : @LT.lt Nat _ A.t0 A.t2 := Nat.lt_trans qt0nl l6
  have qt0u2 : @LT.lt Nat _ A.t0 A.u2 := Nat.lt_trans qt0t2 l7
  have qt0a2 : @LT.lt Nat _ A.t0 A.a2 := Nat.lt_trans qt0u2 l8
  have qu0u1 : @LT.lt Nat _ A.u0 A.u1 := Nat.lt_trans l2 l3
  have qu0a1 : @LT.lt Nat _ A.u0 A.a1 := Nat.lt_trans qu0u1 l4
  have qu0nl : @LT.lt Nat _ A.u0 A.nl := Nat.lt_trans qu0a1 l5
  have qu0t2 : @LT.lt Nat _ A.u0 A.t2 := Nat.lt_trans qu0nl l6
  have qu0u2 : @LT.lt Nat _ A.u0 A.u2 := Nat.lt_trans qu0t2 l7
  have qu0a2 : @LT.lt Nat _ A.u0 A.a2 := Nat.lt_trans qu0u2 l8
  have qa0a1 : @LT.lt Nat _ A.a0 A.a1 := Nat.lt_trans l3 l4
  have qa0nl : @LT.lt Nat _ A.a0 A.nl := Nat.lt_trans qa0a1 l5
  have qa0t2 : @LT.lt Nat _ A.a0 A.t2 := Nat.lt_trans qa0nl l6
  have qa0u2 : @LT.lt Nat _ A.a0 A.u2 := Nat.lt_trans qa0t2 l7
  have qa0a2 : @LT.lt Nat _ A.a0 A.a2 := Nat.lt_trans qa0u2 l8
  have qu1nl : @LT.lt Nat _ A.u1 A.nl := Nat.lt_trans l4 l5
  have qu1t2 : @LT.lt Nat _ A.u1 A.t2 := Nat.lt_trans qu1nl l6
  have qu1u2 : @LT.lt Nat _ A.u1 A.u2 := Nat.lt_trans qu1t2 l7
  have qu1a2 : @LT.lt Nat _ A.u1 A.a2 := Nat.lt_trans qu1u2 l8
  have qa1t2 : @LT.lt Nat _ A.a1 A.t2 := Nat.lt_trans l5 l6
  have qa1u2 : @LT.lt Nat _ A.a1 A.u2 := Nat.lt_trans qa1t2 l7
  have qa1a2 : @LT.lt Nat _ A.a1 A.a2 := Nat.lt_trans qa1u2 l8
  have qnlu2 : @LT.lt Nat _ A.nl A.u2 := Nat.lt_trans l6 l7
  have qnla2 : @LT.lt Nat _ A.nl A.a2 := Nat.lt_trans qnlu2 l8
  have qt2a2 : @LT.lt Nat _ A.t2 A.a2 := Nat.lt_trans l7 l8
  have ne : ∀ {a b : Addr}, @LT.lt Nat _ a b → a ≠ b := fun h e => Nat.ne_of_lt h e
  have ne' : ∀ {a b : Addr}, @LT.lt Nat _ b a → a ≠ b := fun h e => Nat.ne_of_lt h e.symm
  have sub : Sub NL (namLed A ax x NL) := fun p hp => setL_ne (ne (Nat.lt_trans (l0 p hp) qt0nl)) (by unfold namIn; simp [hp])
  have hr : ∀ z ∈ noteAddrs A.nl (A.rs ax), ∀ p ∈ NL, @LT.lt Nat _ p.1 z := fun z hz p hp => by
    have h0 := l0 p hp
    unfold noteAddrs NA.rs at hz
    simp only [List.map_cons, List.map_nil, List.cons_append, List.nil_append, List.mem_cons, List.not_mem_nil, or_false] at hz
    rcases hz with rfl | rfl | rfl | rfl | rfl | rfl | rfl <;> first | exact h0 | exact Nat.lt_trans h0 (by assumption)
  exact {
    R := R.sub sub
    C := C.sub sub
    N := {
      list := ⟨1, by unfold namLed NA.rs; exact setL_self (o := LO [.ref A.a0, .ref A.a1] 0) (by unfold namIn; simp)⟩
      len := rfl
      note := fun i d r h1 h2 => by
        match i, h1, h2 with
        | 0, h1, h2 =>
          have e1 : docNd = d := by simpa [nd3] using h1
          have e2 : (⟨A.a0, A.t0, A.u0⟩ : NR) = r := by simpa [NA.rs] using h2
          subst e1; subst e2
          exact ⟨⟨0, A.k12, A.k13, A.k14, A.k15, A.k16, setL_ne (by dsimp only; first | exact ne (by assumption) | exact ne' (by assumption) | exact ne (by omega) | exact ne' (by omega)) (by unfold namIn docNd; simp)⟩, ⟨[], 0, setL_ne (by dsimp only; first | exact ne (by assumption) | exact ne' (by assumption) | exact ne (by omega) | exact ne' (by omega)) (by unfold namIn; simp), .nil⟩, ⟨[], 0, setL_ne (by dsimp only; first | exact ne (by assumption) | exact ne' (by assumption) | exact ne (by omega) | exact ne' (by omega)) (by unfold namIn; simp), .nil⟩⟩
        | 1, h1, h2 =>
          have e1 : (⟨"element", "html", "i", "", ps, [2], -1⟩ : Nd) = d := by simpa [nd3] using h1
          have e2 : (⟨A.a1, ax, A.u1⟩ : NR) = r := by simpa [NA.rs] using h2
          subst e1; subst e2
          exact ⟨⟨0, A.k6, A.k7, A.k8, A.k9, A.k10, setL_ne (by dsimp only; first | exact ne (by assumption) | exact ne' (by assumption) | exact ne (by omega) | exact ne' (by omega)) (by unfold namIn; simp)⟩, ⟨va, nx, sub _ hax, hps.imp fun _ _ h => h.sub sub⟩, ⟨[.int 2 A.k11], 0, setL_ne (by dsimp only; first | exact ne (by assumption) | exact ne' (by assumption) | exact ne (by omega) | exact ne' (by omega)) (by unfold namIn; simp), .cons ⟨A.k11, rfl⟩ .nil⟩⟩
        | 2, h1, h2 =>
          have e1 : (⟨"text", "", "", x, [], [], 1⟩ : Nd) = d := by simpa [nd3] using h1
          have e2 : (⟨A.a2, A.t2, A.u2⟩ : NR) = r := by simpa [NA.rs] using h2
          subst e1; subst e2
          exact ⟨⟨0, A.k1, A.k2, A.k3, A.k4, A.k5, setL_ne (by dsimp only; first | exact ne (by assumption) | exact ne' (by assumption) | exact ne (by omega) | exact ne' (by omega)) (by unfold namIn; simp)⟩, ⟨[], 0, setL_ne (by dsimp only; first | exact ne (by assumption) | exact ne' (by assumption) | exact ne (by omega) | exact ne' (by omega)) (by unfold namIn; simp), .nil⟩, ⟨[], 0, setL_ne (by dsimp only; first | exact ne (by assumption) | exact ne' (by assumption) | exact ne (by omega) | exact ne' (by omega)) (by unfold namIn; simp), .nil⟩⟩
        | (i + 3), h1, h2 => simp [nd3] at h1
      room := by simp [nd3] }
    sep := fun z hz hc => by
      obtain ⟨o, h, _⟩ := R.has z hz
      exact absurd (hr z hc _ h) (Nat.lt_irrefl _)
    nd := by
      unfold noteAddrs NA.rs
      simp only [List.map_cons, List.map_nil, List.cons_append, List.nil_append, List.nodup_cons, List.mem_cons, List.not_mem_nil, or_false, not_or, not_false_eq_true, List.nodup_nil, and_true]
      refine ⟨⟨ne' ?_, ne' ?_, ne ?_, ne' ?_, ne' ?_, ne ?_⟩, ⟨ne ?_, ne ?_, ne' ?_, ne ?_, ne ?_⟩, ⟨ne ?_, ne' ?_, ne' ?_, ne ?_⟩, ⟨ne' ?_, ne' ?_, ne' ?_⟩, ⟨ne ?_, ne ?_⟩, ne ?_⟩ <;> first | assumption | omega }

section
variable {w : World} {nw led : Led} {T : TA} {as qs : List Addr} {nl : Addr} {rs : List NR} {ps : List (Str × Str)} {x sp nm a b : Str} {r1 : NR}
theorem St.sub {nds : List Nd} (S : St w nw T as qs nl rs nds) (hs : Sub nw led) : St w led T as qs nl rs nds := ⟨S.R.sub hs, S.C.sub hs, S.N.sub hs, S.sep, S.nd⟩
theorem St.rename (S : St w nw T as qs nl rs (nd3 ps x sp nm)) (hr : rs[1]? = some r1) (h0 : (sp == PySem.Str.ofString "html" && nm == PySem.Str.ofString "template") = false) (h1 : (a == PySem.Str.ofString "html" && b == PySem.Str.ofString "template") = false)
    (K : Keep [T.s, T.n, r1.a] nw led) {vs vn : List Value} {ns nn nr : Nat} {ta tb t1 t2 t3 t4 t5 : Tok} (hs : All2 IsStr vs ((nd3 ps x sp nm).map Nd.space)) (hn : All2 IsStr vn ((nd3 ps x sp nm).map Nd.name)) (hs1 : (T.s, LO (vs.set 1 (.str a ta)) ns) ∈ led) (hn1 : (T.n, LO (vn.set 1 (.str b tb)) nn) ∈ led)
    (hrow : (r1.a, LO [.str "element" t1, .str a t2, .str b t3, .ref r1.at', .str "" t4, .ref r1.u, .int (-1) t5] nr) ∈ led) : St w led T as qs nl rs (nd3 ps x a b) := by
  have hm1 := List.mem_of_getElem? hr
  have m1 : r1.a ∈ noteAddrs nl rs := List.mem_cons_of_mem _ (List.mem_append_left _ (List.mem_map_of_mem hm1))
  have nd := S.nd
  have nd1 := List.nodup_cons.mp nd
  have nd2 := List.nodup_append.mp nd1.2
  have hsl : T.s ∈ treeAddrs T as qs := lists_sub (by unfold TA.lists; simp)
  have hnl : T.n ∈ treeAddrs T as qs := lists_sub (by unfold TA.lists; simp)
  have hct : T.ct ∉ [T.s, T.n, r1.a] := by
    simp only [List.mem_cons, List.not_mem_nil, or_false, not_or]
    exact ⟨fun e => S.R.ct_not (by rw [e]; unfold TA.lists; simp), fun e => S.R.ct_not (by rw [e]; unfold TA.lists; simp), fun e => S.sep T.ct (by unfold treeAddrs; simp) (e ▸ m1)⟩
  have off : ∀ z ∈ noteAddrs nl rs, z ≠ r1.a → z ∉ [T.s, T.n, r1.a] := fun z hz e hc => by
    simp only [List.mem_cons, List.not_mem_nil, or_false] at hc
    rcases hc with rfl | rfl | h
    · exact S.sep _ hsl hz
    · exact S.sep _ hnl hz
    · exact e h
  refine ⟨?_, ?_, ?_, S.sep, S.nd⟩
  · refine S.R.relist K (fun z hz hc => ?_) rfl rfl rfl rfl ⟨_, _, hs1, ?_⟩ ⟨_, _, hn1, ?_⟩ fun i d' h => ?_
    · simp only [List.mem_cons, List.not_mem_nil, or_false] at hc
      rcases hc with h | h | h
      · exact .inl h
      · exact .inr h
      · exact absurd (h ▸ m1) (S.sep z hz)
    · exact hs.set ⟨ta, rfl⟩ 1
    · exact hn.set ⟨tb, rfl⟩ 1
    · match i, h with
      | 0, h => have e : docNd = d' := by simpa [nd3] using h
                subst e; exact ⟨_, rfl, rfl, rfl, rfl⟩
      | 1, h => have e : (⟨"element", a, b, "", ps, [2], -1⟩ : Nd) = d' := by simpa [nd3] using h
                subst e; exact ⟨_, rfl, rfl, rfl, rfl⟩
      | 2, h => have e : (⟨"text", "", "", x, [], [], 1⟩ : Nd) = d' := by simpa [nd3] using h
                subst e; exact ⟨_, rfl, rfl, rfl, rfl⟩
      | (i + 3), h => simp [nd3] at h
  · obtain ⟨o, kvs, c1, c2, c3, c4⟩ := S.C.keep K hct
    refine ⟨o, kvs, c1, c2, c3, fun i => ⟨fun d hd ht => ?_, fun _ => (c4 i).2 fun d hd => nd3_tem h0 i d hd⟩⟩
    rw [nd3_tem h1 i d hd] at ht; cases ht
  · exact {
      list := let ⟨n, h⟩ := S.N.list; ⟨n, K _ h (.inl (off _ (List.mem_cons_self ..) fun e => nd1.1 (by have e' : nl = r1.a := e; rw [e']; exact List.mem_append_left _ (List.mem_map_of_mem hm1))))⟩
      len := S.N.len
      room := S.N.room
      note := fun i d r e1 e2 => by
        by_cases hi : i = 1
        · subst hi
          rw [hr] at e2; cases e2
          have e : (⟨"element", a, b, "", ps, [2], -1⟩ : Nd) = d := by simpa [nd3] using e1
          subst e
          have old := S.N.note 1 _ r1 rfl hr
          have hu : r1.u ≠ r1.a := fun e => nd2.2.2 _ (List.mem_map_of_mem hm1) _ (List.mem_map_of_mem hm1) e.symm
          exact ⟨⟨nr, t1, t2, t3, t4, t5, hrow⟩, let ⟨vs, n, g1, g2⟩ := old.attrs; ⟨vs, n, K _ g1 (.inr rfl), g2.imp fun _ _ ⟨q, t₁, t₂, c, e, h⟩ => ⟨q, t₁, t₂, c, e, K _ h (.inr rfl)⟩⟩,
            let ⟨vs, n, g1, g2⟩ := old.kids; ⟨vs, n, K _ g1 (.inl (off _ (List.mem_cons_of_mem _ (List.mem_append_right _ (List.mem_map_of_mem hm1))) hu)), g2⟩⟩
        · have hmr := List.mem_of_getElem? e2
          have ha : r.a ≠ r1.a := fun e => hi (by
            have g1 : (rs.map NR.a)[i]? = some r.a := by simp [e2]
            have g2 : (rs.map NR.a)[1]? = some r1.a := by simp [hr]
            have b1 := lt_of_get g1
            have b2 := lt_of_get g2
            have a2 : (rs.map NR.a)[i] = r.a := by have := List.getElem?_eq_getElem b1; rw [g1] at this; exact (Option.some.inj this).symm
            have a3 : (rs.map NR.a)[1] = r1.a := by have := List.getElem?_eq_getElem b2; rw [g2] at this; exact (Option.some.inj this).symm
            exact (List.getElem_inj nd2.1).mp (a2.trans (e.trans a3.symm)))
          have hu : r.u ≠ r1.a := fun e => nd2.2.2 _ (List.mem_map_of_mem hm1) _ (List.mem_map_of_mem hmr) e.symm
          have same : (nd3 ps x sp nm)[i]? = some d := by
            match i, e1, hi with
            | 0, e1, _ => exact e1
            | 1, _, hi => exact absurd rfl hi
            | 2, e1, _ => exact e1
            | (i + 3), e1, _ => simp [nd3] at e1
          exact (S.N.note i d r same e2).keep K (off _ (List.mem_cons_of_mem _ (List.mem_append_left _ (List.mem_map_of_mem hmr))) ha) (off _ (List.mem_cons_of_mem _ (List.mem_append_right _ (List.mem_map_of_mem hmr))) hu) }
inductive Nes4 (T : TA) (nl : Addr) (r1 : NR) : Prop
  | mk (g1 : @Ne Nat nl T.s) (g2 : @Ne Nat nl T.n) (g3 : @Ne Nat r1.a T.s) (g4 : @Ne Nat r1.a T.n) (g5 : @Ne Nat nl r1.a) (g6 : @Ne Nat T.t r1.a) (g7 : @Ne Nat T.d r1.a) : Nes4 T nl r1
theorem St.nes {nds : List Nd} (S : St w nw T as qs nl rs nds) (hr : r1 ∈ rs) : Nes4 T nl r1 := by
  have tsm : T.s ∈ treeAddrs T as qs := lists_sub (by unfold TA.lists; simp)
  have tnm : T.n ∈ treeAddrs T as qs := lists_sub (by unfold TA.lists; simp)
  have ttm : T.t ∈ treeAddrs T as qs := by unfold treeAddrs; simp
  have tdm : T.d ∈ treeAddrs T as qs := by unfold treeAddrs; simp
  have nlm : nl ∈ noteAddrs nl rs := List.mem_cons_self ..
  have a1m : r1.a ∈ noteAddrs nl rs := List.mem_cons_of_mem _ (List.mem_append_left _ (List.mem_map_of_mem hr))
  have key : ∀ z ∈ treeAddrs T as qs, ∀ y ∈ noteAddrs nl rs, y ≠ z := fun z hz y hy e => S.sep z hz (by rw [← e]; exact hy)
  refine ⟨key _ tsm _ nlm, key _ tnm _ nlm, key _ tsm _ a1m, key _ tnm _ a1m, fun e => (List.nodup_cons.mp S.nd).1 ?_, (key _ ttm _ a1m).symm, (key _ tdm _ a1m).symm⟩
  have e' : nl = r1.a := e
  rw [e']; exact List.mem_append_left _ (List.mem_map_of_mem hr)
end

/-- what the law's tree keeps, k turns in -/
structure Inv (nds : List Nd) (k : Nat) : Prop where
  up : Up nds
  ok : ∀ (i : Nat) (d : Nd), nds[i]? = some d → NdOk d
  par : PUp nds
  ix : ∀ (i : Nat) (d : Nd), nds[i]? = some d → d.ix i < nds.length
  few : edges nds 0 ≤ k
  g2 : Good2 nds
  nod : ∀ (i : Nat) (d : Nd), nds[i]? = some d → d.under.Nodup
  len : nds.length ≤ 2 * k + 1
  doc : ∃ d : Nd, nds[0]? = some d ∧ isHold d = true ∧ d.endless = false
section
variable {nds : List Nd} {k p j : Nat} {d ep : Nd}
theorem Inv.good (I : Inv nds k) (hk : k ≤ 15) : Good nds := ⟨I.up, I.ok, fun i d h => by
  rcases I.par i d h with h1 | ⟨q, h1, h2⟩
  · exact .inl h1
  · have := lt_of_get h
    exact .inr ⟨q, nds[q]'(by omega), h1, by simp⟩, I.ix, Nat.le_trans I.few hk⟩
theorem Inv.under_len (I : Inv nds k) {i : Nat} (h : nds[i]? = some d) : d.under.length ≤ k := by
  have h1 := edges_succ h
  have h2 := edges_le (nds := nds) (i := 0) (j := i) (Nat.zero_le _)
  have h3 := I.few
  exact leSum h1 h2 h3
theorem sum_set {l : List Nat} {i x y : Nat} (h : l[i]? = some y) : (l.set i x).sum + y = l.sum + x := by
  induction l generalizing i with
  | nil => simp at h
  | cons a r ih =>
    cases i with
    | zero =>
      have e : a = y := by simpa using h
      subst e
      simp only [List.set_cons_zero, List.sum_cons]; exact add3 _ _ _
    | succ i =>
      have := ih (i := i) (by simpa using h)
      simp only [List.set_cons_succ, List.sum_cons]; exact addSet this
theorem mem_insNat {l : List Nat} {j n c : Nat} : c ∈ insNat l j n ↔ c = n ∨ c ∈ l := by
  unfold insNat
  rw [List.mem_append, List.mem_cons]
  constructor
  · rintro (h | h | h)
    · exact .inr (List.mem_of_mem_take h)
    · exact .inl h
    · exact .inr (List.mem_of_mem_drop h)
  · rintro (h | h)
    · exact .inr (.inl h)
    · rw [← List.take_append_drop j l, List.mem_append] at h
      rcases h with h | h
      · exact .inl h
      · exact .inr (.inr h)
theorem insNat_len {l : List Nat} {j n : Nat} : (insNat l j n).length = l.length + 1 := by
  unfold insNat
  have := congrArg List.length (List.take_append_drop j l)
  rw [List.length_append] at this ⊢
  rw [List.length_cons]; exact congrArg Nat.succ this
theorem insNat_nodup {l : List Nat} {j n : Nat} (h : l.Nodup) (hn : n ∉ l) : (insNat l j n).Nodup := by
  have e : (insNat l j n).Perm (n :: l) := by
    unfold insNat
    refine List.perm_middle.trans (List.Perm.cons _ ?_)
    rw [List.take_append_drop]
  exact e.symm.nodup (List.nodup_cons.mpr ⟨hn, h⟩)
theorem el_cases {i : Nat} {e : Nd} (h : (nds ++ elNds d)[i]? = some e) : nds[i]? = some e ∨ (i = nds.length ∧ e = d) ∨ (i = nds.length + 1 ∧ e = fragNd ∧ d.isTem = true) := by
  by_cases hi : i < nds.length
  · rw [List.getElem?_append_left hi] at h; exact .inl h
  · rw [List.getElem?_append_right (Nat.le_of_not_lt hi)] at h
    unfold elNds at h
    obtain ⟨q, rfl⟩ : ∃ q, i = nds.length + q := ⟨i - nds.length, (Nat.add_sub_cancel' (Nat.le_of_not_lt hi)).symm⟩
    rw [Nat.add_sub_cancel_left] at h
    split at h
    · rename_i ht
      match q, h with
      | 0, h => exact .inr (.inl ⟨rfl, by simpa using h.symm⟩)
      | 1, h => exact .inr (.inr ⟨rfl, by simpa using h.symm, ht⟩)
      | (q + 2), h => simp at h
    · match q, h with
      | 0, h => exact .inr (.inl ⟨rfl, by simpa using h.symm⟩)
      | (q + 1), h => simp at h
theorem el_new : (nds ++ elNds d)[nds.length]? = some d := by
  rw [List.getElem?_append_right (Nat.le_refl _), Nat.sub_self]
  unfold elNds
  split <;> rfl
theorem el_old (hp : nds[p]? = some ep) : (nds ++ elNds d)[p]? = some ep := by
  rw [List.getElem?_append_left (lt_of_get hp)]; exact hp
theorem el_len : nds.length + 1 ≤ (nds ++ elNds d).length ∧ (nds ++ elNds d).length ≤ nds.length + 2 ∧ (d.isTem = true → (nds ++ elNds d).length = nds.length + 2) := by
  unfold elNds
  rw [List.length_append]
  split
  · simp
  · rename_i h; simp [h]
theorem el_edges (hu : d.under = []) : edges (nds ++ elNds d) 0 = edges nds 0 := by
  unfold edges elNds
  rw [List.drop_zero, List.drop_zero, List.map_append, List.sum_append]
  split <;> simp [hu, fragNd]
theorem ins_cases {i : Nat} {e : Nd} (hp : nds[p]? = some ep) (h : (insNds (nds ++ elNds d) p j nds.length ep d)[i]? = some e) :
    (i = nds.length ∧ e = { d with parent := (p : Int) }) ∨ (i = p ∧ e = { ep with under := insNat ep.under j nds.length }) ∨ (i ≠ p ∧ nds[i]? = some e) ∨ (i = nds.length + 1 ∧ e = fragNd ∧ d.isTem = true) := by
  have hl := lt_of_get hp
  rw [ins_at (el_old hp) el_new (Nat.ne_of_lt hl)] at h
  by_cases e1 : i = nds.length
  · rw [if_pos e1] at h; cases h; exact .inl ⟨e1, rfl⟩
  · rw [if_neg e1] at h
    by_cases e2 : i = p
    · rw [if_pos e2] at h; cases h; exact .inr (.inl ⟨e2, rfl⟩)
    · rw [if_neg e2] at h
      rcases el_cases h with h | ⟨h, _⟩ | h
      · exact .inr (.inr (.inl ⟨e2, h⟩))
      · exact absurd h e1
      · exact .inr (.inr (.inr h))
theorem ins_edges (hp : nds[p]? = some ep) (hu : d.under = []) : edges (insNds (nds ++ elNds d) p j nds.length ep d) 0 = edges nds 0 + 1 := by
  have hl := lt_of_get hp
  have hA := el_edges (nds := nds) hu
  have h1 := el_old (d := d) hp
  have h2 := el_new (nds := nds) (d := d)
  unfold insNds
  unfold edges at hA ⊢
  rw [List.drop_zero] at hA ⊢
  rw [List.drop_zero] at hA ⊢
  rw [List.map_set, List.map_set]
  have g1 : (((nds ++ elNds d).map fun d => d.under.length))[p]? = some ep.under.length := by rw [List.getElem?_map, h1]; rfl
  have s1 := sum_set (x := (insNat ep.under j nds.length).length) g1
  have g2 : ((((nds ++ elNds d).map fun d => d.under.length)).set p (insNat ep.under j nds.length).length)[nds.length]? = some 0 := by
    rw [List.getElem?_set, if_neg (Nat.ne_of_lt hl), List.getElem?_map, h2, Option.map_some, hu]; rfl
  have s2 := sum_set (x := d.under.length) g2
  rw [insNat_len] at s1
  rw [hu] at s2
  dsimp only at s2 ⊢
  rw [hu]
  rw [insNat_len] at s2 ⊢
  have e0 : ([] : List Nat).length = 0 := rfl
  rw [e0] at s2 ⊢
  exact edge5 hA s1 s2
theorem frag_ok : NdOk fragNd := ⟨Nat.zero_le _, Nat.zero_le _, Nat.zero_le _, fun _ h => absurd h (by simp [fragNd]), fun _ h => absurd h (by simp [fragNd])⟩
theorem NewNd.low (h : NewNd d) : isHold d = false := by
  have hk := h.kind
  unfold isHold
  simp only [List.mem_cons, List.not_mem_nil, or_false] at hk
  rcases hk with h | h | h | h <;> (rw [h]; decide +kernel)
theorem isHold_par {q : Int} : isHold { d with parent := q } = isHold d := rfl
theorem Inv.step (I : Inv nds k) (hd : NewNd d) (hp : nds[p]? = some ep) : Inv (insNds (nds ++ elNds d) p j nds.length ep d) (k + 1) := by
  have hl := lt_of_get hp
  obtain ⟨l1, l2, l3⟩ := el_len (nds := nds) (d := d)
  have hlen : (insNds (nds ++ elNds d) p j nds.length ep d).length = (nds ++ elNds d).length := ins_len
  refine ⟨?_, ?_, ?_, ?_, ?_, ⟨?_, ?_, ?_⟩, ?_, ?_, ?_⟩
  · intro i e h c hc
    rw [hlen]
    rcases ins_cases hp h with ⟨rfl, rfl⟩ | ⟨rfl, rfl⟩ | ⟨_, h⟩ | ⟨rfl, rfl, _⟩
    · have hc : c ∈ d.under := hc
      rw [hd.under] at hc; cases hc
    · rcases mem_insNat.mp hc with rfl | hc
      · exact ⟨hl, l1⟩
      · have := I.up _ _ hp c hc; exact ⟨this.1, Nat.lt_trans this.2 l1⟩
    · have := I.up _ _ h c hc; exact ⟨this.1, Nat.lt_trans this.2 l1⟩
    · have hc : c ∈ ([] : List Nat) := hc
      cases hc
  · intro i e h
    rcases ins_cases hp h with ⟨rfl, rfl⟩ | ⟨rfl, rfl⟩ | ⟨_, h⟩ | ⟨rfl, rfl, _⟩
    · exact ⟨hd.ok.name, hd.ok.text, hd.ok.many, hd.ok.key, hd.ok.val⟩
    · have := I.ok _ _ hp; exact ⟨this.name, this.text, this.many, this.key, this.val⟩
    · exact I.ok _ _ h
    · exact frag_ok
  · intro i e h
    rcases ins_cases hp h with ⟨rfl, rfl⟩ | ⟨rfl, rfl⟩ | ⟨_, h⟩ | ⟨rfl, rfl, _⟩
    · exact .inr ⟨p, rfl, hl⟩
    · exact I.par i ep hp
    · exact I.par _ _ h
    · exact .inl rfl
  · intro i e h
    rw [hlen]
    rcases ins_cases hp h with ⟨rfl, rfl⟩ | ⟨rfl, rfl⟩ | ⟨_, h⟩ | ⟨rfl, rfl, ht⟩
    · show d.ix nds.length < _
      unfold Nd.ix
      split
      · rename_i h; have := l3 h; exact ltEq this
      · exact l1
    · have := I.ix _ _ hp
      have e : ({ ep with under := insNat ep.under j nds.length } : Nd).ix i = ep.ix i := rfl
      rw [e]; exact Nat.lt_trans this l1
    · have := I.ix _ _ h; exact Nat.lt_trans this l1
    · have := l3 ht
      have e : fragNd.ix (nds.length + 1) = nds.length + 1 := by unfold Nd.ix; rw [isTem_kind (by show (PySem.Str.ofString "fragment" == PySem.Str.ofString "element") = false; decide +kernel), if_neg Bool.false_ne_true]
      rw [e]; exact ltEq this
  · rw [ins_edges hp hd.under]
    exact Nat.succ_le_succ I.few
  · intro i e h c hc f hf
    have old : ∀ (i9 : Nat) (e9 : Nd), nds[i9]? = some e9 → c ∈ e9.under → isHold f = false := fun i9 e9 h9 hc9 => by
      have hcl := (I.up _ _ h9 c hc9).2
      rcases ins_cases hp hf with ⟨q1, _⟩ | ⟨q1, q2⟩ | ⟨_, h'⟩ | ⟨q1, _, _⟩
      · omega
      · have z := I.g2.low i9 e9 h9 c hc9 ep (by rw [q1]; exact hp)
        rw [q2]; exact z
      · exact I.g2.low i9 e9 h9 c hc9 f h'
      · omega
    rcases ins_cases hp h with ⟨rfl, rfl⟩ | ⟨rfl, rfl⟩ | ⟨_, h⟩ | ⟨rfl, rfl, _⟩
    · have hc : c ∈ d.under := hc
      rw [hd.under] at hc; cases hc
    · rcases mem_insNat.mp hc with rfl | hc
      · rcases ins_cases hp hf with ⟨_, rfl⟩ | ⟨e, rfl⟩ | ⟨_, h'⟩ | ⟨e, rfl, _⟩
        · exact hd.low
        · omega
        · have := lt_of_get h'; omega
        · omega
      · exact old _ _ hp hc
    · exact old _ _ h hc
    · have hc : c ∈ ([] : List Nat) := hc
      cases hc
  · intro i e h
    rcases ins_cases hp h with ⟨rfl, rfl⟩ | ⟨rfl, rfl⟩ | ⟨_, h⟩ | ⟨rfl, rfl, _⟩
    · exact hd.spc
    · exact I.g2.spc i ep hp
    · exact I.g2.spc _ _ h
    · intro h; revert h; decide +kernel
  · intro i e h
    rcases ins_cases hp h with ⟨rfl, rfl⟩ | ⟨rfl, rfl⟩ | ⟨_, h⟩ | ⟨rfl, rfl, _⟩
    · have := hd.kind
      simp only [List.mem_cons, List.not_mem_nil, or_false] at this ⊢
      rcases this with h | h | h | h <;> simp [h]
    · exact I.g2.kind i ep hp
    · exact I.g2.kind _ _ h
    · simp [fragNd]
  · intro i e h
    rcases ins_cases hp h with ⟨rfl, rfl⟩ | ⟨rfl, rfl⟩ | ⟨_, h⟩ | ⟨rfl, rfl, _⟩
    · show d.under.Nodup
      rw [hd.under]; exact List.nodup_nil
    · exact insNat_nodup (I.nod i ep hp) fun hc => by have := (I.up i ep hp _ hc).2; omega
    · exact I.nod _ _ h
    · exact List.nodup_nil
  · rw [hlen]; exact Nat.le_trans l2 (Nat.add_le_add_right I.len 2)
  · obtain ⟨d0, h0, h1, h2⟩ := I.doc
    rw [ins_at (el_old hp) el_new (Nat.ne_of_lt hl)]
    rw [if_neg (Nat.ne_of_lt (Nat.lt_of_le_of_lt (Nat.zero_le _) hl))]
    by_cases e : 0 = p
    · subst e
      rw [hp] at h0; cases h0
      exact ⟨_, if_pos rfl, h1, h2⟩
    · rw [if_neg e]
      exact ⟨d0, el_old h0, h1, h2⟩
theorem inv_doc : Inv [docNd] 0 := by
  have key : ∀ {i : Nat} {d : Nd}, ([docNd] : List Nd)[i]? = some d → i = 0 ∧ d = docNd := fun {i d} h => by
    match i, h with
    | 0, h => exact ⟨rfl, by simpa using h.symm⟩
    | (i + 1), h => simp at h
  refine ⟨?_, ?_, ?_, ?_, ?_, ⟨?_, ?_, ?_⟩, ?_, ?_, ?_⟩
  · intro i d h c hc; obtain ⟨rfl, rfl⟩ := key h; simp [docNd] at hc
  · intro i d h; obtain ⟨rfl, rfl⟩ := key h
    exact ⟨Nat.zero_le _, Nat.zero_le _, Nat.zero_le _, fun _ h => absurd h (by simp [docNd]), fun _ h => absurd h (by simp [docNd])⟩
  · intro i d h; obtain ⟨rfl, rfl⟩ := key h; exact .inl rfl
  · intro i d h; obtain ⟨rfl, rfl⟩ := key h; decide +kernel
  · simp [edges, docNd]
  · intro i d h c hc; obtain ⟨rfl, rfl⟩ := key h; simp [docNd] at hc
  · intro i d h; obtain ⟨rfl, rfl⟩ := key h; decide +kernel
  · intro i d h; obtain ⟨rfl, rfl⟩ := key h; simp [docNd]
  · intro i d h; obtain ⟨rfl, rfl⟩ := key h; exact List.nodup_nil
  · decide
  · exact ⟨docNd, rfl, by decide +kernel, by decide +kernel⟩
end

section
variable {w : World} {nw l1 led : Led} {T : TA} {as qs : List Addr} {nl : Addr} {rs : List NR} {nds : List Nd} {r r' : NR} {i k : Nat}
theorem nodup_get {α : Type} {l : List α} {x : α} {i k : Nat} (h : l.Nodup) (h1 : l[i]? = some x) (h2 : l[k]? = some x) : i = k := by
  have b1 := lt_of_get h1
  have b2 := lt_of_get h2
  have a1 : l[i] = x := by have := List.getElem?_eq_getElem b1; rw [h1] at this; exact (Option.some.inj this).symm
  have a2 : l[k] = x := by have := List.getElem?_eq_getElem b2; rw [h2] at this; exact (Option.some.inj this).symm
  exact (List.getElem_inj h).mp (a1.trans a2.symm)
theorem St.ne_a (S : St w nw T as qs nl rs nds) (h1 : rs[i]? = some r) (h2 : rs[k]? = some r') (h : i ≠ k) : @Ne Nat r.a r'.a := fun e => by
  have nd := (List.nodup_append.mp (List.nodup_cons.mp S.nd).2).1
  exact h (nodup_get nd (x := r.a) (by rw [List.getElem?_map, h1]; rfl) (by rw [List.getElem?_map, h2]; exact congrArg some e.symm))
theorem St.ne_u (S : St w nw T as qs nl rs nds) (h1 : rs[i]? = some r) (h2 : rs[k]? = some r') (h : i ≠ k) : @Ne Nat r.u r'.u := fun e => by
  have nd := (List.nodup_append.mp (List.nodup_cons.mp S.nd).2).2.1
  exact h (nodup_get nd (x := r.u) (by rw [List.getElem?_map, h1]; rfl) (by rw [List.getElem?_map, h2]; exact congrArg some e.symm))
theorem St.ne_au (S : St w nw T as qs nl rs nds) (h1 : rs[i]? = some r) (h2 : rs[k]? = some r') : @Ne Nat r.a r'.u :=
  (List.nodup_append.mp (List.nodup_cons.mp S.nd).2).2.2 _ (List.mem_map_of_mem (List.mem_of_getElem? h1)) _ (List.mem_map_of_mem (List.mem_of_getElem? h2))
theorem note_a (h1 : rs[i]? = some r) : r.a ∈ noteAddrs nl rs := List.mem_cons_of_mem _ (List.mem_append_left _ (List.mem_map_of_mem (List.mem_of_getElem? h1)))
theorem note_u (h1 : rs[i]? = some r) : r.u ∈ noteAddrs nl rs := List.mem_cons_of_mem _ (List.mem_append_right _ (List.mem_map_of_mem (List.mem_of_getElem? h1)))
theorem St.ne_l (S : St w nw T as qs nl rs nds) (h1 : rs[i]? = some r) : (@Ne Nat nl r.a) ∧ (@Ne Nat nl r.u) := by
  have nd := (List.nodup_cons.mp S.nd).1
  exact ⟨fun e => nd (show nl ∈ _ by have e' : nl = r.a := e; rw [e']; exact List.mem_append_left _ (List.mem_map_of_mem (List.mem_of_getElem? h1))), fun e => nd (show nl ∈ _ by have e' : nl = r.u := e; rw [e']; exact List.mem_append_right _ (List.mem_map_of_mem (List.mem_of_getElem? h1)))⟩
/-- what a put changes: the parents, the children's lists, the parent's note's list, the child's note -/
theorem St.insert {p node j : Nat} {ep en : Nd} {rp rn : NR} (S : St w nw T as qs nl rs nds) (hp : nds[p]? = some ep) (hn : nds[node]? = some en) (hne : p ≠ node) (h1 : rs[p]? = some rp) (h2 : rs[node]? = some rn)
    (R : TreeC w l1 T as qs (insNds nds p j node ep en)) (C : ContAt w l1 T (insNds nds p j node ep en)) (K1 : Keep (T.p :: qs) nw l1) (K2 : Keep [rp.u, rn.a] l1 led)
    {vs : List Value} {n nr : Nat} {t1 t2 t3 t4 t5 : Tok} (hu : (rp.u, LO vs n) ∈ led) (hvs : All2 IsNat vs (insNat ep.under j node))
    (hrow : (rn.a, LO [.str en.kind t1, .str en.space t2, .str en.name t3, .ref rn.at', .str en.text t4, .ref rn.u, .int (p : Int) t5] nr) ∈ led) : St w led T as qs nl rs (insNds nds p j node ep en) := by
  have offT : ∀ x ∈ treeAddrs T as qs, x ∉ [rp.u, rn.a] := fun x hx hc => by
    simp only [List.mem_cons, List.not_mem_nil, or_false] at hc
    rcases hc with rfl | rfl
    · exact S.sep _ hx (note_u h1)
    · exact S.sep _ hx (note_a h2)
  have off1 : ∀ x ∈ noteAddrs nl rs, x ∉ T.p :: qs := fun x hx hc => by
    refine S.sep x ?_ hx
    rcases List.mem_cons.mp hc with rfl | hc
    · exact lists_sub (by unfold TA.lists; simp)
    · unfold treeAddrs; simp [hc]
  have K : ∀ {x : Addr} {o : Obj}, x ∈ noteAddrs nl rs → x ≠ rp.u → x ≠ rn.a → (x, o) ∈ nw → (x, o) ∈ led := fun hx a b h => K2 _ (K1 _ h (.inl (off1 _ hx))) (.inl (by simp only [List.mem_cons, List.not_mem_nil, or_false, not_or]; exact ⟨a, b⟩))
  have KT : ∀ {x : Addr} {vs : List Value} {n : Nat}, (x, TO vs n) ∈ nw → (x, TO vs n) ∈ led := fun h => K2 _ (K1 _ h (.inr rfl)) (.inr rfl)
  have KA : ∀ {r : NR} {d : Nd}, NoteAt nw r d → ∃ vs n, (r.at', TO vs n) ∈ led ∧ All2 (PairAt led) vs d.attrs := fun h => let ⟨vs, n, g1, g2⟩ := h.attrs; ⟨vs, n, KT g1, g2.imp fun _ _ ⟨q, t₁, t₂, c, e, h⟩ => ⟨q, t₁, t₂, c, e, KT h⟩⟩
  have nl1 := S.ne_l h1
  have nl2 := S.ne_l h2
  refine ⟨R.keep K2 offT, C.keep K2 (offT _ (by unfold treeAddrs; simp)), ?_, S.sep, S.nd⟩
  exact {
    list := let ⟨n, h⟩ := S.N.list; ⟨n, K (List.mem_cons_self ..) nl1.2 nl2.1 h⟩
    len := by rw [ins_len]; exact S.N.len
    room := by rw [ins_len]; exact S.N.room
    note := fun i d r g1 g2 => by
      rw [ins_at hp hn hne] at g1
      by_cases e1 : i = node
      · subst e1
        rw [if_pos rfl] at g1; cases g1
        rw [h2] at g2; cases g2
        have old := S.N.note _ _ _ hn h2
        refine ⟨⟨nr, t1, t2, t3, t4, t5, hrow⟩, (show ∃ vs n, (rn.at', TO vs n) ∈ led ∧ All2 (PairAt led) vs en.attrs from KA old), ?_⟩
        obtain ⟨vs', n', c1, c2⟩ := old.kids
        exact ⟨vs', n', K (note_u h2) (S.ne_u h2 h1 hne.symm) (S.ne_au h2 h2).symm c1, c2⟩
      · rw [if_neg e1] at g1
        have ha : @Ne Nat r.a rn.a := S.ne_a g2 h2 e1
        by_cases e2 : i = p
        · subst e2
          rw [if_pos rfl] at g1; cases g1
          rw [h1] at g2; cases g2
          have old := S.N.note _ _ _ hp h1
          obtain ⟨n', s1, s2, s3, s4, s5, c⟩ := old.row
          exact ⟨⟨n', s1, s2, s3, s4, s5, K (note_a h1) (S.ne_au h1 h1) ha c⟩, (show ∃ vs n, (rp.at', TO vs n) ∈ led ∧ All2 (PairAt led) vs ep.attrs from KA old), ⟨vs, n, hu, hvs⟩⟩
        · rw [if_neg e2] at g1
          have old := S.N.note _ _ _ g1 g2
          obtain ⟨n', s1, s2, s3, s4, s5, c⟩ := old.row
          obtain ⟨vs', n'', c1, c2⟩ := old.kids
          exact ⟨⟨n', s1, s2, s3, s4, s5, K (note_a g2) (S.ne_au g2 h1) ha c⟩, KA old, ⟨vs', n'', K (note_u g2) (S.ne_u g2 h1 e2) (S.ne_au h2 g2).symm c1, c2⟩⟩ }
end

section
variable {h₀ h : Heap} {L D : Addr} {o o' : Obj} {nw a b : Led} {ch : List Addr} {p : Addr × Obj}
theorem setL_fst (hp : p ∈ setL D o nw) : ∃ q ∈ nw, q.1 = p.1 := by
  obtain ⟨q, hq, e⟩ := List.mem_map.mp hp
  refine ⟨q, hq, ?_⟩
  by_cases hd : q.1 = D
  · rw [if_pos hd] at e; rw [← e, hd]
  · rw [if_neg hd] at e; rw [← e]
theorem off_setL {P : Addr → Prop} (h : ∀ p ∈ nw, P p.1) : ∀ p ∈ setL D o nw, P p.1 := fun p hp => let ⟨q, hq, e⟩ := setL_fst hp; e ▸ h q hq
theorem sub_setL (hs : Sub a b) : Sub (setL D o a) (setL D o b) := fun p hp => by
  obtain ⟨q, hq, e⟩ := List.mem_map.mp hp
  exact List.mem_map.mpr ⟨q, hs q hq, e⟩
theorem keep_ne (hF : ∀ x, (D, x) ∈ nw → o = x) (ho : o.cls ≠ .type "tuple") (hch : D ∈ ch) (hp : p ∈ nw) (hc : p.1 ∉ ch ∨ p.2.cls = .type "tuple") : p.1 ≠ D := fun e => by
  obtain ⟨x, y⟩ := p
  have e : x = D := e
  subst e
  rcases hc with hc | hc
  · exact hc hch
  · exact ho (hF _ hp ▸ hc)
/-- what stands ahead and is off D is not touched -/
theorem setL_tail {X : Led} (hX : ∀ q ∈ X, q.1 ≠ D) (hs : Sub X b) (ht : Sub nw b) : Sub (X ++ setL D o nw) (setL D o b) := fun p hp => by
  rcases List.mem_append.mp hp with hp | hp
  · obtain ⟨x, y⟩ := p; exact setL_ne (hX _ hp) (hs _ hp)
  · exact sub_setL ht p hp
end
theorem named_len {ps : List (Str × Str)} {x sp nm y : Str} {fl : Bool} (G : Good (nd3 ps x sp nm)) : (lawText (nd3 ps x sp nm) fl ⟨"text", "", "", x, [], [], 1⟩ y).length ≤ 15000000 := by
  have hd2 : (nd3 ps x sp nm)[2]? = some ⟨"text", "", "", x, [], [], 1⟩ := rfl
  rw [← text_leaf (y := y)]
  have e := rend_eq (flag := fl) G.up hd2
  have k5 : (PySem.Str.ofString "text" == PySem.Str.ofString "element") = false := by decide +kernel
  have e2 : rend (nd3 ps x sp nm) fl 2 = leafText (nd3 ps x sp nm) fl ⟨"text", "", "", x, [], [], 1⟩ := e.trans (by
    show (if (PySem.Str.ofString "text" == PySem.Str.ofString "element") = true then _ else _) = _
    rw [k5, if_neg Bool.false_ne_true])
  rw [← e2]
  have h1 := rend_len (flag := fl) G.ok 2
  have h2 := sizeF_le G.up (nd3 ps x sp nm).length 2
  have h3 : tsize (nd3 ps x sp nm) 2 ≤ 2 * 2 ^ edges (nd3 ps x sp nm) 2 := h2
  have h4 : edges (nd3 ps x sp nm) 2 ≤ 15 := Nat.le_trans (edges_le (Nat.zero_le _)) G.few
  have h5 : 2 ^ edges (nd3 ps x sp nm) 2 ≤ 2 ^ 15 := Nat.pow_le_pow_right (by decide) h4
  exact nl15 h1 h3 h5
noncomputable def namXs : List Str := [PySem.Str.ofString "k", PySem.Str.ofString "word", PySem.Str.ofString "space", PySem.Str.ofString "name", PySem.Str.ofString "flag", PySem.Str.ofString "inside"]
structure NamJ (w : World) (news : Led) (T : TA) (as qs : List Addr) (nl : Addr) (rs : List NR) (ps : List (Str × Str)) (x : Str) (D9 : Addr) (vs : List Value) (m0 m' : Str → Option Value) (nw : Led) : Prop where
  sub : Sub news nw
  st : ∃ sp nm, (sp == PySem.Str.ofString "html" && nm == PySem.Str.ofString "template") = false ∧ nm.length ≤ 20 ∧ St w nw T as qs nl rs (nd3 ps x sp nm)
  d9 : (D9, LO vs 0) ∈ nw
  same : ∀ y, (namXs.contains y) = false → m' y = m0 y
theorem nam_off {y : Str} (h : (namXs.contains y) = false) : y ≠ "inside" ∧ y ≠ "flag" ∧ y ≠ "name" ∧ y ≠ "space" ∧ y ≠ "word" ∧ y ≠ "k" := by
  refine ⟨?_, ?_, ?_, ?_, ?_, ?_⟩ <;> (rintro rfl; revert h; decide)

theorem dropPick (vs : List Value) : slicePick vs.toArray (some (1 : Int)) none none = (vs.drop 1).toArray := by simpa using slicePick_from' vs.toArray 1

local macro_rules (kind := PyProof.Rows.tacticWalk_at_) | x => stopR9 250 x
local macro_rules (kind := PyProof.Rows.tacticWalk_at_) | x => on9 "subscriptTail" x (seq9 [here9, show9 "wpAny _ _ ( subscriptTail _ ( PySem.Expr.Slice ( some _ ) none none _ ) ( Value.ref _ ) ( Value.ref _ ) ) _ _ _", slice9 "sliceS ?F ?N ?m ?k IsPart.none IsPart.none ! ( dropPick _ ) ?z ? ?s"])
local macro_rules (kind := PyProof.Rows.tacticWalk_at_) | x => enum9 "enumL" (do `(tactic| intro $(id9 "e9"):ident $(id9 "it9"):ident)) x

section
local macro_rules (kind := PyProof.Rows.tacticWalk_at_) | x => call9 "call builtin:str.split" "splitTwo" 6 x
local macro_rules (kind := PyProof.Rows.tacticWalk_at_) | x => stopR9 306 x
local macro_rules (kind := PyProof.Rows.tacticWalk_at_) | x => stopR9 105 x
local macro_rules (kind := PyProof.Rows.tacticWalk_at_) | x => assign9 x
local macro_rules (kind := PyProof.Rows.tacticWalk_at_) | x => setItem9 "( Nat.cast _ )" "setItemL" le9 x
local macro_rules (kind := PyProof.Rows.tacticWalk_at_) | x => setItem9 "1" "setItemN 1" (exact9 "Nat.le_of_ble_eq_true rfl") x
local macro_rules (kind := PyProof.Rows.tacticWalk_at_) | x => setItem9 "2" "setItemN 2" (exact9 "Nat.le_of_ble_eq_true rfl") x
variable {w : World} {loose : List Str} {mean : ExcName → Option Value} {mg mb : Str → Option Value} {dp un : Nat} {gd : Option (List Code)} {cn : Str} {cs : Scope} {a : Addr} {ccd : Value} {cl : List (Str × Addr)} {outer : List Env} {A₀ : Around} {base h₀ : Heap} {L : Addr} {m : Str → Option Value} {gh : Heap} {gn : Array GenState} {dr : Drawn} {tk0 : Nat} {os : OsState} {Q E : Value → Shared → Prop} {news : Led}
theorem law_is_named_spec {x : Str} {ax : Addr} {va : List Value} {nx : Nat} {ps : List (Str × Str)} {sh : Int} {t1 t2 : Tok} (C : Cx w loose mean mg mb outer A₀ base h₀ cs) (F : Fr h₀ L gh m) (N : News h₀ L gh news) (hp : 0 < tk0) (hdp : dp + 16 < recursionLimit) (hun : un + 128 < cLine)
  (hx : x.length ≤ 6) (hax : (ax, TO va nx) ∈ news) (hps : All2 (PairAt news) va ps) (ok : PairsOk ps)
  (hret : ∀ (h' : Heap) (tk' : Nat), 0 < tk' → Fr h₀ L h' m → News h₀ L h' news → Q (.bool true) ⟨h', gn, dr, tk', os⟩) :
  wpAny (model PySem.Challenge.rw_nz0091_01.row.prog w) (ktrTop dp un gd cn cs L a ccd cl outer) (call (.ref 325) [.str x t1, .ref ax, .int sh t2]) Q E ⟨gh, gn, dr, tk0, os⟩ := by
  refine wpAny_pos hp ?_
  refine viaF fun hG9 => ?_
  obtain ⟨B, X, TT, hk⟩ := C
  refine hG9 ?_
  refine' enterP (binds := [(PySem.Str.ofString "text", Value.str x t1), (PySem.Str.ofString "attrs", Value.ref ax), (PySem.Str.ofString "shift", Value.int sh t2)]) B F X N TT hk hp (by ktr_room) ?ho ?hcd ?hb ?hl rfl ?_ ?c1 ?c2 ?c3 ?c4
  case ho => k_is
  case hcd => k_is
  case hb => first | exact BindsTo.of_eq rfl | exact hb _ _ _ _ (by k_is) | exact binds_K (by k_in) rfl (by k_is) rfl rfl rfl
  case hl => exact locs rfl
  case c1 => rfl
  case c2 => rfl
  case c3 => rfl
  case c4 => decide
  intro g L₁ h₁ tk hp₁ FG mm F₁ N₁ B₁ X₁ T₁ A₁ qk ek
  k_steps
  unfold Stop
  refine' tree_new_spec ?zzC ?zzF ?zzN ?zzp ?zzd ?zzu  ?_
  case zzC => tb_start
  case zzF => k_asm
  case zzN => k_asm
  case zzp => tb_rel
  case zzd => ktr_room
  case zzu => ktr_room
  intro T a0 q0 NL1 g1 tk1 hp1 F2 N2 sub1 R1 C1 f1
  try dsimp only
  have hinst1 := R1.inst
  have hdict1 := R1.dict
  have hax1 := sub1 _ hax
  have hps1 : All2 (PairAt NL1) va ps := hps.imp fun _ _ h => h.sub sub1
  have hva : va.length ≤ 1000 := eqLe hps.length (Nat.le_trans ok.many (by decide))
  k_steps
  unfold Stop
  refine' element_spec (d := ⟨"element", "html", "i", "", ps, [], -1⟩) (va := va) (nx := nx) ?zzC ?zzF ?zzN ?zzp ?zzd ?zzu ?zzR ?zzCA ?zzro ?zzax ?zzvl ?zzat ?zzki ?zztx ?zzhu ?zzpa ?_
  case zzC => tb_start
  case zzF => k_asm
  case zzN => k_asm
  case zzp => tb_rel
  case zzd => ktr_room
  case zzu => ktr_room
  case zzR => exact R1
  case zzCA => exact C1
  case zzro => decide
  case zzax => exact hax1
  case zzvl => exact hva
  case zzat => (intro _; exact hps1)
  case zzki => rfl
  case zztx => rfl
  case zzhu => rfl
  case zzpa => rfl
  intro as2 qs2 NL2 tt2 g2 tk2 hp2 F3 N3 R2 C2 K2 f2
  try dsimp only
  have hel : elNds ⟨"element", "html", "i", "", ps, [], -1⟩ = [⟨"element", "html", "i", "", ps, [], -1⟩] := elNds_one (by unfold Nd.isTem; show (PySem.Str.ofString "element" == PySem.Str.ofString "element" && (PySem.Str.ofString "html" == PySem.Str.ofString "html" && PySem.Str.ofString "i" == PySem.Str.ofString "template")) = false; decide +kernel)
  rw [hel] at R2 C2
  have hinst2 := R2.inst
  have hdict2 := R2.dict
  rw [show (([docNd] : List Nd).length : Int) = ((1 : Nat) : Int) from rfl]
  k_steps
  unfold Stop
  refine' text_spec (x := x) ?zzC ?zzF ?zzN ?zzp ?zzd ?zzu ?zzR ?zzCA ?zzro ?_
  case zzC => tb_start
  case zzF => k_asm
  case zzN => k_asm
  case zzp => tb_rel
  case zzd => ktr_room
  case zzu => ktr_room
  case zzR => exact R2
  case zzCA => exact C2
  case zzro => exact Nat.le_of_ble_eq_true rfl
  intro as3 qs3 NL3 tt3 g3 tk3 hp3 F4 N4 M3
  try dsimp only
  have R3 := M3.R
  have C3 := M3.C
  have hinst3 := R3.inst
  have hdict3 := R3.dict
  rw [show ((([docNd] ++ [⟨"element", "html", "i", "", ps, [], -1⟩] : List Nd)).length : Int) = ((2 : Nat) : Int) from rfl]
  k_steps
  unfold Stop
  have PU : PUp ([docNd] ++ [⟨"element", "html", "i", "", ps, [], -1⟩] ++ [⟨"text", "", "", x, [], [], -1⟩]) := fun i d h => by
    match i, h with
    | 0, h => have e : docNd = d := by simpa using h
              subst e; exact .inl rfl
    | 1, h => have e : (⟨"element", "html", "i", "", ps, [], -1⟩ : Nd) = d := by simpa using h
              subst e; exact .inl rfl
    | 2, h => have e : (⟨"text", "", "", x, [], [], -1⟩ : Nd) = d := by simpa using h
              subst e; exact .inl rfl
    | (i + 3), h => simp at h
  refine' append_spec (p := 1) (node := 2) (j := 0) (ep := ⟨"element", "html", "i", "", ps, [], -1⟩) (en := ⟨"text", "", "", x, [], [], -1⟩) ?zzC ?zzF ?zzN ?zzp ?zzd ?zzu ?zzR ?zzCA ?zzPU ?zzhp ?zzhn ?zzpn ?zzdn ?zznd ?zzul ?zzhj ?_
  case zzC => tb_start
  case zzF => k_asm
  case zzN => k_asm
  case zzp => tb_rel
  case zzd => ktr_room
  case zzu => ktr_room
  case zzR => exact R3
  case zzCA => exact C3
  case zzPU => exact PU
  case zzhp => rfl
  case zzhn => rfl
  case zzpn => decide
  case zzdn => rfl
  case zznd => exact List.nodup_nil
  case zzul => exact Nat.zero_le _
  case zzhj => rfl
  intro NL4 g4 tk4 hp4 F5 N5 R4 C4 K4
  try dsimp only
  have hax4 := K4 _ (M3.K _ (K2 _ hax1 (.inr rfl)) (.inr rfl)) (.inr rfl)
  have hps4 : All2 (PairAt NL4) va ps := hps1.imp fun _ _ ⟨q, t₁, t₂, c, e, h⟩ => ⟨q, t₁, t₂, c, e, K4 _ (M3.K _ (K2 _ h (.inr rfl)) (.inr rfl)) (.inr rfl)⟩
  have R5 : TreeC w NL4 T (([a0] ++ as2) ++ as3) (([q0] ++ qs2) ++ qs3) (nd3 ps x "html" "i") := R4
  have C5 : ContAt w NL4 T (nd3 ps x "html" "i") := C4
  k_steps
  unfold Stop
  rename Fr _ _ _ _ => F9
  rename News _ _ _ _ => N9
  rename (∀ p : Addr × Obj, p ∈ NL4 → _) => l9
  refine viaF fun hG9 => ?_
  obtain ⟨A9, tn, F8, N8, I8⟩ : ∃ (A9 : NA) (tn : Tok), Fr g L₁ _ (fun y => if y = "notes" then some (Value.ref A9.nl) else if y = "node" then some (Value.int ((1 : Nat) : Int) tn) else if y = "tree" then some (Value.ref T.t) else List.lookup y [(PySem.Str.ofString "text", Value.str x t1), (PySem.Str.ofString "attrs", Value.ref ax), (PySem.Str.ofString "shift", Value.int sh t2)].reverse) ∧ News g L₁ _ (namLed A9 ax x NL4) ∧ NamOk A9 NL4 :=
    ⟨⟨_, _, _, _, _, _, _, _, _, _, _, _, _, _, _, _, _, _, _, _, _, _, _, _, _⟩, _, F9, N9, ⟨l9, by dsimp only; exact And.left (by assumption), by dsimp only; exact And.left (by assumption), by dsimp only; exact And.left (by assumption), by dsimp only; exact And.left (by assumption), by dsimp only; exact And.left (by assumption), by dsimp only; exact And.left (by assumption), by dsimp only; exact And.left (by assumption), by dsimp only; exact And.left (by assumption)⟩⟩
  have S8 := nam_st I8 R5 C5 hax4 hps4
  have tl : ∀ y ∈ T.ct :: T.lists, y ∈ treeAddrs T [a0] [q0] := fun y hy => by
    rcases List.mem_cons.mp hy with rfl | hy
    · unfold treeAddrs; simp
    · exact lists_sub hy
  have offT : ∀ p ∈ news, p.1 ∉ T.ct :: T.lists := fun p hp hc => Nat.lt_irrefl _ (f1 _ (tl _ hc) p hp)
  have hn2 : Sub news NL2 := fun p hp => K2 p (sub1 p hp) (.inl (offT p hp))
  have hn4 : Sub news NL4 := fun p hp => K4 p (M3.K p (hn2 p hp) (.inl (offT p hp))) (.inl fun hc => by
    rcases List.mem_cons.mp hc with hc | hc
    · exact offT p hp (hc ▸ List.mem_cons_of_mem _ (by unfold TA.lists; simp))
    · rcases List.mem_append.mp hc with hc | hc
      · rcases List.mem_append.mp hc with hc | hc
        · exact Nat.lt_irrefl _ (f1 _ (by unfold treeAddrs; simp [List.mem_singleton.mp hc]) p hp)
        · exact Nat.lt_irrefl _ (f2 _ (List.mem_append_right _ hc) p (sub1 p hp))
      · exact Nat.lt_irrefl _ (M3.fresh _ (List.mem_append_right _ hc) p (hn2 p hp)))
  have sub8 : Sub news (namLed A9 ax x NL4) := fun p hp => setL_ne (fun e => by have h0 := I8.l0 p (hn4 p hp); have h1 := I8.l1; have h2 := I8.l2; have h3 := I8.l3; have h4 := I8.l4; have h5 := I8.l5; rw [e] at h0; exact Nat.lt_irrefl _ (Nat.lt_trans h0 (Nat.lt_trans h1 (Nat.lt_trans h2 (Nat.lt_trans h3 (Nat.lt_trans h4 h5)))))) (by unfold namIn; simp [hn4 p hp])
  have hoff : ∀ p ∈ news, p.1 ∉ [T.s, T.n, A9.a1] := fun p hp hc => by
    simp only [List.mem_cons, List.not_mem_nil, or_false] at hc
    rcases hc with hc | hc | hc
    · exact offT p hp (hc ▸ List.mem_cons_of_mem _ (by unfold TA.lists; simp))
    · exact offT p hp (hc ▸ List.mem_cons_of_mem _ (by unfold TA.lists; simp))
    · have h0 := I8.l0 p (hn4 p hp); have h1 := I8.l1; have h2 := I8.l2; have h3 := I8.l3; have h4 := I8.l4; rw [hc] at h0; exact Nat.lt_irrefl _ (Nat.lt_trans h0 (Nat.lt_trans h1 (Nat.lt_trans h2 (Nat.lt_trans h3 h4))))
  refine hG9 ?_
  clear hn2 hn4
  generalize namLed A9 ax x NL4 = led at N8 S8 sub8
  clear F9 N9
  refine wpAny_For ?_
  k_steps
  unfold Stop
  refine' law_words_spec ?zzC ?zzF ?zzN ?zzp ?zzd ?zzu  ?_
  case zzC => tb_start
  case zzF => k_asm
  case zzN => k_asm
  case zzp => tb_rel
  case zzd => ktr_room
  case zzu => ktr_room
  intro aw vw hw tkw hpw ew lw Fw Nw
  try dsimp only
  have hvl : vw.length = 53 := ew.length.trans words_len
  k_steps
  unfold Stop
  rename Fr _ _ _ _ => F10
  rename News _ _ _ _ => N10
  rename IsEnum _ _ _ _ _ => he
  rename Heap.IsListIter _ _ _ _ => hit
  rename EFresh _ _ _ _ _ => hX
  rename (∀ p : Addr × Obj, p ∈ ((aw, LO vw 0) :: led : Led) → _) => lD
  refine viaF fun hG9 => ?_
  obtain ⟨D9, led2, sub9, hD2, hS2, N11, X11, hit2, dT, dN⟩ : ∃ (D9 : Addr) (led2 : Led), Sub news led2 ∧ (D9, LO (vw.drop 1) 0) ∈ led2 ∧ St w led2 T (([a0] ++ as2) ++ as3) (([q0] ++ qs2) ++ qs3) A9.nl (A9.rs ax) (nd3 ps x "html" "i") ∧ News g L₁ _ led2 ∧ EFresh g L₁ led2 _ _ ∧ Heap.IsListIter _ _ D9 0 ∧ (∀ z ∈ treeAddrs T (([a0] ++ as2) ++ as3) (([q0] ++ qs2) ++ qs3), z ≠ D9) ∧ (∀ z ∈ noteAddrs A9.nl (A9.rs ax), z ≠ D9) :=
    ⟨_, _, fun p hp => List.mem_cons_of_mem _ (List.mem_cons_of_mem _ (sub8 p hp)), List.mem_cons_self .., S8.sub (Sub.cons (Sub.cons Sub.refl)), N10, hX, hit, fun z hz e => by
      obtain ⟨o, h, _⟩ := S8.R.has z hz
      exact absurd (lD (z, o) (List.mem_cons_of_mem _ h)) (by rw [show ((z, o) : Addr × Obj).1 = z from rfl, e]; exact Nat.lt_irrefl _), fun z hz e => by
      obtain ⟨o, h, _⟩ := S8.N.has z hz
      exact absurd (lD (z, o) (List.mem_cons_of_mem _ h)) (by rw [show ((z, o) : Addr × Obj).1 = z from rfl, e]; exact Nat.lt_irrefl _)⟩
  refine hG9 ?_
  clear N10 hX lD
  have hrs1 : (A9.rs ax)[1]? = some ⟨A9.a1, ax, A9.u1⟩ := rfl
  have ewd : All2 IsStr (vw.drop 1) (lawWords.drop 1) := ew.drop 1
  refine forEnum (vs := vw.drop 1) rfl rfl rfl rfl F10 N11 hD2 (by tb_rel) he hit2 X11
    (fun _ m' nw => NamJ w news T (([a0] ++ as2) ++ as3) (([q0] ++ qs2) ++ qs3) A9.nl (A9.rs ax) ps x D9 (vw.drop 1) (fun y : Str => if y = "notes" then some (Value.ref A9.nl) else if y = "node" then some (Value.int ((1 : Nat) : Int) tn) else if y = "tree" then some (Value.ref T.t) else List.lookup y [(PySem.Str.ofString "text", Value.str x t1), (PySem.Str.ofString "attrs", Value.ref ax), (PySem.Str.ofString "shift", Value.int sh t2)].reverse) m' nw) ?src ?init ?step ?done
  case src => exact fun _ _ _ J => J.d9
  case init => exact ⟨sub9, ⟨PySem.Str.ofString "html", PySem.Str.ofString "i", by decide +kernel, by decide, hS2⟩, hD2, fun y _ => rfl⟩
  case done =>
    rintro m' nw h tk ⟨subW, _, _, hm'⟩ hpk F4 N4
    rw [fr_many hm'] at F4
    intro hpk2
    try dsimp only
    k_steps
    rename Fr h₀ L _ _ => F9
    rename News h₀ L _ nw => N9
    exact hret _ _ (by assumption) F9 (news_sub N9 subW)
  case step =>
    rintro i v t m' nw h tk oe oi hv ⟨subW, ⟨sp, nm, hnt, hnml, S4⟩, hD4, hm'⟩ hpk F4 N4 off
    rw [fr_many hm'] at F4
    refine viaF fun hG9 => ?_
    obtain ⟨x2, hx2, tv, rfl⟩ := ewd.getL hv
    have hxd := List.mem_of_getElem? hx2
    have hxm := List.mem_of_mem_drop hxd
    have hxl := words_short x2 hxm
    obtain ⟨a2, b2, hsp, hspl, hbl⟩ := word_split hxm
    have hnt2 := word_nt hxd hsp
    have hinst4 := S4.R.inst
    have hdict4 := S4.R.dict
    obtain ⟨vs1, ns1, hs1, hsa⟩ := S4.R.spaces
    obtain ⟨vn1, nn1, hn1, hna⟩ := S4.R.names
    have hsl : vs1.length = 3 := hsa.length
    have hnl : vn1.length = 3 := hna.length
    obtain ⟨nnl, hnl4⟩ := S4.N.list
    have hnote := S4.N.note 1 _ _ rfl hrs1
    obtain ⟨nr, u1, u2, u3, u4, u5, hrow⟩ := hnote.row
    obtain ⟨_, _, _, _, _, _, n21, _, _, _, _, _, _, _, _, _, _, _, _, _, _⟩ := S4.R.nes
    obtain ⟨_, t12, t13, _, _, _, _, _, d12, d13, _, _, _, _⟩ := S4.R.nes2
    obtain ⟨g1, g2, g3, g4, g5, g6, g7⟩ := S4.nes (List.mem_of_getElem? hrs1)
    refine hG9 ?_
    dsimp only at g3 g4 g5 g6 g7
    change @Ne Addr _ _ at g1 g2 g3 g4 g5 g6 g7 n21 t12 t13 d12 d13
    have hfs : ∀ x, (T.s, x) ∈ nw → LO vs1 ns1 = x := fun x hx => news_fun (news_tail (news_tail N4)) hs1 hx
    have hfn : ∀ x, (T.n, x) ∈ nw → LO vn1 nn1 = x := fun x hx => news_fun (news_tail (news_tail N4)) hn1 hx
    have hoe := off _ hs1
    have hon := off _ hn1
    have hoa := off _ hrow
    have hsn : @Ne Addr T.s T.n := n21
    have ha1 : A9.a1 ∉ [T.s, T.n] := by simp only [List.mem_cons, List.not_mem_nil, or_false, not_or]; exact ⟨g3, g4⟩
    have hal : A9.nl ∉ [T.s, T.n] := by simp only [List.mem_cons, List.not_mem_nil, or_false, not_or]; exact ⟨g1, g2⟩
    try dsimp only
    k_steps
    unfold Stop
    rename News _ _ _ _ => N7
    refine viaF fun hG9 => ?_
    obtain ⟨nw3, ta3, tb3, N31, K31, hs3, hn3, off3⟩ : ∃ nw3 ta tb, News g L₁ _ ((e9, oe) :: (it9, oi) :: nw3) ∧ Keep [T.s, T.n] nw nw3 ∧ (T.s, LO (vs1.set 1 (.str a2 ta)) ns1) ∈ nw3 ∧ (T.n, LO (vn1.set 1 (.str b2 tb)) nn1) ∈ nw3 ∧ (∀ p ∈ nw3, p.1 ≠ e9 ∧ p.1 ≠ it9) :=
      ⟨setL T.n (LO (vn1.set 1 (.str b2 _)) nn1) (setL T.s (LO (vs1.set 1 (.str a2 _)) ns1) nw), _, _, news_sub N7 (fun p hp => by
        rcases List.mem_cons.mp hp with rfl | hp
        · exact setL_ne hon.1.symm (setL_ne hoe.1.symm (by simp))
        · rcases List.mem_cons.mp hp with rfl | hp
          · exact setL_ne hon.2.symm (setL_ne hoe.2.symm (by simp))
          · exact sub_setL (sub_setL (fun q hq => by simp [hq])) p hp),
        fun p hp hc => setL_ne (keep_ne hfn lo_cls (by simp) hp hc) (setL_ne (keep_ne hfs lo_cls (by simp) hp hc) hp),
        setL_ne hsn (setL_self hs1), setL_self (setL_ne hsn.symm hn1), off_setL (P := fun y => y ≠ e9 ∧ y ≠ it9) (off_setL (P := fun y => y ≠ e9 ∧ y ≠ it9) off)⟩
    refine hG9 ?_
    clear N7
    repeat (with_reducible (rename News _ _ _ (setL _ _ _) => N99); clear N99)
    have hrow3 := K31 _ hrow (.inl ha1)
    have hnl3 := K31 _ hnl4 (.inl hal)
    have hit3 : ItemAt nw3 A9.nl 1 (.ref A9.a1) := .of (i := 1) hnl3 rfl (by decide)
    have hfa : ∀ x, (A9.a1, x) ∈ nw3 → _ = x := fun x hx => news_fun (news_tail (news_tail N31)) hrow3 hx
    have hoa3 := off3 _ hrow3
    k_steps
    unfold Stop
    rename News _ _ _ _ => N7
    refine viaF fun hG9 => ?_
    obtain ⟨nw4, ta4, N41, K41, hrow4, off4⟩ : ∃ nw4 ta, News g L₁ _ ((e9, oe) :: (it9, oi) :: nw4) ∧ Keep [A9.a1] nw3 nw4 ∧ (A9.a1, LO [.str "element" u1, .str a2 ta, .str nm u3, .ref ax, .str "" u4, .ref A9.u1, .int (-1) u5] nr) ∈ nw4 ∧ (∀ p ∈ nw4, p.1 ≠ e9 ∧ p.1 ≠ it9) :=
      ⟨setL A9.a1 (LO [.str "element" u1, .str a2 _, .str nm u3, .ref ax, .str "" u4, .ref A9.u1, .int (-1) u5] nr) nw3, _, news_sub N7 (fun p hp => by
        rcases List.mem_cons.mp hp with rfl | hp
        · exact setL_ne hoa3.1.symm (by simp)
        · rcases List.mem_cons.mp hp with rfl | hp
          · exact setL_ne hoa3.2.symm (by simp)
          · exact sub_setL (fun q hq => by simp [hq]) p hp),
        fun p hp hc => setL_ne (keep_ne hfa lo_cls (by simp) hp hc) hp, setL_self hrow3, off_setL (P := fun y => y ≠ e9 ∧ y ≠ it9) off3⟩
    refine hG9 ?_
    clear N7
    repeat (with_reducible (rename News _ _ _ (setL _ _ _) => N99); clear N99)
    have hal4 : A9.nl ∉ [A9.a1] := by simp only [List.mem_singleton]; exact g5
    have hnl4' := K41 _ hnl3 (.inl hal4)
    have hit4 : ItemAt nw4 A9.nl 1 (.ref A9.a1) := .of (i := 1) hnl4' rfl (by decide)
    have hfb : ∀ x, (A9.a1, x) ∈ nw4 → _ = x := fun x hx => news_fun (news_tail (news_tail N41)) hrow4 hx
    have hoa4 := off4 _ hrow4
    k_steps
    unfold Stop
    rename News _ _ _ _ => N7
    refine viaF fun hG9 => ?_
    obtain ⟨nw5, tb5, N51, K51, hrow5, off5⟩ : ∃ nw5 tb, News g L₁ _ ((e9, oe) :: (it9, oi) :: nw5) ∧ Keep [A9.a1] nw4 nw5 ∧ (A9.a1, LO [.str "element" u1, .str a2 ta4, .str b2 tb, .ref ax, .str "" u4, .ref A9.u1, .int (-1) u5] nr) ∈ nw5 ∧ (∀ p ∈ nw5, p.1 ≠ e9 ∧ p.1 ≠ it9) :=
      ⟨setL A9.a1 (LO [.str "element" u1, .str a2 ta4, .str b2 _, .ref ax, .str "" u4, .ref A9.u1, .int (-1) u5] nr) nw4, _, news_sub N7 (fun p hp => by
        rcases List.mem_cons.mp hp with rfl | hp
        · exact setL_ne hoa4.1.symm (by simp)
        · rcases List.mem_cons.mp hp with rfl | hp
          · exact setL_ne hoa4.2.symm (by simp)
          · exact sub_setL (fun q hq => by simp [hq]) p hp),
        fun p hp hc => setL_ne (keep_ne hfb lo_cls (by simp) hp hc) hp, setL_self hrow4, off_setL (P := fun y => y ≠ e9 ∧ y ≠ it9) off4⟩
    refine hG9 ?_
    clear N7
    repeat (with_reducible (rename News _ _ _ (setL _ _ _) => N99); clear N99)
    have KK : Keep [T.s, T.n, A9.a1] nw nw5 := ((K31.wide (by simp)).trans (K41.wide (by simp))).trans (K51.wide (by simp))
    have hsa1 : T.s ∉ [A9.a1] := by simp only [List.mem_singleton]; exact g3.symm
    have hna1 : T.n ∉ [A9.a1] := by simp only [List.mem_singleton]; exact g4.symm
    have S5 : St w nw5 T (([a0] ++ as2) ++ as3) (([q0] ++ qs2) ++ qs3) A9.nl (A9.rs ax) (nd3 ps x a2 b2) :=
      S4.rename hrs1 hnt hnt2 KK hsa hna (K51 _ (K41 _ hs3 (.inl hsa1)) (.inl hsa1)) (K51 _ (K41 _ hn3 (.inl hna1)) (.inl hna1)) hrow5
    have subW5 : Sub news nw5 := fun p hp => KK p (subW p hp) (.inl (hoff p hp))
    have hD5 : (D9, LO (vw.drop 1) 0) ∈ nw5 := KK _ hD4 (.inl (by
      simp only [List.mem_cons, List.not_mem_nil, or_false, not_or]
      exact ⟨(dT _ (lists_sub (by unfold TA.lists; simp))).symm, (dT _ (lists_sub (by unfold TA.lists; simp))).symm, (dN _ (note_a hrs1)).symm⟩))
    have G5 := nd3_good (sp := a2) ok hx hbl hnt2
    have RR5 := S5.R.rep S5.C
    have hd51 : (nd3 ps x a2 b2)[1]? = some ⟨"element", a2, b2, "", ps, [2], -1⟩ := rfl
    have hd52 : (nd3 ps x a2 b2)[2]? = some ⟨"text", "", "", x, [], [], 1⟩ := rfl
    have hlen5 : ∀ fl y, (lawText (nd3 ps x a2 b2) fl ⟨"text", "", "", x, [], [], 1⟩ y).length ≤ 15000000 := fun fl y => named_len G5
    refine' law_written_spec (i := 2) ?zzC ?zzF ?zzN ?zzp ?zzd ?zzu ?zzR ?zzi ?zzok ?zzpa ?zzhx ?_
    case zzC => tb_start
    case zzF => k_asm
    case zzN => k_asm
    case zzp => tb_rel
    case zzd => ktr_room
    case zzu => ktr_room
    case zzR => exact S5.N.sub (Sub.cons (Sub.cons Sub.refl))
    case zzi => exact hd52
    case zzok => exact G5.ok _ _ hd52
    case zzpa => exact G5.par _ _ hd52
    case zzhx => exact Nat.zero_le _
    intro tt6 g6 tk6 hp6 F6 N6
    try dsimp only
    k_steps
    unfold Stop
    refine' outer_spec (i := 1) ?zzC ?zzF ?zzN ?zzp ?zzd ?zzu ?zzR ?zzG ?zzi ?_
    case zzC => tb_start
    case zzF => k_asm
    case zzN => k_asm
    case zzp => tb_rel
    case zzd => ktr_room
    case zzu => ktr_room
    case zzR => exact RR5.sub (Sub.cons (Sub.cons Sub.refl))
    case zzG => exact G5
    case zzi => exact hd51
    intro tt7 g7 tk7 hp7 F7 N7
    try dsimp only
    k_steps
    unfold Stop
    refine' law_written_spec (i := 1) ?zzC ?zzF ?zzN ?zzp ?zzd ?zzu ?zzR ?zzi ?zzok ?zzpa ?zzhx ?_
    case zzC => tb_start
    case zzF => k_asm
    case zzN => k_asm
    case zzp => tb_rel
    case zzd => ktr_room
    case zzu => ktr_room
    case zzR => exact S5.N.sub (Sub.cons (Sub.cons Sub.refl))
    case zzi => exact hd51
    case zzok => exact G5.ok _ _ hd51
    case zzpa => exact G5.par _ _ hd51
    case zzhx => exact hlen5 _ _
    intro tt8 g8 tk8 hp8 F8 N8
    try dsimp only
    rw [← named_eq G5 hnt2]
    k_steps
    · rename (_ != _) = true => hne
      rw [bne_self_eq_false] at hne; cases hne
    · exact turnE_next F8 N8 off5 ⟨subW5, ⟨a2, b2, hnt2, hbl, S5⟩, hD5, fun y hy => by
        refine viaF fun hG9 => ?_
        obtain ⟨y1, y2, y3, y4, y5, y6⟩ := nam_off hy
        refine hG9 ?_
        simp +zetaDelta only [if_neg y1, if_neg y2, if_neg y3, if_neg y4, if_neg y5, if_neg y6]
        show (if (namXs.contains y) = true then _ else _) = _
        rw [hy, if_neg Bool.false_ne_true]⟩
end

section
variable {prog : Program} {w : World} {A : Around} {s : Shared} {env : Env} {h₀ : Heap}
/-- a for over a range by ones, the iterator's class told -/
theorem forRangeC {x : Str} {px : Pos} {body : List Stmt} {r : Addr} {a₀ b₀ c₀ : Int} {t₀ u₀ v₀ : Tok} {n : Nat} {m : Str → Option Value} {news : Led} {Q : Flow → Shared → Prop}
    (hh : A.handled = none) (hx : env.kindOf x = some .local)
    (hp : (env.scope.kind == .class || (env.scope.kind == .module && env.locals != env.globals)) = false)
    (F : Fr h₀ env.locals s.heap m) (N : News h₀ env.locals s.heap news) (hr : IsRange s.heap r a₀ b₀ c₀ t₀ u₀ v₀) (hsmall : Builtin.Range.small a₀ b₀ c₀ = true) (hn : Builtin.Range.rangeSize a₀ b₀ c₀ = (n : Int)) (hpos : 0 < s.toks)
    (J : Nat → (Str → Option Value) → Led → Prop) (h0 : J 0 m news)
    (step : ∀ i t m' news' h tk I oI, i < n → J i m' news' → 0 < tk → Fr h₀ env.locals h (fun y => if y = x then some (.int (a₀ + i * c₀) t) else m' y) → News h₀ env.locals h ((I, oI) :: news') → (∀ p ∈ news', p.1 ≠ I) → oI.cls ≠ .type "tuple" →
      wpAny (model prog w) A (execs body env) (TurnS h₀ env.locals I oI (J (i + 1)) { s with heap := h, toks := tk } fun _ _ => False) (fun _ _ => False) { s with heap := h, toks := tk })
    (done : ∀ m' news' h tk, J n m' news' → 0 < tk → Fr h₀ env.locals h m' → News h₀ env.locals h news' → Q .next { s with heap := h, toks := tk }) :
    wpAny (model prog w) A (pyIter (.ref r)) (fun it s₂ => codeAny (model prog w) A (.forLoop (.Name x px) it body [] env) (fun r s' => match r with | .ok f => Q f s' | .error e => cameBackBy (model prog w) A env (fun _ _ => False) e s') s₂) (fun _ _ => False) s := by
  refine wpAny_pyIter_range hr hsmall ?_
  have up : ∀ b o, s.heap.get? b = some o → (s.heap.push { cls := .type "range_iterator", data := .fields #[rawInt a₀, rawInt (Builtin.Range.rangeSize a₀ b₀ c₀), rawInt c₀] }).get? b = some o := fun b o e => Heap.get?_push_of_some _ e
  generalize hI : s.heap.objs.size = I
  have hLI : env.locals ≠ I := fun e => by have := F.ns.lt; rw [e, hI] at this; exact Nat.lt_irrefl _ this
  have hI0 : h₀.get? I = none := by
    cases e : h₀.get? I with
    | none => rfl
    | some o => have := F.keep I o e; have := Heap.lt_size this; rw [hI] at this; exact absurd this (Nat.lt_irrefl _)
  have W := Walks.range (prog := prog) (w := w) hh I a₀ c₀ n
  refine codeAny_forLoop
    (fun k s' => ∃ (h' : Heap) (tk : Nat) (m' : Str → Option Value) (news' : Led) (i : Nat), s' = { s with heap := h', toks := tk } ∧ 0 < tk ∧ IsRangeIter h' I (a₀ + i * c₀) ((n : Int) - i) c₀ ∧ Fr h₀ env.locals h' m' ∧ News h₀ env.locals h' news' ∧ (∀ p ∈ news', p.1 ≠ I) ∧ J i m' news' ∧ i ≤ n ∧ k = n + 1 - i) ?_ (n + 1)
    ⟨_, s.toks, m, news, 0, rfl, hpos, ?_, F.keeps up, N.grown up, fun p hp => by rw [← hI]; exact Nat.ne_of_lt (Heap.lt_size (N p hp).1), h0, Nat.zero_le _, rfl⟩
  · rintro k s' ⟨h', tk, m', news', i, rfl, hp', hst', F', N', off', hJ, hi, rfl⟩
    by_cases hlt : i < n
    · refine wpAny_pos hp' ?_
      refine W.item i _ _ _ hlt hst' fun v h₁ tk₁ hP hst₁ hk₁ hp₁ => ?_
      obtain ⟨t, rfl⟩ := hP
      have F₁ := LCg.fr_but F' hk₁ hLI hI0
      have N₁ := LCg.news_but N' hk₁ off'
      refine wpAny_assign_Name (wpAny_storeName_local hx F₁.ns (fun h₂ hn₂ hs₂ => ?_) hp)
      have F₂ := F₁.set hn₂ hs₂
      have N₂ := N₁.set hs₂
      have hst₂ : IsRangeIter h₂ I (a₀ + (i + 1 : Nat) * c₀) ((n : Int) - (i + 1 : Nat)) c₀ := W.frame _ _ _ hst₁ fun b hb o e => (hs₂.2 b fun q => hLI (by rw [← q]; exact List.mem_singleton.mp hb)).trans e
      obtain ⟨oI, hoI, hcl⟩ : ∃ oI, h₂.get? I = some oI ∧ oI.cls ≠ .type "tuple" := ⟨_, hst₂, by show Value.type "range_iterator" ≠ Value.type "tuple"; decide⟩
      have N₃ : News h₀ env.locals h₂ ((I, oI) :: news') := fun p hp => by
        rcases List.mem_cons.mp hp with rfl | hp
        · exact ⟨hoI, Ne.symm hLI, hI0⟩
        · exact N₂ p hp
      refine wpAny_pos (s := ⟨h₂, s.gens, s.drawn, tk₁ + 1, s.os⟩) (Nat.succ_pos _) (wpAny_mono (step i t m' news' h₂ (tk₁ + 1) I oI hlt hJ (Nat.succ_pos _) F₂ N₃ off' hcl) (fun f s₃ h₃ hp₃ => ?_) fun _ _ e => e.elim)
      have fin : (∃ h' tk m' news', s₃ = { s with heap := h', toks := tk } ∧ Fr h₀ env.locals h' m' ∧ News h₀ env.locals h' ((I, oI) :: news') ∧ (∀ p ∈ news', p.1 ≠ I) ∧ J (i + 1) m' news') →
          ∃ k, k < n + 1 - i ∧ ∃ (h' : Heap) (tk : Nat) (m' : Str → Option Value) (news' : Led) (j : Nat), s₃ = { s with heap := h', toks := tk } ∧ 0 < tk ∧ IsRangeIter h' I (a₀ + (j : Nat) * c₀) ((n : Int) - (j : Nat)) c₀ ∧ Fr h₀ env.locals h' m' ∧ News h₀ env.locals h' news' ∧ (∀ p ∈ news', p.1 ≠ I) ∧ J j m' news' ∧ j ≤ n ∧ k = n + 1 - j := by
        rintro ⟨h₄, tk₄, m₄, news₄, rfl, F₄, N₄, off₄, hJ₄⟩
        have e1 : oI = _ := Option.some.inj (hoI.symm.trans hst₂)
        exact ⟨n + 1 - (i + 1), subTurn hlt, h₄, tk₄, m₄, news₄, i + 1, rfl, hp₃, (N₄ _ List.mem_cons_self).1.trans (congrArg some e1), F₄, fun p hp => N₄ p (List.mem_cons_of_mem _ hp), off₄, hJ₄, hlt, rfl⟩
      cases f with
      | ret v => exact h₃.elim
      | brk => exact h₃.elim
      | next => exact fin h₃
      | cont => exact fin h₃
    · have hin : i = n := by omega
      subst hin
      refine wpAny_pos hp' (W.done _ _ _ hst' fun h₁ tk₁ hk₁ hp₁ => wpAny_execs_nil ?_)
      exact done m' news' h₁ tk₁ hJ hp₁ (LCg.fr_but F' hk₁ hLI hI0) (LCg.news_but N' hk₁ off')
  · show IsRangeIter _ _ _ _ _
    rw [hn]; subst hI; simpa using Heap.get?_push_size _ rfl
end

section
variable {w : World} {nw led NL : Led} {T : TA} {as qs : List Addr} {nl : Addr} {rs : List NR} {nds : List Nd} {ch : List Addr}
noncomputable def KeepT (ch : List Addr) (news news' : Led) : Prop := ∀ p ∈ news, (p.1 ∉ ch ∨ ∃ vs n, p.2 = TO vs n) → p ∈ news'
theorem Keep.t {ch : List Addr} {a b : Led} (K : Keep ch a b) : KeepT ch a b := fun p hp hc => K p hp (hc.imp id fun ⟨_, _, e⟩ => by rw [e])
theorem KeepT.wide {ch ch' : List Addr} {a b : Led} (h : KeepT ch a b) (hs : ∀ x ∈ ch, x ∈ ch') : KeepT ch' a b := fun p hp hc => h p hp (hc.imp (fun h x => h (hs _ x)) id)
theorem KeepT.trans {ch : List Addr} {a b c : Led} (h : KeepT ch a b) (k : KeepT ch b c) : KeepT ch a c := fun p hp hc => k p (h p hp hc) hc
theorem KeepT.pairs {ch : List Addr} {a b : Led} (K : KeepT ch a b) {vs : List Value} {ps : List (Str × Str)} (h : All2 (PairAt a) vs ps) : All2 (PairAt b) vs ps := h.imp fun _ _ ⟨q, t₁, t₂, c, e, h⟩ => ⟨q, t₁, t₂, c, e, K _ h (.inr ⟨_, _, rfl⟩)⟩
theorem St.keep (S : St w nw T as qs nl rs nds) (K : KeepT ch nw led) (h1 : ∀ x ∈ treeAddrs T as qs, x ∉ ch) (h2 : ∀ x ∈ noteAddrs nl rs, x ∉ ch) : St w led T as qs nl rs nds := by
  have k : ∀ x ∈ treeAddrs T as qs, ∀ o, (x, o) ∈ nw → (x, o) ∈ led := fun x hx o h => K _ h (.inl (h1 x hx))
  have k2 : ∀ x ∈ noteAddrs nl rs, ∀ o, (x, o) ∈ nw → (x, o) ∈ led := fun x hx o h => K _ h (.inl (h2 x hx))
  have hl : ∀ x ∈ T.lists, x ∈ treeAddrs T as qs := fun x hx => lists_sub hx
  have ha : ∀ x ∈ as, x ∈ treeAddrs T as qs := fun x hx => by unfold treeAddrs; simp [hx]
  have hq : ∀ x ∈ qs, x ∈ treeAddrs T as qs := fun x hx => by unfold treeAddrs; simp [hx]
  obtain ⟨R, C, N, sep, nd⟩ := S
  refine ⟨{
    inst := k _ (by unfold treeAddrs; simp) _ R.inst
    dict := k _ (by unfold treeAddrs; simp) _ R.dict
    kinds := let ⟨vs, n, h, r⟩ := R.kinds; ⟨vs, n, k _ (hl _ (by unfold TA.lists; simp)) _ h, r⟩
    spaces := let ⟨vs, n, h, r⟩ := R.spaces; ⟨vs, n, k _ (hl _ (by unfold TA.lists; simp)) _ h, r⟩
    names := let ⟨vs, n, h, r⟩ := R.names; ⟨vs, n, k _ (hl _ (by unfold TA.lists; simp)) _ h, r⟩
    texts := let ⟨vs, n, h, r⟩ := R.texts; ⟨vs, n, k _ (hl _ (by unfold TA.lists; simp)) _ h, r⟩
    parents := let ⟨vs, n, h, r⟩ := R.parents; ⟨vs, n, k _ (hl _ (by unfold TA.lists; simp)) _ h, r⟩
    attrs := let ⟨n, h⟩ := R.attrs; ⟨n, k _ (hl _ (by unfold TA.lists; simp)) _ h⟩
    alen := R.alen
    attr := fun i d a e1 e2 e3 => let ⟨vs, n, h, r⟩ := R.attr i d a e1 e2 e3; ⟨vs, n, k _ (ha a (List.mem_of_getElem? e2)) _ h, K.pairs r⟩
    kids := let ⟨n, h⟩ := R.kids; ⟨n, k _ (hl _ (by unfold TA.lists; simp)) _ h⟩
    klen := R.klen
    kid := fun i d q e1 e2 => let ⟨vs, n, h, r⟩ := R.kid i d q e1 e2; ⟨vs, n, k _ (hq q (List.mem_of_getElem? e2)) _ h, r⟩
    lo := R.lo
    room := R.room
    has := fun x hx => let ⟨o, h, e⟩ := R.has x hx; ⟨o, k x hx o h, e⟩
    nd := R.nd }, let ⟨o, kvs, c1, c2, c3, c4⟩ := C; ⟨o, kvs, k _ (by unfold treeAddrs; simp) _ c1, c2, c3, c4⟩, {
    list := let ⟨n, h⟩ := N.list; ⟨n, k2 _ (List.mem_cons_self ..) _ h⟩
    len := N.len
    note := fun i d r e1 e2 => by
      have old := N.note i d r e1 e2
      obtain ⟨n, t1, t2, t3, t4, t5, h⟩ := old.row
      obtain ⟨vs, n1, g1, g2⟩ := old.attrs
      obtain ⟨vk, n2, g3, g4⟩ := old.kids
      exact ⟨⟨n, t1, t2, t3, t4, t5, k2 _ (note_a e2) _ h⟩, ⟨vs, n1, K _ g1 (.inr ⟨_, _, rfl⟩), K.pairs g2⟩, ⟨vk, n2, k2 _ (note_u e2) _ g3, g4⟩⟩
    room := N.room }, sep, nd⟩
theorem keep_ne' {D : Addr} {o : Obj} {X : Led} {p : Addr × Obj} (hF : ∀ x, (D, x) ∈ X → o = x) (ho : ∀ vs n, o ≠ TO vs n) (hp : p ∈ X) (hc : p.1 ∉ [D] ∨ ∃ vs n, p.2 = TO vs n) : p.1 ≠ D := fun e => by
  obtain ⟨x, y⟩ := p
  have e : x = D := e
  subst e
  rcases hc with hc | ⟨vs, n, hc⟩
  · exact hc (List.mem_singleton.mpr rfl)
  · exact ho vs n ((hF _ hp).trans hc)
theorem keep_set {D : Addr} {o o' : Obj} {X : Led} (hF : ∀ x, (D, x) ∈ X → o = x) (ho : ∀ vs n, o ≠ TO vs n) : KeepT [D] X (setL D o' X) := fun p hp hc => by
  have h := keep_ne' hF ho hp hc
  obtain ⟨x, y⟩ := p
  exact setL_ne h hp
theorem keep_drop {I : Addr} {oI : Obj} {X : Led} (hF : ∀ x, (I, x) ∈ X → oI = x) (ho : ∀ vs n, oI ≠ TO vs n) : KeepT [I] X (X.filter fun p => p.1 != I) := fun p hp hc => by
  have h := keep_ne' hF ho hp hc
  exact List.mem_filter.mpr ⟨hp, bne_iff_ne.mpr h⟩
theorem cell_ne {o : Obj} {v : Option Value} (h : o.data = .cell v) : ∀ vs n, o ≠ TO vs n := fun vs n e => by rw [e] at h; cases h
theorem list_ne {vs' : List Value} {k : Nat} : ∀ vs n, LO vs' k ≠ TO vs n := fun vs n e => by
  have : (LO vs' k).cls = (TO vs n).cls := by rw [e]
  exact absurd this (by show Value.type "list" ≠ Value.type "tuple"; decide)
theorem cls_ne {o : Obj} (h : o.cls ≠ .type "tuple") : ∀ vs n, o ≠ TO vs n := fun vs n e => h (by rw [e])
noncomputable def docLed (nl n0 u0 t0 : Addr) (k1 k2 k3 k4 k5 : Tok) (NL : Led) : Led := (nl, LO [.ref n0] 0) :: (n0, LO [.str "document" k1, .str "" k2, .str "" k3, .ref t0, .str "" k4, .ref u0, .int (-1) k5] 0) :: (u0, LO [] 0) :: (t0, TO [] 0) :: NL
theorem doc_st {n0 u0 t0 : Addr} {k1 k2 k3 k4 k5 : Tok} (h0 : ∀ p ∈ NL, @LT.lt Nat _ p.1 t0) (h1 : @LT.lt Nat _ t0 u0) (h2 : @LT.lt Nat _ u0 n0) (h3 : @LT.lt Nat _ n0 nl) (R : TreeC w NL T as qs [docNd]) (C : ContAt w NL T [docNd]) :
    St w (docLed nl n0 u0 t0 k1 k2 k3 k4 k5 NL) T as qs nl [⟨n0, t0, u0⟩] [docNd] := by
  have sub : Sub NL (docLed nl n0 u0 t0 k1 k2 k3 k4 k5 NL) := fun p hp => by unfold docLed; simp [hp]
  exact {
    R := R.sub sub
    C := C.sub sub
    N := {
      list := ⟨0, by unfold docLed; simp⟩
      len := rfl
      note := fun i d r e1 e2 => by
        match i, e1, e2 with
        | 0, e1, e2 =>
          have e1 : docNd = d := by simpa using e1
          have e2 : (⟨n0, t0, u0⟩ : NR) = r := by simpa using e2
          subst e1; subst e2
          exact ⟨⟨0, k1, k2, k3, k4, k5, by unfold docLed docNd; simp⟩, ⟨[], 0, by unfold docLed; simp, .nil⟩, ⟨[], 0, by unfold docLed; simp, .nil⟩⟩
        | (i + 1), e1, _ => simp at e1
      room := by simp }
    sep := fun z hz hc => by
      obtain ⟨o, h, _⟩ := R.has z hz
      have h9 := h0 _ h
      unfold noteAddrs at hc
      simp only [List.map_cons, List.map_nil, List.cons_append, List.nil_append, List.mem_cons, List.not_mem_nil, or_false] at hc
      rcases hc with rfl | rfl | rfl
      · exact Nat.lt_irrefl _ (Nat.lt_trans h9 (Nat.lt_trans h1 (Nat.lt_trans h2 h3)))
      · exact Nat.lt_irrefl _ (Nat.lt_trans h9 (Nat.lt_trans h1 h2))
      · exact Nat.lt_irrefl _ (Nat.lt_trans h9 h1)
    nd := by
      unfold noteAddrs
      simp only [List.map_cons, List.map_nil, List.cons_append, List.nil_append, List.nodup_cons, List.mem_cons, List.not_mem_nil, or_false, not_or, not_false_eq_true, List.nodup_nil, and_true]
      exact ⟨⟨Nat.ne_of_gt h3, Nat.ne_of_gt (Nat.lt_trans h2 h3)⟩, Nat.ne_of_gt h2⟩ }
end
section
variable {M : Model} {A : Around} {E : Value → Shared → Prop} {gh : Heap} {gn : Array GenState} {dr : Drawn} {tk0 : Nat} {os : OsState} {h₀ : Heap} {L a : Addr} {m : Str → Option Value} {cn : Str} {cs : Scope} {ccd : Value} {cl : List (Str × Addr)}
  {x : Str} {v : Value} {Q : Unit → Shared → Prop} {news : Led} {c : Addr} {o : Obj} {v₀ : Option Value}
theorem storeCL (F : Fr h₀ L gh m) (N : News h₀ L gh news) (hc : cl.lookup x = some c) (hm : (c, o) ∈ news) (hd : o.data = .cell v₀)
    (h : ∀ h' o', Fr h₀ L h' m → News h₀ L h' (setL c o' news) → o'.data = .cell (some v) → Q () ⟨h', gn, dr, tk0, os⟩)
    (hk : cs.kind = .function := by rfl) (hx : (envX cn cs L a ccd cl).kindOf x = some .cell := by rfl) : wpAny M A (storeName (envX cn cs L a ccd cl) x v) Q E ⟨gh, gn, dr, tk0, os⟩ := by
  have hmem := N _ hm
  refine wpAny_storeName_cell hk hx hc ⟨o, hmem.1, hd⟩ fun h' hv hs => ?_
  obtain ⟨o', ho', hd'⟩ := hv
  refine h h' o' ⟨F.ns.sameBut hs (Ne.symm hmem.2.1), fun b ob e => (hs.2 b (fun q => ?_)).trans (F.keep b ob e), F.above⟩ (news_setL N hm hs ho') hd'
  rw [q, hmem.2.2] at e; cases e
end

local macro_rules (kind := PyProof.Rows.tacticWalk_at_) | x => rule9 "storeName" "storeCL ?F ?N ?c ?m ?d ? ?a ?b" [("a", rfl9), ("b", rfl9), ("F", kasm9), ("N", kasm9), ("c", rfl9), ("m", kmem9), ("d", asm9)] [whole9, intro9 "h' o' F' N' d'", dsimp9] x

noncomputable def LOff (T : TA) (as qs : List Addr) (nl : Addr) (rs : List NR) (x : Addr) : Prop := x ∉ treeAddrs T as qs ∧ x ∉ noteAddrs nl rs
structure LawS (w : World) (nw : Led) (T : TA) (as qs : List Addr) (nl : Addr) (rs : List NR) (nds : List Nd) (D cs cd da : Addr) (ys : List Value) (c1 c2 : Obj) (v1 : Option Value) (vd : List Value) (nd : Nat) (ds : List Int) (k : Nat) : Prop where
  S : St w nw T as qs nl rs nds
  I : Inv nds k
  hD : (D, LO ys ys.length) ∈ nw
  h1 : (cs, c1) ∈ nw
  d1 : c1.data = .cell v1
  h2 : (cd, c2) ∈ nw
  d2 : c2.data = .cell (some (.ref da))
  ha : (da, LO vd nd) ∈ nw
  hds : All2 IsInt vd ds
  dl : ds.length = nds.length
  d0 : ds[0]? = some 0
  oD : LOff T as qs nl rs D
  o1 : LOff T as qs nl rs cs
  o2 : LOff T as qs nl rs cd
  oa : LOff T as qs nl rs da
  n1 : (D : Addr) ≠ cs
  n2 : (D : Addr) ≠ cd
  n3 : (da : Addr) ≠ cs
  n4 : (da : Addr) ≠ cd
  n5 : (cs : Addr) ≠ cd
noncomputable def lawXs : List Str := [PySem.Str.ofString "k", PySem.Str.ofString "holds", PySem.Str.ofString "where", PySem.Str.ofString "node", PySem.Str.ofString "parent", PySem.Str.ofString "under", PySem.Str.ofString "place"]
structure LawJ (w : World) (T : TA) (nl D cs cd : Addr) (ys : List Value) (m0 : Str → Option Value) (k : Nat) (m' : Str → Option Value) (nw : Led) : Prop where
  ex : ∃ as qs rs nds da c1 c2 v1 vd nd ds, LawS w nw T as qs nl rs nds D cs cd da ys c1 c2 v1 vd nd ds k
  same : ∀ y, (lawXs.contains y) = false → m' y = m0 y
section
variable {w : World} {nw led NL : Led} {T : TA} {as qs : List Addr} {nl : Addr} {rs : List NR} {nds : List Nd} {D cs cd da : Addr} {ys : List Value} {c1 c2 : Obj} {v1 v2 : Option Value} {vd : List Value} {nd k : Nat} {ds : List Int}
theorem law_init {a0 q0 n0 u0 t0 : Addr} {c2' : Obj} {t k1 k2 k3 k4 k5 : Tok} (R : TreeC w NL T [a0] [q0] [docNd]) (C : ContAt w NL T [docNd]) (f : ∀ x ∈ treeAddrs T [a0] [q0], (@LT.lt Nat _ D x) ∧ (@LT.lt Nat _ cs x) ∧ (@LT.lt Nat _ cd x))
    (hD : (D, LO ys ys.length) ∈ NL) (h1 : (cs, c1) ∈ NL) (h2 : (cd, c2) ∈ NL) (d1 : c1.data = .cell v1) (d2 : c2.data = .cell v2) (d2' : c2'.data = .cell (some (.ref da)))
    (l0 : ∀ p ∈ NL, @LT.lt Nat _ p.1 t0) (l1 : @LT.lt Nat _ t0 u0) (l2 : @LT.lt Nat _ u0 n0) (l3 : @LT.lt Nat _ n0 nl) (l4 : @LT.lt Nat _ nl da) (e1 : @LT.lt Nat _ cs D) (e2 : @LT.lt Nat _ cd D) (e3 : @LT.lt Nat _ cd cs) (hF : ∀ x, (cd, x) ∈ (da, LO [.int 0 t] 0) :: docLed nl n0 u0 t0 k1 k2 k3 k4 k5 NL → c2 = x) :
    LawS w (setL cd c2' ((da, LO [.int 0 t] 0) :: docLed nl n0 u0 t0 k1 k2 k3 k4 k5 NL)) T [a0] [q0] nl [⟨n0, t0, u0⟩] [docNd] D cs cd da ys c1 c2' v1 [.int 0 t] 0 [0] 0 := by
  have S := doc_st (k1 := k1) (k2 := k2) (k3 := k3) (k4 := k4) (k5 := k5) l0 l1 l2 l3 R C
  have sub : ∀ p ∈ NL, p ∈ (da, LO [.int 0 t] 0) :: docLed nl n0 u0 t0 k1 k2 k3 k4 k5 NL := fun p hp => by unfold docLed; simp [hp]
  have old : ∀ {x : Addr} {o : Obj}, (x, o) ∈ NL → x ∉ noteAddrs nl [⟨n0, t0, u0⟩] ∧ (@LT.lt Nat _ x da) := fun {x o} h => by
    have h9 : @LT.lt Nat _ x t0 := l0 _ h
    have hn0 := Nat.lt_trans h9 (Nat.lt_trans l1 l2)
    have hnl := Nat.lt_trans hn0 l3
    refine ⟨fun hc => ?_, Nat.lt_trans hnl l4⟩
    unfold noteAddrs at hc
    simp only [List.map_cons, List.map_nil, List.cons_append, List.nil_append, List.mem_cons, List.not_mem_nil, or_false] at hc
    rcases hc with rfl | rfl | rfl
    · exact Nat.lt_irrefl _ hnl
    · exact Nat.lt_irrefl _ hn0
    · exact Nat.lt_irrefl _ (Nat.lt_trans h9 l1)
  have o2 : LOff T [a0] [q0] nl [⟨n0, t0, u0⟩] cd := ⟨fun h => Nat.lt_irrefl _ (f _ h).2.2, (old h2).1⟩
  have ne : ∀ {x : Addr} {o : Obj}, (x, o) ∈ NL → x ≠ cd → (x, o) ∈ setL cd c2' ((da, LO [.int 0 t] 0) :: docLed nl n0 u0 t0 k1 k2 k3 k4 k5 NL) := fun h e => setL_ne e (sub _ h)
  exact {
    S := (S.sub (Sub.cons Sub.refl)).keep (keep_set hF (cell_ne d2)) (fun x hx hc => o2.1 (List.mem_singleton.mp hc ▸ hx)) (fun x hx hc => o2.2 (List.mem_singleton.mp hc ▸ hx))
    I := inv_doc
    hD := ne hD (Nat.ne_of_gt e2)
    h1 := ne h1 (Nat.ne_of_gt e3)
    d1 := d1
    h2 := setL_self (sub _ h2)
    d2 := d2'
    ha := setL_ne (Nat.ne_of_gt (old h2).2) (List.mem_cons_self ..)
    hds := .cons ⟨t, rfl⟩ .nil
    dl := rfl
    d0 := rfl
    oD := ⟨fun h => Nat.lt_irrefl _ (f _ h).1, (old hD).1⟩
    o1 := ⟨fun h => Nat.lt_irrefl _ (f _ h).2.1, (old h1).1⟩
    o2 := o2
    oa := ⟨fun h => by obtain ⟨o, h9, _⟩ := R.has _ h; exact Nat.lt_irrefl _ (old h9).2, fun hc => by
      unfold noteAddrs at hc
      simp only [List.map_cons, List.map_nil, List.cons_append, List.nil_append, List.mem_cons, List.not_mem_nil, or_false] at hc
      rcases hc with rfl | rfl | rfl
      · exact Nat.lt_irrefl _ l4
      · exact Nat.lt_irrefl _ (Nat.lt_trans l3 l4)
      · exact Nat.lt_irrefl _ (Nat.lt_trans l2 (Nat.lt_trans l3 l4))⟩
    n1 := Nat.ne_of_gt e1
    n2 := Nat.ne_of_gt e2
    n3 := Nat.ne_of_gt (old h1).2
    n4 := Nat.ne_of_gt (old h2).2
    n5 := Nat.ne_of_gt e3 }
/-- a store into the sorts' cell -/
theorem LawS.sorts {c1' : Obj} {v1' : Option Value} (H : LawS w nw T as qs nl rs nds D cs cd da ys c1 c2 v1 vd nd ds k) (K : KeepT [cs] nw led) (h1 : (cs, c1') ∈ led) (d1 : c1'.data = .cell v1') : LawS w led T as qs nl rs nds D cs cd da ys c1' c2 v1' vd nd ds k := by
  have k : ∀ {x : Addr} {o : Obj}, x ≠ cs → (x, o) ∈ nw → (x, o) ∈ led := fun e h => K _ h (.inl (by simp only [List.mem_singleton]; exact e))
  exact { H with
    S := H.S.keep K (fun x hx hc => H.o1.1 (List.mem_singleton.mp hc ▸ hx)) (fun x hx hc => H.o1.2 (List.mem_singleton.mp hc ▸ hx))
    hD := k H.n1 H.hD
    h1 := h1
    d1 := d1
    h2 := k H.n5.symm H.h2
    ha := k H.n3 H.ha }
end
section
variable {h₀ h : Heap} {L I c : Addr} {oI o' : Obj} {nw : Led} {p0 : Addr × Obj}
theorem pull1 (N : News h₀ L h (setL c o' (p0 :: (I, oI) :: nw))) (hI : I ≠ c) : News h₀ L h ((I, oI) :: setL c o' (p0 :: nw)) := news_sub N fun p hp => by
  rcases List.mem_cons.mp hp with rfl | hp
  · exact setL_ne hI (by simp)
  · exact sub_setL (fun q hq => by
      rcases List.mem_cons.mp hq with h | hq
      · rw [h]; exact List.mem_cons_self ..
      · exact List.mem_cons_of_mem _ (List.mem_cons_of_mem _ hq)) p hp
end
noncomputable def HoldsJ (j : Nat) (ys : List Value) : Prop := ∃ hs : List Nat, All2 IsNat ys hs ∧ hs.length ≤ j ∧ (∀ h ∈ hs, h < j) ∧ (0 < j → hs ≠ [])
theorem holds_add {j : Nat} {ys : List Value} {t : Tok} (h : HoldsJ j ys) : HoldsJ (j + 1) (ys ++ [.int (j : Int) t]) := by
  obtain ⟨hs, h1, h2, h3, _⟩ := h
  refine ⟨hs ++ [j], h1.snoc ⟨t, rfl⟩, by rw [List.length_append]; exact Nat.succ_le_succ h2, fun x hx => ?_, fun _ => by simp⟩
  rcases List.mem_append.mp hx with hx | hx
  · exact Nat.lt_succ_of_lt (h3 x hx)
  · rw [List.mem_singleton.mp hx]; exact Nat.lt_succ_self _
theorem holds_skip {j : Nat} {ys : List Value} (h : HoldsJ j ys) (h0 : j ≠ 0) : HoldsJ (j + 1) ys := by
  obtain ⟨hs, h1, h2, h3, h4⟩ := h
  exact ⟨hs, h1, Nat.le_succ_of_le h2, fun x hx => Nat.lt_succ_of_lt (h3 x hx), fun _ => h4 (Nat.pos_of_ne_zero h0)⟩
theorem hold_three {d : Nd} (h : isHold d = true) : ([PySem.Str.ofString "document", PySem.Str.ofString "element", PySem.Str.ofString "fragment"].any fun x => x == d.kind) = true := by
  unfold isHold at h
  simp only [List.any_cons, List.any_nil, Bool.or_false] at h ⊢
  rcases Bool.or_eq_true _ _ ▸ h with h | h <;> simp [h]
/-- the law's own lists and cells beside the two pictures -/
structure LawO (w : World) (nw : Led) (T : TA) (as qs : List Addr) (nl : Addr) (rs : List NR) (nds : List Nd) (D cs cd da : Addr) (ys : List Value) (c1 c2 : Obj) (v1 : Option Value) (vd : List Value) (nd : Nat) (I : Addr) (oI : Obj) : Prop where
  S : St w nw T as qs nl rs nds
  hD : (D, LO ys ys.length) ∈ nw
  h1 : (cs, c1) ∈ nw
  d1 : c1.data = .cell v1
  h2 : (cd, c2) ∈ nw
  d2 : c2.data = .cell (some (.ref da))
  ha : (da, LO vd nd) ∈ nw
  hI : (I, oI) ∈ nw
  oD : LOff T as qs nl rs D
  o1 : LOff T as qs nl rs cs
  o2 : LOff T as qs nl rs cd
  oa : LOff T as qs nl rs da
  oI : LOff T as qs nl rs I
  n1 : (D : Addr) ≠ cs
  n2 : (D : Addr) ≠ cd
  n3 : (da : Addr) ≠ cs
  n4 : (da : Addr) ≠ cd
  n5 : (cs : Addr) ≠ cd
  i1 : (D : Addr) ≠ I
  i2 : (cs : Addr) ≠ I
  i3 : (cd : Addr) ≠ I
  i4 : (da : Addr) ≠ I
section
variable {w : World} {nw led : Led} {T : TA} {as qs as' qs' : List Addr} {nl : Addr} {rs rs' : List NR} {nds nds' : List Nd} {D cs cd da I H x : Addr} {ys ys2 : List Value} {c1 c2 o oI oH : Obj} {v1 : Option Value} {vd : List Value} {nd k : Nat} {ds : List Int}
theorem LOff.of_ne (S : St w nw T as qs nl rs nds) (h : ∀ p ∈ nw, p.1 ≠ x) : LOff T as qs nl rs x :=
  ⟨fun hx => let ⟨_, h9, _⟩ := S.R.has x hx; h _ h9 rfl, fun hx => let ⟨_, h9, _⟩ := S.N.has x hx; h _ h9 rfl⟩
theorem LOff.ch (h : LOff T as qs nl rs x) : x ∉ nl :: T.ct :: T.lists := fun hc => by
  rcases List.mem_cons.mp hc with rfl | hc
  · exact h.2 (List.mem_cons_self ..)
  · rcases List.mem_cons.mp hc with rfl | hc
    · exact h.1 (by unfold treeAddrs; simp)
    · exact h.1 (lists_sub hc)
theorem LOff.ch2 (h : LOff T as qs nl rs x) : x ∉ T.p :: qs := fun hc => by
  rcases List.mem_cons.mp hc with rfl | hc
  · exact h.1 (lists_sub (by unfold TA.lists; simp))
  · exact h.1 (by unfold treeAddrs; simp [hc])
theorem LOff.new (h : LOff T as qs nl rs x) (hx : (x, o) ∈ nw) (h1 : ∀ z ∈ as' ++ qs', ∀ p ∈ nw, @LT.lt Nat _ p.1 z) (h2 : ∀ z ∈ rs'.map NR.a ++ rs'.map NR.u, ∀ p ∈ nw, @LT.lt Nat _ p.1 z) : LOff T (as ++ as') (qs ++ qs') nl (rs ++ rs') x :=
  ⟨fun hc => (treeAddrs_new.mp hc).elim h.1 fun hc => Nat.lt_irrefl _ (h1 _ hc _ hx), fun hc => (noteAddrs_new.mp hc).elim h.2 fun hc => Nat.lt_irrefl _ (h2 _ hc _ hx)⟩
theorem LawS.made (A : LawS w nw T as qs nl rs nds D cs cd da ys c1 c2 v1 vd nd ds k) (off : ∀ p ∈ nw, p.1 ≠ I) (hlt : ∀ p ∈ ((I, oI) :: nw : Led), @LT.lt Nat _ p.1 H)
    (S : St w led T (as ++ as') (qs ++ qs') nl (rs ++ rs') nds') (K : Keep (nl :: T.ct :: T.lists) ((H, LO ys2 ys2.length) :: (I, oI) :: nw) led) (h1 : ∀ z ∈ as' ++ qs', ∀ p ∈ ((H, LO ys2 ys2.length) :: (I, oI) :: nw : Led), @LT.lt Nat _ p.1 z) (h2 : ∀ z ∈ rs'.map NR.a ++ rs'.map NR.u, ∀ p ∈ ((H, LO ys2 ys2.length) :: (I, oI) :: nw : Led), @LT.lt Nat _ p.1 z) :
    LawO w led T (as ++ as') (qs ++ qs') nl (rs ++ rs') nds' D cs cd da ys c1 c2 v1 vd nd I oI ∧ (H, LO ys2 ys2.length) ∈ led := by
  have k : ∀ {x : Addr} {o : Obj}, LOff T as qs nl rs x → (x, o) ∈ nw → (x, o) ∈ led := fun a h => K _ (List.mem_cons_of_mem _ (List.mem_cons_of_mem _ h)) (.inl a.ch)
  have n : ∀ {x : Addr} {o : Obj}, LOff T as qs nl rs x → (x, o) ∈ nw → LOff T (as ++ as') (qs ++ qs') nl (rs ++ rs') x := fun a h => a.new (List.mem_cons_of_mem _ (List.mem_cons_of_mem _ h)) h1 h2
  have fI := LOff.of_ne A.S off
  have fH := LOff.of_ne A.S fun p hp => Nat.ne_of_lt (hlt p (List.mem_cons_of_mem _ hp))
  exact ⟨{
    S := S
    hD := k A.oD A.hD
    h1 := k A.o1 A.h1
    d1 := A.d1
    h2 := k A.o2 A.h2
    d2 := A.d2
    ha := k A.oa A.ha
    hI := K _ (List.mem_cons_of_mem _ (List.mem_cons_self ..)) (.inl fI.ch)
    oD := n A.oD A.hD
    o1 := n A.o1 A.h1
    o2 := n A.o2 A.h2
    oa := n A.oa A.ha
    oI := fI.new (List.mem_cons_of_mem _ (List.mem_cons_self ..)) h1 h2
    n1 := A.n1
    n2 := A.n2
    n3 := A.n3
    n4 := A.n4
    n5 := A.n5
    i1 := off _ A.hD
    i2 := off _ A.h1
    i3 := off _ A.h2
    i4 := off _ A.ha }, K _ (List.mem_cons_self ..) (.inl fH.ch)⟩
end
theorem made_count {nds : List Nd} {d : Nd} {a b : Nat} (ha : a = (nds ++ elNds d).length) (hb : b = nds.length) : ∃ kk : Nat, ((a : Int) - (b : Int)) = (kk : Int) ∧ nds.length + kk = (nds ++ elNds d).length ∧ kk ≤ 2 := by
  obtain ⟨h1, h2, _⟩ := el_len (nds := nds) (d := d)
  subst ha; subst hb
  exact made3 h1 h2
section
variable {prog : Program} {w : World} {A : Around} {E : Value → Shared → Prop} {gh : Heap} {gn : Array GenState} {dr : Drawn} {tk0 : Nat} {os : OsState} {h₀ : Heap} {L : Addr} {m : Str → Option Value} {news : Led} {n : Nat}
theorem mulS2 {l : Addr} {v : Value} {k : Nat} {a : Int} {u : Tok} {Q : Value → Shared → Prop} (ha : a = (k : Int)) (F : Fr h₀ L gh m) (N : News h₀ L gh news) (hm : (l, LO [v] n) ∈ news) (hk : k ≤ 1000000)
    (h : ∀ D h', Fr h₀ L h' m → News h₀ L h' ((D, LO (List.replicate k v) 0) :: news) → (∀ p ∈ news, @LT.lt Nat _ p.1 D) → Q (.ref D) ⟨h', gn, dr, tk0, os⟩) :
    wpAny (model prog w) A (binaryOp .Mult (.ref l) (.int a u)) Q E ⟨gh, gn, dr, tk0, os⟩ := by
  subst ha; exact mulS F N hm hk h
end
section
variable {w : World} {nw led : Led} {T : TA} {as qs : List Addr} {nl : Addr} {rs : List NR} {nds : List Nd} {D cs cd da da' I : Addr} {ys : List Value} {c1 c2 c2' oI : Obj} {v1 : Option Value} {vd vd' : List Value} {nd : Nat}
/-- a new list of depths, stored into its cell -/
theorem LawO.depths (O : LawO w nw T as qs nl rs nds D cs cd da ys c1 c2 v1 vd nd I oI) (hF : ∀ x, (cd, x) ∈ nw → c2 = x) (hlt : ∀ p ∈ nw, @LT.lt Nat _ p.1 da') (d2 : c2'.data = .cell (some (.ref da'))) :
    LawO w (setL cd c2' ((da', LO vd' 0) :: nw)) T as qs nl rs nds D cs cd da' ys c1 c2' v1 vd' 0 I oI := by
  have K : KeepT [cd] nw (setL cd c2' ((da', LO vd' 0) :: nw)) := fun p hp hc => setL_ne (keep_ne' hF (cell_ne O.d2) hp hc) (List.mem_cons_of_mem _ hp)
  have k : ∀ {x : Addr} {o : Obj}, x ≠ cd → (x, o) ∈ nw → (x, o) ∈ setL cd c2' ((da', LO vd' 0) :: nw) := fun e h => setL_ne e (List.mem_cons_of_mem _ h)
  exact { O with
    S := O.S.keep K (fun x hx hc => O.o2.1 (List.mem_singleton.mp hc ▸ hx)) (fun x hx hc => O.o2.2 (List.mem_singleton.mp hc ▸ hx))
    hD := k O.n2 O.hD
    h1 := k O.n5 O.h1
    h2 := setL_self (List.mem_cons_of_mem _ O.h2)
    d2 := d2
    ha := setL_ne (Nat.ne_of_gt (hlt _ O.h2)) (List.mem_cons_self ..)
    hI := k O.i3.symm O.hI
    oa := LOff.of_ne O.S fun p hp => Nat.ne_of_lt (hlt p hp)
    n3 := Nat.ne_of_gt (hlt _ O.h1)
    n4 := Nat.ne_of_gt (hlt _ O.h2)
    i4 := Nat.ne_of_gt (hlt _ O.hI) }
end

theorem pup_made {nds : List Nd} {d : Nd} (h : PUp nds) (hd : d.parent = -1) : PUp (nds ++ elNds d) := fun i e he => by
  rcases el_cases he with h9 | ⟨_, rfl⟩ | ⟨_, rfl, _⟩
  · exact h i e h9
  · exact .inl hd
  · exact .inl rfl
section
variable {w : World} {nw NL led : Led} {T : TA} {as qs : List Addr} {nl : Addr} {rs : List NR} {nds : List Nd} {D cs cd da I lu : Addr} {ys vq : List Value} {c1 c2 oI : Obj} {v1 : Option Value} {vd : List Value} {nd k p j nq : Nat} {d ep : Nd} {rp rn : NR} {ds : List Int}
theorem law_turn (O : LawO w nw T as qs nl rs (nds ++ elNds d) D cs cd da ys c1 c2 v1 vd nd I oI) (Iv : Inv nds k) (hd : NewNd d) (hep : nds[p]? = some ep)
    (R : TreeC w NL T as qs (insNds (nds ++ elNds d) p j nds.length ep d)) (C : ContAt w NL T (insNds (nds ++ elNds d) p j nds.length ep d)) (KI : Keep (T.p :: qs) ((lu, LO vq nq) :: nw) NL) (KE : Keep [rp.u, rn.a] NL led) (hrp : rs[p]? = some rp) (hrn : rs[nds.length]? = some rn)
    {vs : List Value} {n nr : Nat} {t1 t2 t3 t4 t5 : Tok} (hu : (rp.u, LO vs n) ∈ led) (hvs : All2 IsNat vs (insNat ep.under j nds.length)) (hrow : (rn.a, LO [.str d.kind t1, .str d.space t2, .str d.name t3, .ref rn.at', .str d.text t4, .ref rn.u, .int (p : Int) t5] nr) ∈ led)
    (hF : ∀ x, (I, x) ∈ led → oI = x) (hcls : oI.cls ≠ .type "tuple") (hds : All2 IsInt vd ds) (dl : ds.length = (nds ++ elNds d).length) (d0 : ds[0]? = some 0) :
    LawS w (led.filter fun p => p.1 != I) T as qs nl rs (insNds (nds ++ elNds d) p j nds.length ep d) D cs cd da ys c1 c2 v1 vd nd ds (k + 1) := by
  have hpl := lt_of_get hep
  have K1 : Keep (T.p :: qs) nw NL := fun p hp hc => KI p (List.mem_cons_of_mem _ hp) hc
  have S := O.S.insert (el_old hep) el_new (Nat.ne_of_lt hpl) hrp hrn R C K1 KE hu hvs hrow
  have offI : ∀ {x : Addr}, (x ∈ treeAddrs T as qs ∨ x ∈ noteAddrs nl rs) → x ∉ [I] := fun h hc => by
    rw [List.mem_singleton.mp hc] at h
    exact h.elim O.oI.1 O.oI.2
  have k1 : ∀ {x : Addr} {o : Obj}, LOff T as qs nl rs x → x ≠ I → (x, o) ∈ nw → (x, o) ∈ led.filter fun p => p.1 != I := fun a e h => by
    refine List.mem_filter.mpr ⟨KE _ (K1 _ h (.inl a.ch2)) (.inl fun hc => ?_), bne_iff_ne.mpr e⟩
    simp only [List.mem_cons, List.not_mem_nil, or_false] at hc
    rcases hc with hc | hc
    · exact a.2 (hc ▸ note_u hrp)
    · exact a.2 (hc ▸ note_a hrn)
  exact {
    S := S.keep (keep_drop hF (cls_ne hcls)) (fun x hx => offI (.inl hx)) (fun x hx => offI (.inr hx))
    I := Iv.step hd hep
    hD := k1 O.oD O.i1 O.hD
    h1 := k1 O.o1 O.i2 O.h1
    d1 := O.d1
    h2 := k1 O.o2 O.i3 O.h2
    d2 := O.d2
    ha := k1 O.oa O.i4 O.ha
    hds := hds
    dl := by rw [ins_len]; exact dl
    d0 := d0
    oD := O.oD
    o1 := O.o1
    o2 := O.o2
    oa := O.oa
    n1 := O.n1
    n2 := O.n2
    n3 := O.n3
    n4 := O.n4
    n5 := O.n5 }
end
theorem depth_ints {vd : List Value} {ds : List Int} {k : Nat} {z : Int} {u : Tok} (h : All2 IsInt vd ds) : All2 IsInt (vd ++ List.replicate k (.int z u)) (ds ++ List.replicate k z) := by
  induction k with
  | zero => simpa using h
  | succ k ih =>
    rw [List.replicate_succ', List.replicate_succ', ← List.append_assoc, ← List.append_assoc]
    exact ih.snoc ⟨u, rfl⟩
theorem law_off {y : Str} (h : (lawXs.contains y) = false) : y ≠ "place" ∧ y ≠ "under" ∧ y ≠ "parent" ∧ y ≠ "node" ∧ y ≠ "where" ∧ y ≠ "holds" ∧ y ≠ "k" := by
  refine ⟨?_, ?_, ?_, ?_, ?_, ?_, ?_⟩ <;> (rintro rfl; revert h; decide)
section
variable {w : World} {loose : List Str} {mean : ExcName → Option Value} {mg mb : Str → Option Value} {dp un : Nat} {gd : Option (List Code)} {cn : Str} {cs : Scope} {a : Addr} {ccd : Value} {cl : List (Str × Addr)} {outer : List Env} {A₀ : Around} {base h₀ : Heap} {L : Addr} {m : Str → Option Value} {gh : Heap} {gn : Array GenState} {dr : Drawn} {tk0 : Nat} {os : OsState} {Q E : Value → Shared → Prop} {news : Led}
theorem insertV_spec {T : TA} {as qs : List Addr} {nds : List Nd} {p node j : Nat} {ep en : Nd} {t1 t2 : Tok} {tb : Tok} {bv : Int} (C : Cx w loose mean mg mb outer A₀ base h₀ cs) (F : Fr h₀ L gh m) (N : News h₀ L gh news) (hp : 0 < tk0) (hdp : dp + 4 < recursionLimit) (hun : un + 32 < cLine)
  (R : TreeC w news T as qs nds) (CA : ContAt w news T nds) (PU : PUp nds) (hp' : nds[p]? = some ep) (hn : nds[node]? = some en) (hpn : p < node) (hdn : en.parent = -1) (hnd : ep.under.Nodup) (hul : ep.under.length ≤ 1000) (hj : (bv = -1 ∧ j = ep.under.length) ∨ ∃ b : Nat, bv = (b : Int) ∧ ep.under[j]? = some b ∧ b ≠ node)
  (hret : ∀ (news' : Led) (h' : Heap) (tk' : Nat), 0 < tk' → Fr h₀ L h' m → News h₀ L h' news' → TreeC w news' T as qs (insNds nds p j node ep en) → ContAt w news' T (insNds nds p j node ep en) → Keep (T.p :: qs) news news' → Q .none ⟨h', gn, dr, tk', os⟩) :
  wpAny (model PySem.Challenge.rw_nz0091_01.row.prog w) (ktrTop dp un gd cn cs L a ccd cl outer) (call (.ref 198) [.ref T.t, .int (p : Int) t1, .int (node : Int) t2, .int bv tb]) Q E ⟨gh, gn, dr, tk0, os⟩ := by
  rcases hj with ⟨rfl, hj⟩ | ⟨b, rfl, hj, hbn⟩
  · exact insertN_spec C F N hp hdp hun R CA PU hp' hn hpn hdn hnd hul hj hret
  · exact insertB_spec C F N hp hdp hun R CA PU hp' hn hpn hdn hnd hul hj hbn hret
end
noncomputable def endXs : List Str := [PySem.Str.ofString "n", PySem.Str.ofString "way", PySem.Str.ofString "whole", PySem.Str.ofString "within"]
theorem end_off {y : Str} (h : (endXs.contains y) = false) : y ≠ "within" ∧ y ≠ "whole" ∧ y ≠ "way" ∧ y ≠ "n" := by
  refine ⟨?_, ?_, ?_, ?_⟩ <;> (rintro rfl; revert h; decide)
theorem whole_at {nds : List Nd} {fl : Bool} {i : Nat} {d : Nd} {vs : List Value} (h : All2 IsStr vs (toldL (wholeT nds fl) nds.length nds.length)) (hd : nds[i]? = some d) : ∃ t, vs[i]? = some (.str (outText nds fl i d) t) := by
  have hl := lt_of_get hd
  obtain ⟨v, hv, t, rfl⟩ := h.get (toldL_get (f := wholeT nds fl) (i := nds.length) hl (by omega))
  refine ⟨t, hv.trans ?_⟩
  unfold wholeT; rw [hd]
theorem with_at {nds : List Nd} {fl : Bool} {i : Nat} {d : Nd} {vs : List Value} (h : All2 IsStr vs (toldL (withT nds fl) nds.length nds.length)) (hd : nds[i]? = some d) : ∃ t, vs[i]? = some (.str (inText nds fl i d) t) := by
  have hl := lt_of_get hd
  obtain ⟨v, hv, t, rfl⟩ := h.get (toldL_get (f := withT nds fl) (i := nds.length) hl (by omega))
  refine ⟨t, hv.trans ?_⟩
  unfold withT; rw [hd]
/-- which of the two tellings a turn reads -/
theorem way_pick {led : Led} {lt tA tB waA wiA waB wiB : Addr} {vwA viA vwB viB : List Value} {nwA niA nwB niB : Nat} {nds : List Nd} (e : Int) (he : e.fmod 2 = 0 ∨ e.fmod 2 = 1)
    (hlt : (lt, LO [.ref tA, .ref tB] 0) ∈ led) (hA : (tA, TO [.ref waA, .ref wiA] 0) ∈ led) (hwA : (waA, LO vwA nwA) ∈ led) (hiA : (wiA, LO viA niA) ∈ led) (hB : (tB, TO [.ref waB, .ref wiB] 0) ∈ led) (hwB : (waB, LO vwB nwB) ∈ led) (hiB : (wiB, LO viB niB) ∈ led)
    (a1 : All2 IsStr vwA (toldL (wholeT nds false) nds.length nds.length)) (a2 : All2 IsStr viA (toldL (withT nds false) nds.length nds.length)) (b1 : All2 IsStr vwB (toldL (wholeT nds true) nds.length nds.length)) (b2 : All2 IsStr viB (toldL (withT nds true) nds.length nds.length)) :
    ∃ (tX waX wiX : Addr) (vw vi : List Value) (n1 n2 : Nat), ItemAt led lt (e.fmod 2) (.ref tX) ∧ (tX, TO [.ref waX, .ref wiX] 0) ∈ led ∧ (waX, LO vw n1) ∈ led ∧ (wiX, LO vi n2) ∈ led ∧ All2 IsStr vw (toldL (wholeT nds (e.fmod 2 == 1)) nds.length nds.length) ∧ All2 IsStr vi (toldL (withT nds (e.fmod 2 == 1)) nds.length nds.length) := by
  rcases he with h | h
  · rw [h]
    exact ⟨tA, waA, wiA, vwA, viA, nwA, niA, .of (i := 0) hlt rfl (by decide), hA, hwA, hiA, a1, a2⟩
  · rw [h]
    exact ⟨tB, waB, wiB, vwB, viB, nwB, niB, .of (i := 1) hlt rfl (by decide), hB, hwB, hiB, b1, b2⟩
theorem fmod_two (e : Int) : e.fmod 2 = 0 ∨ e.fmod 2 = 1 := by
  have h1 := Int.fmod_nonneg_of_pos e (b := 2) (by decide)
  have h2 := Int.fmod_lt_of_pos e (b := 2) (by decide)
  omega

section
variable {prog : Program} {w : World} {loose : List Str} {mean : ExcName → Option Value} {mg mb : Str → Option Value} {s : Shared} {K : Frag} {p : Program} {R : Result → Shared → Prop}
/-- the law's def is entered from the claim's caller -/
theorem enterLaw {name qual : Str} {params : Arguments} {body : List Stmt} {scope : Scope} {dV kV doc pm cdv ct oc : Value} {an od : Option Addr} {osl : Array (Option Value)} {f : Addr} {args : List Value} {kws : List (Str × Value)} {binds : List (Str × Value)}
    (X₀ : K.In s.heap) (T : Top p loose mean mg mb s.heap)
    (ho : K.lookup f = some ⟨oc, od, .func (fnOf name qual params body scope dV kV doc pm an cdv ct), osl⟩) (hcd : codeIn K cdv qual = true)
    (hbind : BindsTo s (fnOf name qual params body scope dV kV doc pm an cdv ct) ⟨args, kws⟩ binds) (hkind : (binds.all fun y => scope.names.lookup y.1 == some .local || scope.names.lookup y.1 == some .cell) = true)
    (hnd : ((cellsFrom 0 scope.names []).map (·.1)).Nodup)
    (h : ∀ (Q₁ : Flow → Shared → Prop) (dp un : Nat) (gd : Option (List Code)) (L' : Addr) (h₁ : Heap) (tk : Nat) (cells : Led), (∀ v s', R (.ok (.ret v)) s' → Q₁ (.ret v) s') → dp + 20 < recursionLimit → un + 160 < cLine → Fr s.heap L' h₁ (bindL (envOfC qual scope L' f cdv).kindOf binds fun _ => none) → News s.heap L' h₁ cells →
      CellsAre (bindC (envOfC qual scope L' f cdv).kindOf binds fun _ => none) (cellsFrom (L' + 1) scope.names []) cells →
      wpAny (model prog w) (ktrTop dp un gd qual scope L' f cdv (cellsFrom (L' + 1) scope.names []) []) (execs body (envOfC qual scope L' f cdv))
        Q₁ (fun _ _ => False)
        ⟨h₁, s.gens, s.drawn, tk, s.os⟩)
    (hco : scope.isCoroutine = false) (hgen : scope.isGenerator = false) (hk : scope.kind = .function) :
    codeAny (model prog w) callerA (.call (.ref f) ⟨args, kws⟩) R s := by
  refine codeAny_call_function (by decide) (X₀ _ _ ho) rfl hco hgen rfl (codeRec_of X₀ hcd) (hbind _ _ _ _ ?_)
  refine wpAny_newFunctionEnv_cells hk (kinds_of hkind _) fun env' he s' x => ?_
  subst he
  refine ⟨(T.nolimit).keeps x.toInCall.keep, codeAny_func ?_⟩
  obtain ⟨h₁, tk, rfl, _⟩ := x.done
  have hk₁ := x.toInCall.keep
  obtain ⟨cells, NC, Y⟩ := Cl.news (h₀ := s.heap) (Nat.le_refl _) fun n c hm => ⟨x.cell n c (lookup_of_mem_nodup (cellsFrom_names scope.names 0 (s.heap.objs.size + 1) [] [] rfl ▸ hnd) hm), x.above n c hm⟩
  exact wpAny_mono (h (fun fl s' => R (.ok (.ret (match fl with | .ret v => v | _ => .none))) s') (callerA.depth + 1) (callerA.units + 3) callerA.guards s.heap.objs.size h₁ tk cells (fun _ _ z => z) (by decide) (by decide) ⟨x.toInCall.ns, hk₁, Nat.le_refl _⟩ NC Y) (fun fl s' hl => hl) fun _ _ y => y.elim
end
section
variable {prog : Program} {w : World} {loose : List Str} {mean : ExcName → Option Value} {mg mb : Str → Option Value} {dp un : Nat} {gd : Option (List Code)} {cn : Str} {cs : Scope} {a : Addr} {ccd : Value} {cl : List (Str × Addr)} {outer : List Env} {A₀ : Around} {base h₀ : Heap} {L : Addr} {m : Str → Option Value} {s : Shared} {Q E : Value → Shared → Prop} {news : Led} {K : Frag} {p : Program}
/-- a def without parameters is entered, whatever the tokens -/
theorem enterP0 {name qual : Str} {params : Arguments} {body : List Stmt} {scope : Scope} {dV kV doc pm cdv ct oc : Value} {an od : Option Addr} {osl : Array (Option Value)} {f : Addr} {args : List Value} {kws : List (Str × Value)} {binds bs : List (Str × Value)}
    (B : Below A₀ base outer h₀) (F : Fr h₀ L s.heap m) (X₀ : K.In h₀) (N : News h₀ L s.heap news) (T : Top p loose mean mg mb h₀) (hke : cs.kind = .function) (hroom : dp < recursionLimit)
    (ho : K.lookup f = some ⟨oc, od, .func (fnOf name qual params body scope dV kV doc pm an cdv ct), osl⟩) (hcd : codeIn K cdv qual = true)
    (hbind : BindsTo s (fnOf name qual params body scope dV kV doc pm an cdv ct) ⟨args, kws⟩ binds) (hloc : ∀ y ∈ binds, scope.names.lookup y.1 = some .local) (hrev : binds.reverse = bs)
    (h : ∀ (g : Heap) (L' : Addr) (h₁ : Heap) (tk : Nat), Fr h₀ L g m → Fr g L' h₁ (fun y => bs.lookup y) → News g L' h₁ news → Below (ktrTop dp un gd cn cs L a ccd cl outer) base (envX cn cs L a ccd cl :: outer) g → K.In g → Top p loose mean mg mb g →
      wpAny (model prog w) (ktrTop (dp + 1) (un + 3) gd qual scope L' f cdv [] (envX cn cs L a ccd cl :: outer)) (execs body (envOf qual scope L' f cdv))
        (fun fl s' => LeaveK h₀ L m g (fun r s'' => match r with | .ok (.ret v) => Q v s'' | .ok _ => False | .error e => E e s'') (match fl with | .ret v => v | _ => .none) s') (fun _ _ => False)
        ⟨h₁, s.gens, s.drawn, tk, s.os⟩)
    (hco : scope.isCoroutine = false) (hgen : scope.isGenerator = false) (hk : scope.kind = .function) (hcell : ∀ x ∈ scope.names, x.2 ≠ .cell) :
    wpAny (model prog w) (ktrTop dp un gd cn cs L a ccd cl outer) (call (.ref f) args kws) Q E s := by
  refine wpAny_call ?_
  refine code_def B F X₀ N T rfl rfl hke ho hcd hroom hbind hloc (fun g L' h₁ FG F' N' B' X' T' => ?_) hco hgen hk hcell
  rw [hrev] at F'
  exact wpAny_mono (h g L' h₁ _ FG F' N' B' X' T') (fun _ _ y => y) (fun _ _ y => y.elim)
end
section
variable {w : World} {loose : List Str} {mean : ExcName → Option Value} {mg mb : Str → Option Value} {dp un : Nat} {gd : Option (List Code)} {cn : Str} {cs : Scope} {a : Addr} {ccd : Value} {cl : List (Str × Addr)} {outer : List Env} {A₀ : Around} {base h₀ : Heap} {L : Addr} {m : Str → Option Value} {gh : Heap} {gn : Array GenState} {dr : Drawn} {tk0 : Nat} {os : OsState} {Q E : Value → Shared → Prop} {news : Led}
theorem law_base_spec0 (C : Cx w loose mean mg mb outer A₀ base h₀ cs) (F : Fr h₀ L s.heap m) (N : News h₀ L s.heap news) (hdp : dp + 2 < recursionLimit) (hun : un + 16 < cLine)
  (hret : ∀ (a : Addr) (vs : List Value) (h' : Heap) (tk' : Nat), 0 < tk' → All2 IsNat vs lawBase → Fr h₀ L h' m → News h₀ L h' ((a, TO vs 0) :: news) → Q (.ref a) { s with heap := h', toks := tk' }) :
  wpAny (model PySem.Challenge.rw_nz0091_01.row.prog w) (ktrTop dp un gd cn cs L a ccd cl outer) (call (.ref 268) []) Q E s := by
  refine viaF fun hG9 => ?_
  obtain ⟨B, X, TT, hk⟩ := C
  refine hG9 ?_
  refine' enterP0 (binds := []) B F X N TT hk (by omega) ?ho ?hcd ?hb ?hl rfl ?_ ?c1 ?c2 ?c3 ?c4
  case ho => k_is
  case hcd => k_is
  case hb => first | exact BindsTo.of_eq rfl | exact binds_K (by k_in) rfl (by k_is) rfl rfl rfl
  case hl => exact locs rfl
  case c1 => rfl
  case c2 => rfl
  case c3 => rfl
  case c4 => decide
  intro g L₁ h₁ tk FG F₁ N₁ B₁ X₁ T₁
  k_steps
  rename Fr _ _ _ _ => F9
  rename News _ _ _ _ => N9
  refine hret _ _ _ _ (Nat.succ_pos _) ?_ F9 (news_head (r1 := [_, _, _, _]) N9)
  unfold lawBase
  repeat first | exact .nil | refine .cons ⟨_, rfl⟩ ?_
end

local macro_rules (kind := PyProof.Rows.tacticWalk_at_) | x => stopR9 268 x
local macro_rules (kind := PyProof.Rows.tacticWalk_at_) | x => stopR9 325 x
local macro_rules (kind := PyProof.Rows.tacticWalk_at_) | x => stopR9 318 x
local macro_rules (kind := PyProof.Rows.tacticWalk_at_) | x => stopR9 311 x
local macro_rules (kind := PyProof.Rows.tacticWalk_at_) | x => stopR9 97 x
local macro_rules (kind := PyProof.Rows.tacticWalk_at_) | x => stopR9 105 x

section
variable {prog : Program} {w : World} {A : Around} {E : Value → Shared → Prop} {gh : Heap} {gn : Array GenState} {dr : Drawn} {tk0 : Nat} {os : OsState} {h₀ : Heap} {L : Addr} {m : Str → Option Value} {news : Led}
theorem hit3 {nw : Led} {D : Addr} {ys : List Value} {n i : Nat} (hD : (D, LO ys n) ∈ nw) (hys : ∀ j : Nat, j < 48 → ∃ z t, ys[j]? = some (.int z t)) (hi : i < 15) :
    (∃ z t, ItemAt nw D (3 * (i : Int)) (.int z t)) ∧ (∃ z t, ItemAt nw D (3 * (i : Int) + 1) (.int z t)) ∧ (∃ z t, ItemAt nw D (3 * (i : Int) + 2) (.int z t)) := by
  have key : ∀ k : Nat, k < 3 → ∃ z t, ItemAt nw D (3 * (i : Int) + (k : Int)) (.int z t) := fun k hk => by
    obtain ⟨z, t, h9⟩ := hys (3 * i + k) (by omega)
    have h8 : ItemAt nw D ((3 * i + k : Nat) : Int) (.int z t) := .of hD h9 (by omega)
    exact ⟨z, t, by rwa [show ((3 * i + k : Nat) : Int) = 3 * (i : Int) + (k : Int) by omega] at h8⟩
  exact ⟨by simpa using key 0 (by decide), key 1 (by decide), key 2 (by decide)⟩
theorem old_list {l : Addr} {vs : List Value} {h : Heap} (F : Fr h₀ L h m) (hl : h₀.IsList l vs.toArray) : h.IsList l vs.toArray := let ⟨o, e, r⟩ := hl; ⟨o, F.keep _ _ e, r⟩
theorem itemOld {value slice : Expr} {l : Addr} {vs : List Value} {i : Nat} {u : Tok} {v : Value} {Q : Value → Shared → Prop} (F : Fr h₀ L gh m) (hl : h₀.IsList l vs.toArray) (hv : vs[i]? = some v) (hi : i < 2 ^ 62) (h : Q v ⟨gh, gn, dr, tk0, os⟩)
    (hs : subscripted slice false (.ref l) (.int (i : Int) u) = operate [.ref l, .int (i : Int) u] (getItem (.ref l) (.int (i : Int) u)) := by with_unfolding_all rfl) :
    wpAny (model prog w) A (subscriptTail value slice (.ref l) (.int (i : Int) u)) Q E ⟨gh, gn, dr, tk0, os⟩ :=
  tail_any (old_list F hl).typeIs slot_list_getitem.lookup (wpAny_getItem_list (old_list F hl) (by omega) (by omega) (by simpa using hv) h) hs
theorem lenOld {l : Addr} {vs : List Value} {Q : Value → Shared → Prop} (F : Fr h₀ L gh m) (hl : h₀.IsList l vs.toArray) (hsz : vs.length ≤ 1000000) (h : Q (.int (vs.length : Int) (tk0 + 1)) ⟨gh, gn, dr, tk0 + 1 + 1, os⟩) :
    wpAny (model prog w) A (call (.builtin "len") [.ref l]) Q E ⟨gh, gn, dr, tk0, os⟩ :=
  len_list (old_list F hl) (by rw [List.size_toArray]; omega) (by simpa using h)
end
section
local macro_rules (kind := PyProof.Rows.tacticWalk_at_) | x => on9 "call builtin:len" x (seq9 [here9, show9 "wpAny _ _ ( call ( Value.builtin _ ) ( List.cons ( Value.ref _ ) List.nil ) ) _ _ _", dflt9 (seq9 [refine9 "lenOld ?F ?m ?z ?", case9 "F" kasm9, case9 "m" asm9, case9 "z" le9, whole9])])
local macro_rules (kind := PyProof.Rows.tacticWalk_at_) | x => on9 "subscriptTail" x (seq9 [here9, show9 "wpAny _ _ ( subscriptTail _ _ ( Value.ref _ ) ( Value.int ( Nat.cast _ ) _ ) ) _ _ _", dflt9 (seq9 [refine9 "itemOld ?F ?m ?i ?z ?", case9 "F" kasm9, case9 "m" asm9, case9 "i" asm9, case9 "z" le9, whole9])])
local macro_rules (kind := PyProof.Rows.tacticWalk_at_) | x => assign9 x
local macro_rules (kind := PyProof.Rows.tacticWalk_at_) | x => setItem9 "6" "setItemN 6" (exact9 "Nat.le_of_ble_eq_true rfl") x
local macro_rules (kind := PyProof.Rows.tacticWalk_at_) | x => stop9 "binaryOp Mult ref int" x
local macro_rules (kind := PyProof.Rows.tacticWalk_at_) | x => stop9 "compareOp Eq ref ref" x
local macro_rules (kind := PyProof.Rows.tacticWalk_at_) | x => stop9 "binaryOp Add ref ref" x
local macro_rules (kind := PyProof.Rows.tacticWalk_at_) | x => enum9 "enumT" (intro9 "e' it'") x
variable {w : World} {loose : List Str} {mean : ExcName → Option Value} {mg mb : Str → Option Value}
theorem law_spec {g : Heap} {gn} {dr} {tok : Nat} {os} {l : Addr} {vs : List Value} {is : List Int} {R : Result → Shared → Prop} (X₁ : (K0 w.params).In g) (T₁ : Top q0 loose mean mg mb g) (hs : g.IsList l vs.toArray) (hi : All2 IsInt vs is) (hlen : vs.length ≤ 63)
  (hret : ∀ (h' : Heap) (tk' : Nat), g.StaysIn h' → R (.ok (.ret (.bool true))) ⟨h', gn, dr, tk', os⟩) :
  codeAny (model PySem.Challenge.rw_nz0091_01.row.prog w) callerA (.call (.ref 330) ⟨[.ref l], []⟩) R ⟨g, gn, dr, tok, os⟩ := by
  refine' enterLaw (s := ⟨g, gn, dr, tok, os⟩) (binds := [(PySem.Str.ofString "script", Value.ref l)]) X₁ T₁ ?ho ?hcd ?hb ?hl ?hnd ?_ ?c1 ?c2 ?c3
  case ho => k_is
  case hcd => k_is
  case hb => first | exact BindsTo.of_eq rfl | exact binds_K (by k_in) rfl (by k_is) rfl rfl rfl
  case hl => exact rfl
  case hnd => decide +kernel
  case c1 => rfl
  case c2 => rfl
  case c3 => rfl
  intro Q₁ dp un gd L₁ h₁ tk cells hQ hdp hun F₁ N₁ Y₁
  have B₁ : Below callerA g [] g := below_caller _
  k_cells Y₁
  dsimp only at F₁ N₁ ⊢
  refine viaF fun hG9 => ?_
  obtain ⟨c1, c2, c3, cd1, cd2, cd3, N2⟩ : ∃ c1 c2 c3 : Obj, c1.data = .cell none ∧ c2.data = .cell none ∧ c3.data = .cell (some (.ref l)) ∧ News g L₁ h₁ [(L₁ + 1 + 1 + 1, c1), (L₁ + 1 + 1, c2), (L₁ + 1, c3)] :=
    ⟨_, _, _, Eq.trans (by assumption) rfl, Eq.trans (by assumption) rfl, Eq.trans (by assumption) rfl, N₁⟩
  refine hG9 ?_
  clear N₁
  have F2 : Fr g L₁ h₁ (fun _ => none) := F₁
  clear F₁
  k_steps
  unfold Stop
  refine (Assign_ListComp_E (h₀ := g) (m := fun _ => none) rfl (by with_unfolding_all rfl) (by with_unfolding_all rfl) (by decide) (by rfl) (by decide) (by rfl) (by rfl) (by decide) (by rfl) (by rfl) ?_)
  k_steps
  unfold Stop
  refine' law_base_spec0 ?zzC ?zzF ?zzN ?zzd ?zzu ?_
  case zzC => tb_start
  case zzF => k_asm
  case zzN => k_asm
  case zzd => omega
  case zzu => omega
  intro ab vb hb tkb hpb eb Fb Nb
  try dsimp only
  have hbl : vb.length = 48 := eb.length
  k_steps
  unfold SrcE
  rename IsEnum _ _ _ _ _ => he
  rename Heap.IsTupleIter _ _ _ _ => hit
  rename EFresh _ _ _ _ _ => hX
  refine ⟨_, _, vb, ab, _, fun i ys => ∃ js : List Int, All2 IsInt ys js ∧ js.length = i, rfl, rfl, he, .inr ⟨hit, 0, by k_mem⟩, hX, by assumption, by assumption, by assumption, by assumption, by rw [hbl]; decide, ⟨[], .nil, rfl⟩, ?turn, ?fin⟩
  case turn =>
    rintro i v₁ v₂ ys oe oi C oC D m₂ h tk E' hik ⟨t, rfl, hv⟩ ⟨js, hys, hjl⟩ hC hx1 hx2 F4 N4 hpk
    refine viaF fun hG9 => ?_
    obtain ⟨b, _, tb, rfl⟩ := eb.getL hv
    refine hG9 ?_
    show wpAny _ _ (eval _ _) _ _ _
    by_cases hil : i < vs.length
    · refine viaF fun hG9 => ?_
      obtain ⟨z, hz, tz, hzz⟩ := hi.getL (show vs[i]? = some vs[i] by simp [hil])
      have hvi : vs[i]? = some (.int z tz) := by rw [← hzz]; simp [hil]
      refine hG9 ?_
      k_steps
      all_goals (try dsimp only)
      all_goals first
        | (exfalso; omega)
        | exact EndE.intro F4 N4 (fun p hp => hp) ⟨js ++ [_], hys.snoc ⟨_, rfl⟩, by rw [List.length_append, hjl]; rfl⟩
    · k_steps
      all_goals (try dsimp only)
      all_goals first
        | (exfalso; omega)
        | exact EndE.intro F4 N4 (fun p hp => hp) ⟨js ++ [_], hys.snoc ⟨_, rfl⟩, by rw [List.length_append, hjl]; rfl⟩
  case fin =>
    rintro ys D h tk ⟨js, hys, hjl⟩ hlt hpk F4 N4
    try dsimp only
    refine viaF fun hG9 => ?_
    obtain ⟨z47, hz47⟩ : ∃ z, js[47]? = some z := ⟨js[47]'(by rw [hjl, hbl]; decide), by simp [hjl, hbl]⟩
    obtain ⟨z45, hz45⟩ : ∃ z, js[45]? = some z := ⟨js[45]'(by rw [hjl, hbl]; decide), by simp [hjl, hbl]⟩
    obtain ⟨z46, hz46⟩ : ∃ z, js[46]? = some z := ⟨js[46]'(by rw [hjl, hbl]; decide), by simp [hjl, hbl]⟩
    obtain ⟨_, hv47, t47, rfl⟩ := hys.get hz47
    obtain ⟨_, hv45, t45, rfl⟩ := hys.get hz45
    obtain ⟨_, hv46, t46, rfl⟩ := hys.get hz46
    have N5 : News g L₁ h [(D, LO ys ys.length), (L₁ + 1 + 1 + 1, c1), (L₁ + 1 + 1, c2), (L₁ + 1, c3)] := news_sub N4 fun p hp => by
      simp only [List.mem_cons, List.not_mem_nil, or_false] at hp ⊢
      rcases hp with h | h | h | h
      · exact .inl h
      · simp [h]
      · simp [h]
      · simp [h]
    refine hG9 ?_
    clear N4
    have hit47 : ItemAt [(D, LO ys ys.length), (L₁ + 1 + 1 + 1, c1), (L₁ + 1 + 1, c2), (L₁ + 1, c3)] D 47 (.int z47 t47) := .of (i := 47) (List.mem_cons_self ..) hv47 (by decide)
    have hit45 : ItemAt [(D, LO ys ys.length), (L₁ + 1 + 1 + 1, c1), (L₁ + 1 + 1, c2), (L₁ + 1, c3)] D 45 (.int z45 t45) := .of (i := 45) (List.mem_cons_self ..) hv45 (by decide)
    have hit46 : ItemAt [(D, LO ys ys.length), (L₁ + 1 + 1 + 1, c1), (L₁ + 1 + 1, c2), (L₁ + 1, c3)] D 46 (.int z46 t46) := .of (i := 46) (List.mem_cons_self ..) hv46 (by decide)
    k_steps
    unfold Stop
    refine' law_text_spec ?zzC ?zzF ?zzN ?zzp ?zzd ?zzu  ?_
    case zzC => tb_start
    case zzF => k_asm
    case zzN => k_asm
    case zzp => tb_rel
    case zzd => ktr_room
    case zzu => ktr_room
    intro xt tt6 g6 tk6 hxt hp6 F6 N6
    try dsimp only
    k_steps
    unfold Stop
    refine' law_attrs_spec ?zzC ?zzF ?zzN ?zzp ?zzd ?zzu  ?_
    case zzC => tb_start
    case zzF => k_asm
    case zzN => k_asm
    case zzp => tb_rel
    case zzd => ktr_room
    case zzu => ktr_room
    intro aa tups va ps ga tka hpa ea oka Fa Na
    try dsimp only
    k_steps
    unfold Stop
    refine' law_is_named_spec (va := va) (nx := 0) (ps := ps) ?zzC ?zzF ?zzN ?zzp ?zzd ?zzu ?zzhx ?zzhax ?zzhps ?zzok ?_
    case zzC => tb_start
    case zzF => k_asm
    case zzN => k_asm
    case zzp => tb_rel
    case zzd => ktr_room
    case zzu => ktr_room
    case zzhx => exact hxt
    case zzhax => exact List.mem_cons_self ..
    case zzhps => exact ea.imp fun _ _ h => h.sub fun p hp => List.mem_cons_of_mem _ (List.mem_append_left _ hp)
    case zzok => exact oka
    intro gn6 tkn hpn Fn Nn
    try dsimp only
    have Nn5 : News g L₁ gn6 [(D, LO ys ys.length), (L₁ + 1 + 1 + 1, c1), (L₁ + 1 + 1, c2), (L₁ + 1, c3)] := news_sub Nn fun p hp => List.mem_cons_of_mem _ (List.mem_append_right _ hp)
    clear Nn Na ea
    k_steps
    unfold Stop
    refine' tree_new_spec ?zzC ?zzF ?zzN ?zzp ?zzd ?zzu  ?_
    case zzC => tb_start
    case zzF => k_asm
    case zzN => k_asm
    case zzp => tb_rel
    case zzd => ktr_room
    case zzu => ktr_room
    intro T a0 q0 NL1 g1 tk1 hp1 F2 N2 sub1 R1 C1 f1
    try dsimp only
    have hD1 := sub1 (D, LO ys ys.length) (by simp)
    have hc11 := sub1 (L₁ + 1 + 1 + 1, c1) (by simp)
    have hc21 := sub1 (L₁ + 1 + 1, c2) (by simp)
    clear hit47 hit45 hit46
    k_steps
    unfold Stop
    refine wpAny_For (wpAny_pos (by tb_rel) ?_)
    k_steps
    unfold Stop
    rename (∀ p : Addr × Obj, p ∈ NL1 → _) => l9
    rename IsRange _ _ _ _ _ _ _ _ => R9
    rename Fr _ _ _ _ => F9
    rename News _ _ _ _ => N9
    refine viaF fun hG9 => ?_
    obtain ⟨nl, da, led, F8, N8, H8⟩ : ∃ (nl da : Addr) (led : Led), Fr g L₁ _ (fun y => if y = "notes" then some (Value.ref nl) else if y = "tree" then some (Value.ref T.t) else if y = "shift" then some (Value.int z47 t47) else if y = "digits" then some (Value.ref D) else none) ∧ News g L₁ _ led ∧
        ∃ rs c2' t, LawS w led T [a0] [q0] nl rs [docNd] D (L₁ + 1 + 1 + 1) (L₁ + 1 + 1) da ys c1 c2' none [.int 0 t] 0 [0] 0 := by
      refine ⟨_, _, _, F9, N9, _, _, _, law_init R1 C1 (fun x hx => ⟨f1 x hx _ (List.mem_cons_self ..), f1 x hx (L₁ + 1 + 1 + 1, c1) (by simp), f1 x hx (L₁ + 1 + 1, c2) (by simp)⟩) hD1 hc11 hc21 cd1 cd2 (by assumption) l9 ?_ ?_ ?_ ?_ ?_ ?_ ?_ ?_⟩
      · exact And.left (by assumption)
      · exact And.left (by assumption)
      · exact And.left (by assumption)
      · exact And.left (by assumption)
      · exact hlt (L₁ + 1 + 1 + 1, c1) (by simp)
      · exact hlt (L₁ + 1 + 1, c2) (by simp)
      · exact Nat.lt_succ_self _
      · with_reducible rename News _ _ _ ((_, _) :: _) => N0
        exact fun x hx => news_fun N0 (List.mem_cons_of_mem _ (List.mem_cons_of_mem _ (List.mem_cons_of_mem _ (List.mem_cons_of_mem _ (List.mem_cons_of_mem _ hc21))))) hx
    refine hG9 ?_
    clear F9 N9 l9
    have hys : ∀ j : Nat, j < 48 → ∃ z t, ys[j]? = some (.int z t) := fun j hj => by
      obtain ⟨z, hz⟩ : ∃ z, js[j]? = some z := ⟨js[j]'(by rw [hjl, hbl]; exact hj), by simp [hjl, hbl, hj]⟩
      obtain ⟨_, hv, t, rfl⟩ := hys.get hz
      exact ⟨z, t, hv⟩
    refine forRangeC (n := 15) rfl rfl rfl F8 N8 R9 (by decide) (by decide) (by tb_rel)
      (LawJ w T nl D (L₁ + 1 + 1 + 1) (L₁ + 1 + 1) ys (fun y => if y = "notes" then some (Value.ref nl) else if y = "tree" then some (Value.ref T.t) else if y = "shift" then some (Value.int z47 t47) else if y = "digits" then some (Value.ref D) else none)) ?init ?step ?done
    case init =>
      refine viaF fun hG9 => ?_
      obtain ⟨rs, c2', t, H⟩ := H8
      refine hG9 ?_
      exact ⟨⟨_, _, rs, _, da, c1, c2', none, _, 0, _, H⟩, fun y _ => rfl⟩
    case done =>
      rintro m' nw h tk ⟨⟨as, qs, rs, nds, da, c1, c2, v1, vd, nd, ds, H⟩, hm'⟩ hpk F4 N4
      rw [fr_many hm'] at F4
      intro hpk2
      try dsimp only
      have G := H.I.good (Nat.le_refl _)
      have G2 := H.I.g2
      have hroom := H.S.N.room
      obtain ⟨nn, hnl⟩ := H.S.N.list
      have hrl : (rs.map fun r => Value.ref r.a).length ≤ 1000 := by rw [List.length_map, H.S.N.len]; exact hroom
      have hmap : (rs.map fun r => Value.ref r.a).length = nds.length := by rw [List.length_map, H.S.N.len]
      k_steps
      unfold Stop
      refine' law_told_spec ?zzC ?zzF ?zzN ?zzp ?zzd ?zzu ?zzR ?zzG ?zzG2 ?_
      case zzC => tb_start
      case zzF => k_asm
      case zzN => k_asm
      case zzp => tb_rel
      case zzd => ktr_room
      case zzu => ktr_room
      case zzR => exact H.S.N
      case zzG => exact G
      case zzG2 => exact G2
      intro tA waA wiA vwA viA nwA niA gA tkA hpA hwA hiA FA NA
      try dsimp only
      k_steps
      unfold Stop
      refine' law_told_spec ?zzC ?zzF ?zzN ?zzp ?zzd ?zzu ?zzR ?zzG ?zzG2 ?_
      case zzC => tb_start
      case zzF => k_asm
      case zzN => k_asm
      case zzp => tb_rel
      case zzd => ktr_room
      case zzu => ktr_room
      case zzR => exact H.S.N.sub (Sub.cons (Sub.cons (Sub.cons Sub.refl)))
      case zzG => exact G
      case zzG2 => exact G2
      intro tB waB wiB vwB viB nwB niB gB tkB hpB hwB hiB FB NB
      try dsimp only
      k_steps
      unfold Stop
      refine wpAny_For (wpAny_pos (by tb_rel) ?_)
      k_steps
      unfold Stop
      rename IsRange _ _ _ _ _ _ _ _ => R9
      rename Fr _ _ _ _ => F9
      rename News _ _ _ _ => N9
      rw [hmap] at R9
      refine viaF fun hG9 => ?_
      obtain ⟨lt, led2, F8, N8, hlt8, hA8, hwA8, hiA8, hB8, hwB8, hiB8, S8⟩ : ∃ (lt : Addr) (led2 : Led), Fr g L₁ _ (fun y : Str => if y = "told" then some (Value.ref lt) else (fun y : Str => if lawXs.contains y = true then m' y else if y = "notes" then some (Value.ref nl) else if y = "tree" then some (Value.ref T.t) else if y = "shift" then some (Value.int z47 t47) else if y = "digits" then some (Value.ref D) else none) y) ∧ News g L₁ _ led2 ∧
          (lt, LO [.ref tA, .ref tB] 0) ∈ led2 ∧ (tA, TO [.ref waA, .ref wiA] 0) ∈ led2 ∧ (waA, LO vwA nwA) ∈ led2 ∧ (wiA, LO viA niA) ∈ led2 ∧ (tB, TO [.ref waB, .ref wiB] 0) ∈ led2 ∧ (waB, LO vwB nwB) ∈ led2 ∧ (wiB, LO viB niB) ∈ led2 ∧ St w led2 T as qs nl rs nds :=
        ⟨_, _, F9, N9, by simp, by simp, by simp, by simp, by simp, by simp, by simp, H.S.sub (Sub.cons (Sub.cons (Sub.cons (Sub.cons (Sub.cons (Sub.cons (Sub.cons Sub.refl))))))) ⟩
      refine hG9 ?_
      clear F9 N9
      have hinst8 := S8.R.inst
      have hdict8 := S8.R.dict
      have RR8 := S8.R.rep S8.C
      refine forRangeC (n := nds.length) rfl rfl rfl F8 N8 R9 (small1 hroom) size1 (by tb_rel)
        (fun _ m2 nw2 => nw2 = led2 ∧ ∀ y, (endXs.contains y) = false → m2 y = (fun y : Str => if y = "told" then some (Value.ref lt) else (fun y : Str => if lawXs.contains y = true then m' y else if y = "notes" then some (Value.ref nl) else if y = "tree" then some (Value.ref T.t) else if y = "shift" then some (Value.int z47 t47) else if y = "digits" then some (Value.ref D) else none) y) y) ⟨rfl, fun y _ => rfl⟩ ?step2 ?done2
      case step2 =>
        rintro i t m2 nw2 h2 tk2 I oI hi ⟨rfl, hm2⟩ hpk3 F5 N5 off hcls
        rw [fr_many hm2, zero1] at F5
        refine viaF fun hG9 => ?_
        obtain ⟨d, hd⟩ : ∃ d, nds[i]? = some d := ⟨nds[i], by simp [hi]⟩
        obtain ⟨tX, waX, wiX, vw, vi, n1, n2, hitX, htX, hwX, hiX, aw, ai⟩ := way_pick ((i : Int) + z47) (fmod_two _) hlt8 hA8 hwA8 hiA8 hB8 hwB8 hiB8 hwA hiA hwB hiB
        obtain ⟨tw, hvw⟩ := whole_at aw hd
        obtain ⟨ti, hvi⟩ := with_at ai hd
        have hitw : ItemAt nw2 waX (i : Int) (.str (outText nds (((i : Int) + z47).fmod 2 == 1) i d) tw) := .of hwX hvw (lt62 hi hroom)
        have hiti : ItemAt nw2 wiX (i : Int) (.str (inText nds (((i : Int) + z47).fmod 2 == 1) i d) ti) := .of hiX hvi (lt62 hi hroom)
        refine hG9 ?_
        try dsimp only
        k_steps
        unfold Stop
        refine' outer_spec (i := i) ?zzC ?zzF ?zzN ?zzp ?zzd ?zzu ?zzR ?zzG ?zzi ?_
        case zzC => tb_start
        case zzF => k_asm
        case zzN => k_asm
        case zzp => tb_rel
        case zzd => ktr_room
        case zzu => ktr_room
        case zzR => exact RR8.sub (Sub.cons Sub.refl)
        case zzG => exact G
        case zzi => exact hd
        intro tt6 g6 tk6 hp6 F6 N6
        try dsimp only
        k_steps
        all_goals first
          | (with_reducible rename (_ != _) = true => hne
             rw [bne_self_eq_false] at hne; cases hne)
          | skip
        unfold Stop
        refine' inner_spec (i := i) ?zzC ?zzF ?zzN ?zzp ?zzd ?zzu ?zzR ?zzG ?zzi ?_
        case zzC => tb_start
        case zzF => k_asm
        case zzN => k_asm
        case zzp => tb_rel
        case zzd => ktr_room
        case zzu => ktr_room
        case zzR => exact RR8.sub (Sub.cons Sub.refl)
        case zzG => exact G
        case zzi => exact hd
        intro tt7 g7 tk7 hp7 F7 N7
        try dsimp only
        k_steps
        all_goals first
          | (with_reducible rename (_ != _) = true => hne
             rw [bne_self_eq_false] at hne; cases hne)
          | skip
        rename Fr _ _ _ _ => FX
        rename News _ _ _ _ => NX
        exact turnS_next FX NX off ⟨rfl, fun y hy => by
          refine viaF fun hG9 => ?_
          obtain ⟨y1, y2, y3, y4⟩ := end_off hy
          refine hG9 ?_
          simp +zetaDelta only [if_neg y1, if_neg y2, if_neg y3, if_neg y4]
          show (if (endXs.contains y) = true then _ else _) = _
          rw [hy, if_neg Bool.false_ne_true]⟩
      case done2 =>
        rintro m2 nw2 h2 tk2 ⟨rfl, hm2⟩ hpk3 F5 N5
        rw [fr_many hm2] at F5
        intro hpk4
        try dsimp only
        refine viaF fun hG9 => ?_
        obtain ⟨d0, hd0, hh0, he0⟩ := H.I.doc
        obtain ⟨tw0, hv0⟩ := with_at hiA hd0
        obtain ⟨tw1, hv1⟩ := with_at hiB hd0
        have hl0 : ItemAt nw2 lt 0 (.ref tA) := .of (i := 0) hlt8 rfl (by decide)
        have hl1 : ItemAt nw2 lt 1 (.ref tB) := .of (i := 1) hlt8 rfl (by decide)
        have hi0 : ItemAt nw2 wiA 0 (.str (inText nds false 0 d0) tw0) := .of (i := 0) hiA8 hv0 (by decide)
        have hi1 : ItemAt nw2 wiB 0 (.str (inText nds true 0 d0) tw1) := .of (i := 0) hiB8 hv1 (by decide)
        have ho : ∀ fl, outText nds fl 0 d0 = inText nds fl 0 d0 := fun fl => by unfold outText; rw [if_pos hh0]
        refine hG9 ?_
        k_steps
        unfold Stop
        refine' outer2_spec (i := 0) ?zzC ?zzF ?zzN ?zzp ?zzd ?zzu ?zzR ?zzG ?zzi ?_
        case zzC => tb_start
        case zzF => k_asm
        case zzN => k_asm
        case zzp => tb_rel
        case zzd => ktr_room
        case zzu => ktr_room
        case zzR => exact RR8
        case zzG => exact G
        case zzi => exact hd0
        intro tt6 g6 tk6 hp6 F6 N6
        try dsimp only
        k_steps
        unfold Stop
        refine' inner2_spec (i := 0) ?zzC ?zzF ?zzN ?zzp ?zzd ?zzu ?zzR ?zzG ?zzi ?_
        case zzC => tb_start
        case zzF => k_asm
        case zzN => k_asm
        case zzp => tb_rel
        case zzd => ktr_room
        case zzu => ktr_room
        case zzR => exact RR8
        case zzG => exact G
        case zzi => exact hd0
        intro tt7 g7 tk7 hp7 F7 N7
        try dsimp only
        k_steps
        unfold Stop
        refine' outer_spec (i := 0) ?zzC ?zzF ?zzN ?zzp ?zzd ?zzu ?zzR ?zzG ?zzi ?_
        case zzC => tb_start
        case zzF => k_asm
        case zzN => k_asm
        case zzp => tb_rel
        case zzd => ktr_room
        case zzu => ktr_room
        case zzR => exact RR8
        case zzG => exact G
        case zzi => exact hd0
        intro tt8 g8 tk8 hp8 F8 N8
        try dsimp only
        k_steps
        unfold Stop
        refine eqStrs (ns := [outText nds false 0 d0, inText nds false 0 d0, outText nds true 0 d0]) (ms := [inText nds false 0 d0, inText nds false 0 d0, inText nds true 0 d0]) (by k_asm) (by k_mem) (by k_mem) (.cons ⟨_, rfl⟩ (.cons ⟨_, rfl⟩ (.cons ⟨_, rfl⟩ .nil))) (.cons ⟨_, rfl⟩ (.cons ⟨_, rfl⟩ (.cons ⟨_, rfl⟩ .nil))) rfl (by first | (show _ + _ < _; ktr_room) | ((try dsimp only); omega)) ?_
        rw [ho, ho, decide_eq_true rfl]
        k_steps
        rename Fr _ _ _ _ => FX
        exact hQ _ _ (hret _ _ FX.keep)
    case step =>
      rintro i t m' nw h tk I oI hi ⟨⟨as, qs, rs, nds, da, c1, c2, v1, vd, nd, ds, H⟩, hm'⟩ hpk F4 N4 off hcls
      rw [fr_many hm', zero1] at F4
      have hD4 := H.hD
      have hF1 : ∀ x, (L₁ + 1 + 1 + 1, x) ∈ nw → c1 = x := fun x hx => news_fun (news_tail N4) H.h1 hx
      have h14 := H.h1
      have h24 := H.h2
      have d14 := H.d1
      have d24 := H.d2
      try dsimp only
      k_steps
      unfold Stop
      rename (_ ∧ AllLt _ nw) => l1
      rename Fr _ _ _ _ => FA
      rename News _ _ _ _ => NA
      refine viaF fun hG9 => ?_
      obtain ⟨sa, nwA, c1A, s1, s2, s3, N5, HA, hsa, offA⟩ : ∃ (sa : Addr) (nwA : Led) (c1A : Obj) (s1 s2 s3 : Tok), News g L₁ _ ((I, oI) :: nwA) ∧ LawS w nwA T as qs nl rs nds D (L₁ + 1 + 1 + 1) (L₁ + 1 + 1) da ys c1A c2 (some (.ref sa)) vd nd ds i ∧ (sa, LO [.str "document" s1, .str "element" s2, .str "fragment" s3] 0) ∈ nwA ∧ (∀ p ∈ nwA, p.1 ≠ I) := by
        rename _ = Data.cell (some (Value.ref _)) => d9
        have hIc : @Ne Addr I (L₁ + 1 + 1 + 1) := (off _ H.h1).symm
        have l2 := tb_ltOf l1.2
        have hsc := l2 _ H.h1
        refine ⟨_, _, _, _, _, _, pull1 NA hIc, H.sorts (fun p hp hc => setL_ne (keep_ne' hF1 (cell_ne H.d1) hp hc) (List.mem_cons_of_mem _ hp)) (setL_self (List.mem_cons_of_mem _ H.h1)) d9, setL_ne (Nat.ne_of_gt hsc) (List.mem_cons_self ..), off_setL (P := fun y => y ≠ I) (fun p hp => ?_)⟩
        rcases List.mem_cons.mp hp with rfl | hp
        · exact Nat.ne_of_gt l1.1
        · exact off p hp
      refine hG9 ?_
      clear hD4 h14 h24 d14 d24 l1
      refine viaF fun hG9 => ?_
      have hd1 := HA.d1
      have hd2 := HA.d2
      have hc1 := HA.h1
      have hc2 := HA.h2
      have hda := HA.ha
      have hDA := HA.hD
      obtain ⟨nn, hnl⟩ := HA.S.N.list
      obtain ⟨⟨w0, tw0, hw0⟩, ⟨w1, tw1, hw1⟩, w2, tw2, hw2⟩ := hit3 HA.hD hys hi
      have hrl : (rs.map fun r => Value.ref r.a).length ≤ 1000 := by rw [List.length_map, HA.S.N.len]; exact HA.S.N.room
      refine hG9 ?_
      refine wpAny_pos (by tb_rel) (Assign_ListComp_E (h₀ := g) (m := fun y => if y = "k" then some (Value.int (i : Int) t) else (fun y : Str => if lawXs.contains y = true then m' y else if y = "notes" then some (Value.ref nl) else if y = "tree" then some (Value.ref T.t) else if y = "shift" then some (Value.int z47 t47) else if y = "digits" then some (Value.ref D) else none) y) rfl (by with_unfolding_all rfl) (by with_unfolding_all rfl) (by decide) (by rfl) (by decide) (by rfl) (by rfl) (by decide) (by rfl) (by rfl) ?_)
      k_steps
      unfold SrcE
      rename IsEnum _ _ _ _ _ => he
      rename Heap.IsListIter _ _ _ _ => hit
      rename EFresh _ _ _ _ _ => hX
      refine ⟨_, _, _, nl, _, HoldsJ, rfl, rfl, he, .inl ⟨hit, nn, List.mem_cons_of_mem _ hnl⟩, hX, by assumption, by assumption, by assumption, by assumption, Nat.le_trans hrl (by decide), ⟨[], .nil, Nat.zero_le _, by simp, fun h => absurd h (Nat.lt_irrefl _)⟩, ?turn, ?fin⟩
      case turn =>
        rintro j v₁ v₂ ys2 oe oi C oC D2 m₂ h2 tk2 E' hj ⟨t2, rfl, hv⟩ hJ2 hC hx1 hx2 F6 N6 hpk6
        refine viaF fun hG9 => ?_
        obtain ⟨r, hr, rfl⟩ : ∃ r, rs[j]? = some r ∧ v₂ = .ref r.a := by
          rw [List.getElem?_map] at hv
          cases hr : rs[j]? with
          | none => rw [hr] at hv; cases hv
          | some r => rw [hr] at hv; exact ⟨r, rfl, (Option.some.inj hv).symm⟩
        have hjl : j < nds.length := by rw [← HA.S.N.len]; exact lt_of_get hr
        obtain ⟨d, hd⟩ : ∃ d, nds[j]? = some d := ⟨nds[j], by simp [hjl]⟩
        obtain ⟨_, hk0⟩ := (HA.S.N.note j d r hd hr).k
        obtain ⟨z, hz⟩ : ∃ z, ds[j]? = some z := ⟨ds[j]'(by rw [HA.dl]; exact hjl), by simp [HA.dl, hjl]⟩
        obtain ⟨_, hvz, tz, rfl⟩ := HA.hds.get hz
        have hkz : ItemAt nwA da (j : Int) (.int z tz) := .of HA.ha hvz (lt62 hj hrl)
        have hsr : All2 IsStr [.str "document" s1, .str "element" s2, .str "fragment" s3] [PySem.Str.ofString "document", PySem.Str.ofString "element", PySem.Str.ofString "fragment"] := .cons ⟨_, rfl⟩ (.cons ⟨_, rfl⟩ (.cons ⟨_, rfl⟩ .nil))
        refine hG9 ?_
        show wpAny _ _ (isTrue _ _ _) _ _ _
        k_steps
        all_goals (try dsimp only)
        all_goals first
          | exact EndE.intro F6 N6 (fun p hp => hp) (holds_add hJ2)
          | refine EndE.intro F6 N6 (fun p hp => hp) (holds_skip hJ2 fun e0 => ?_)
        all_goals subst e0
        · have e1 := HA.d0
          rw [hz] at e1
          have e2 : z = 0 := Option.some.inj e1
          omega
        · refine viaF fun hG9 => ?_
          obtain ⟨d0, e1, e2, _⟩ := HA.I.doc
          refine hG9 ?_
          rw [hd] at e1; cases e1
          with_reducible rename List.any _ _ = false => hf
          rw [hold_three e2] at hf; cases hf
      case fin =>
        rintro ys2 H2 h2 tk2 hJ2 hlt3 hpk6 F6 N6
        intro hp7 hp8
        try dsimp only
        have N7 : News g L₁ h2 ((H2, LO ys2 ys2.length) :: (I, oI) :: nwA) := N6
        clear N6
        have hHI : @Ne Addr H2 I := Nat.ne_of_gt (hlt3 _ (List.mem_cons_self ..))
        k_steps
        unfold Stop
        refine' law_make_spec ?zzC ?zzF ?zzN ?zzp ?zzd ?zzu ?zzS ?zzro ?_
        case zzC => tb_start
        case zzF => k_asm
        case zzN => k_asm
        case zzp => tb_rel
        case zzd => ktr_room
        case zzu => ktr_room
        case zzS => exact HA.S.sub (Sub.cons (Sub.cons Sub.refl))
        case zzro => exact roomLaw HA.I.len hi
        intro d as1 qs1 rs1 nwB tB gB tkB hnewd hpB FB NB SB KB fB1 fB2
        try dsimp only
        refine viaF fun hG9 => ?_
        obtain ⟨OB, hHB⟩ := HA.made offA hlt3 SB KB fB1 fB2
        have hF2 : ∀ x, (L₁ + 1 + 1, x) ∈ nwB → c2 = x := fun x hx => news_fun NB OB.h2 hx
        have hHcd : (H2 : Addr) ≠ L₁ + 1 + 1 := Nat.ne_of_gt (hlt3 _ (List.mem_cons_of_mem _ HA.h2))
        obtain ⟨hs, hys2, hl2, hlt2, hne2⟩ := hJ2
        have hnp : 0 < nds.length := by obtain ⟨d0, e1, _⟩ := HA.I.doc; exact lt_of_get e1
        have hrsl : (rs.map fun r => Value.ref r.a).length = nds.length := by rw [List.length_map, HA.S.N.len]
        refine hG9 ?_
        rw [hrsl] at hl2 hlt2 hne2
        refine viaF fun hG9 => ?_
        have hyl := hys2.length
        have hpos2 : 0 < ys2.length := by rw [hyl]; exact List.length_pos_iff.mpr (hne2 hnp)
        have hroom := HA.S.N.room
        have hy9 : ys2.length ≤ 1000 := hyl ▸ Nat.le_trans hl2 hroom
        obtain ⟨q, hq, hq2⟩ : ∃ q : Nat, w1.fmod (ys2.length : Int) = (q : Int) ∧ q < hs.length := by rw [← hyl]; exact fmodP hpos2
        obtain ⟨p, hp⟩ : ∃ p, hs[q]? = some p := ⟨hs[q], by simp [hq2]⟩
        have hpn := hlt2 p (List.mem_of_getElem? hp)
        obtain ⟨_, hvp, tp, rfl⟩ := hys2.get hp
        have hitp : ItemAt nwB H2 (w1.fmod (ys2.length : Int)) (.int (p : Int) tp) := hq ▸ .of hHB hvp (lt62 hq2 (Nat.le_trans hl2 hroom))
        obtain ⟨z, hz⟩ : ∃ z, ds[p]? = some z := ⟨ds[p]'(by rw [HA.dl]; exact hpn), by simp [HA.dl, hpn]⟩
        obtain ⟨_, hvz, tz, rfl⟩ := HA.hds.get hz
        have hitz : ItemAt nwB da (p : Int) (.int z tz) := .of OB.ha hvz (lt62 hpn hroom)
        obtain ⟨nB, hnlB⟩ := OB.S.N.list
        have hdaB := OB.ha
        have hc2B := OB.h2
        have hd2B := OB.d2
        have hroomB := OB.S.N.room
        have hlenB : ((rs ++ rs1).map fun r => Value.ref r.a).length = (nds ++ elNds d).length := by rw [List.length_map, OB.S.N.len]
        have hvdl : vd.length = nds.length := HA.hds.length.trans HA.dl
        refine hG9 ?_
        clear hd1 hd2 hc1 hc2 hda hDA hnl hrl hw0 hw1 hw2 KB hlt3 hit hX he
        k_steps
        unfold Stop
        rename Fr _ _ _ _ => FC
        rename News _ _ _ _ => NC
        refine viaF fun hG9 => ?_
        obtain ⟨kk, hkk, hkk2, hkk3⟩ := made_count hlenB hvdl
        refine hG9 ?_
        refine mulS2 hkk FC NC (List.mem_cons_self ..) (Nat.le_trans hkk3 (by decide)) fun lm hm FM NM ltm => ?_
        obtain ⟨u9, NM⟩ : ∃ u, News g L₁ hm ((lm, LO (List.replicate kk (Value.int (z + 1) u)) 0) :: _) := ⟨_, NM⟩
        have hvz2 : vd.length + (List.replicate kk (Value.int (z + 1) u9)).length ≤ 1000000 := by rw [List.length_replicate, hvdl, hkk2]; exact Nat.le_trans hroomB (by decide)
        try dsimp only
        refine addS FM NM (List.mem_cons_of_mem _ (List.mem_cons_of_mem _ hdaB)) (List.mem_cons_self ..) hvz2 fun da2 hA FD ND ltd => ?_
        try dsimp only
        have ltB : ∀ p ∈ nwB, @LT.lt Nat _ p.1 da2 := fun p hp => ltd p (List.mem_cons_of_mem _ (List.mem_cons_of_mem _ hp))
        have N9 : News g L₁ hA ((da2, LO (vd ++ List.replicate kk (Value.int (z + 1) u9)) 0) :: nwB) := news_sub ND fun p hp => by
          rcases List.mem_cons.mp hp with rfl | hp
          · exact List.mem_cons_self ..
          · exact List.mem_cons_of_mem _ (List.mem_cons_of_mem _ (List.mem_cons_of_mem _ hp))
        clear NC NM ND ltm ltd hvz2
        k_steps
        rename News _ _ _ _ => NE
        rename _ = Data.cell (some (Value.ref da2)) => d9
        refine viaF fun hG9 => ?_
        obtain ⟨nwC, c2C, NC, OC, hHC⟩ : ∃ nwC c2C, News g L₁ _ nwC ∧ LawO w nwC T (as ++ as1) (qs ++ qs1) nl (rs ++ rs1) (nds ++ elNds d) D (L₁ + 1 + 1 + 1) (L₁ + 1 + 1) da2 ys c1A c2C (some (.ref sa)) (vd ++ List.replicate kk (Value.int (z + 1) u9)) 0 I oI ∧ (H2, LO ys2 ys2.length) ∈ nwC :=
          ⟨_, _, NE, OB.depths hF2 ltB d9, setL_ne hHcd (List.mem_cons_of_mem _ hHB)⟩
        refine hG9 ?_
        clear NE N9 d9 OB SB hdaB hc2B hd2B hitp hitz hnlB hHB hF2 ltB
        refine viaF fun hG9 => ?_
        obtain ⟨ep, hep⟩ : ∃ ep, nds[p]? = some ep := ⟨nds[p], by simp [hpn]⟩
        have hepB := el_old (d := d) hep
        obtain ⟨rp, hrp, hitP, hnoteP⟩ := OC.S.N.at hepB
        have hcP := hnoteP.c
        obtain ⟨vu, nu, hvu, hus⟩ := hnoteP.kids
        have hul := HA.I.under_len hep
        have hvul : vu.length = ep.under.length := hus.length
        have hvul2 : vu.length ≤ 1000 := by rw [hvul]; exact Nat.le_trans hul (Nat.le_trans (Nat.le_of_lt hi) (by decide))
        obtain ⟨j, hj, hj2⟩ : ∃ j : Nat, (w1.fdiv (ys2.length : Int)).fmod ((vu.length : Int) + 1) = (j : Int) ∧ j ≤ vu.length := fmodS
        obtain ⟨nC, hnlC⟩ := OC.S.N.list
        have hinstC := OC.S.R.inst
        have hdictC := OC.S.R.dict
        refine hG9 ?_
        k_steps
        unfold Stop
        rename Fr _ _ _ _ => FG
        rename News _ _ _ _ => NG
        dsimp +zetaDelta only at FG
        rw [hj] at FG
        refine addS FG NG (List.mem_cons_of_mem _ hvu) (List.mem_cons_self ..) (Nat.le_trans (Nat.add_le_add_right hvul2 1) (by decide)) fun lu hU FU NU ltU => ?_
        obtain ⟨u8, NU⟩ : ∃ u, News g L₁ hU ((lu, LO (vu ++ [Value.int (-1) u]) 0) :: _) := ⟨_, NU⟩
        have NV : News g L₁ hU ((lu, LO (vu ++ [Value.int (-1) u8]) 0) :: nwC) := news_sub NU fun p hp => by
          rcases List.mem_cons.mp hp with rfl | hp
          · exact List.mem_cons_self ..
          · exact List.mem_cons_of_mem _ (List.mem_cons_of_mem _ hp)
        clear NG NU ltU
        have hPU := pup_made HA.I.par hnewd.parent
        have hnod := HA.I.nod _ _ hep
        have hul2 : ep.under.length ≤ 1000 := hvul ▸ hvul2
        try dsimp only
        refine viaF fun hG9 => ?_
        obtain ⟨bv, tbv, hvbv, hbv⟩ : ∃ (bv : Int) (tbv : Tok), (vu ++ [Value.int (-1) u8])[j]? = some (.int bv tbv) ∧ ((bv = -1 ∧ j = ep.under.length) ∨ ∃ b : Nat, bv = (b : Int) ∧ ep.under[j]? = some b ∧ b ≠ nds.length) := by
          by_cases hjv : j = vu.length
          · exact ⟨-1, u8, by rw [hjv]; simp, .inl ⟨rfl, hjv.trans hvul⟩⟩
          · obtain ⟨b, hb⟩ : ∃ b, ep.under[j]? = some b := ⟨ep.under[j]'(by rw [← hvul]; exact Nat.lt_of_le_of_ne hj2 hjv), by simp⟩
            obtain ⟨_, hvb, tb, rfl⟩ := hus.get hb
            exact ⟨b, tb, by rw [List.getElem?_append_left (lt_of_get hvb)]; exact hvb, .inr ⟨b, rfl, hb, Nat.ne_of_lt (HA.I.up _ _ hep b (List.mem_of_getElem? hb)).2⟩⟩
        have hitU : ItemAt ((lu, LO (vu ++ [Value.int (-1) u8]) 0) :: nwC) lu (j : Int) (.int bv tbv) := .of (List.mem_cons_self ..) hvbv (Nat.lt_of_le_of_lt (Nat.le_trans hj2 hvul2) (by decide))
        refine hG9 ?_
        k_steps
        unfold Stop
        refine' insertV_spec (p := p) (node := nds.length) (j := j) (ep := ep) (en := d) ?zzC ?zzF ?zzN ?zzp ?zzd ?zzu ?zzR ?zzCA ?zzPU ?zzhp ?zzhn ?zzpn ?zzdn ?zznd ?zzul ?zzhj ?_
        case zzC => tb_start
        case zzF => k_asm
        case zzN => k_asm
        case zzp => tb_rel
        case zzd => ktr_room
        case zzu => ktr_room
        case zzR => exact OC.S.R.sub (Sub.cons Sub.refl)
        case zzCA => exact OC.S.C.sub (Sub.cons Sub.refl)
        case zzPU => exact hPU
        case zzhp => exact hepB
        case zzhn => exact el_new
        case zzpn => exact hpn
        case zzdn => exact hnewd.parent
        case zznd => exact hnod
        case zzul => exact hul2
        case zzhj => exact hbv
        intro NLz gz tkz hpz FZ NZ RZ CZ KZ
        try dsimp only
        intro hpz2
        refine viaF fun hG9 => ?_
        obtain ⟨rn, hrn, hitN, hnoteN⟩ := OC.S.N.at (el_new (nds := nds) (d := d))
        have noff : ∀ {x : Addr}, x ∈ noteAddrs nl (rs ++ rs1) → x ∉ T.p :: (qs ++ qs1) := fun {x} hx hc => OC.S.sep x (by
          rcases List.mem_cons.mp hc with rfl | hc
          · exact lists_sub (by unfold TA.lists; simp)
          · unfold treeAddrs; simp only [List.mem_cons, List.mem_append] at hc ⊢; rcases hc with hc | hc <;> simp [hc]) hx
        have hvuZ : (rp.u, LO vu nu) ∈ NLz := KZ _ (List.mem_cons_of_mem _ hvu) (.inl (noff (note_u hrp)))
        have hnlZ := KZ _ (List.mem_cons_of_mem _ hnlC) (.inl (noff (List.mem_cons_self ..)))
        obtain ⟨nrn, r1, r2, r3, r4, r5, hrowN⟩ := hnoteN.row
        have hrowZ := KZ _ (List.mem_cons_of_mem _ hrowN) (.inl (noff (note_a hrn)))
        have hIZ : (I, oI) ∈ NLz := KZ _ (List.mem_cons_of_mem _ OC.hI) (.inl OC.oI.ch2)
        have hFu : ∀ x, (rp.u, x) ∈ NLz → LO vu nu = x := fun x hx => news_fun NZ hvuZ hx
        have hrau : @Ne Addr rn.a rp.u := OC.S.ne_au hrn hrp
        have hnlu : @Ne Addr nl rp.u := (OC.S.ne_l hrp).2
        have hnla : @Ne Addr nl rn.a := (OC.S.ne_l hrn).1
        refine hG9 ?_
        clear hitU hvbv hitP hcP hnlC hinstC hdictC hnoteP hnoteN
        k_steps
        unfold Stop
        rename News _ _ _ _ => NX
        refine viaF fun hG9 => ?_
        obtain ⟨nwE, n9, t9, NE, KE1, huE⟩ : ∃ (nwE : Led) (n9 : Nat) (t9 : Tok), News g L₁ _ nwE ∧ Keep [rp.u] NLz nwE ∧ (rp.u, LO (kl_ins vu (j : Int) (.int (nds.length : Int) t9)) n9) ∈ nwE :=
          ⟨_, _, _, NX, fun p hp hc => setL_ne (keep_ne hFu lo_cls (by simp) hp hc) hp, setL_self hvuZ⟩
        refine hG9 ?_
        clear NX NZ hFu
        repeat (with_reducible (rename News _ _ _ (setL _ _ _) => N99); clear N99)
        have hnlE := KE1 _ hnlZ (.inl (by simp only [List.mem_singleton]; exact hnlu))
        have hrowE := KE1 _ hrowZ (.inl (by simp only [List.mem_singleton]; exact hrau))
        have hIE : (I, oI) ∈ nwE := KE1 _ hIZ (.inl (by simp only [List.mem_singleton]; exact fun e => OC.oI.2 (e ▸ note_u hrp)))
        have hFa : ∀ x, (rn.a, x) ∈ nwE → _ = x := fun x hx => news_fun NE hrowE hx
        have hitE : ItemAt nwE nl (nds.length : Int) (.ref rn.a) := .of hnlE (by rw [List.getElem?_map, hrn]; rfl) (le62 (Nat.le_refl _) hroom)
        k_steps
        rename Fr _ _ _ _ => FX
        rename News _ _ _ _ => NX
        have hIa : @Ne Addr I rn.a := fun e => OC.oI.2 (e ▸ note_a hrn)
        have hIZ2 := setL_ne (o' := LO [.str d.kind r1, .str d.space r2, .str d.name r3, .ref rn.at', .str d.text r4, .ref rn.u, .int (p : Int) tp] nrn) hIa hIE
        have KE : Keep [rp.u, rn.a] NLz (setL rn.a (LO [.str d.kind r1, .str d.space r2, .str d.name r3, .ref rn.at', .str d.text r4, .ref rn.u, .int (p : Int) tp] nrn) nwE) :=
          (KE1.wide (by simp)).trans fun p hp hc => setL_ne (keep_ne hFa lo_cls (by simp) hp hc) hp
        refine turnS_next FX (news' := (setL rn.a (LO [.str d.kind r1, .str d.space r2, .str d.name r3, .ref rn.at', .str d.text r4, .ref rn.u, .int (p : Int) tp] nrn) nwE).filter fun p => p.1 != I) (news_sub NX fun p hp => ?_) (fun p hp => bne_iff_ne.mp (List.mem_filter.mp hp).2)
          ⟨⟨_, _, _, _, da2, c1A, c2C, _, _, 0, _, law_turn OC HA.I hnewd hep RZ CZ KZ KE hrp hrn (setL_ne hrau.symm huE) (kl_ins_nat hus (hvul ▸ hj2)) (setL_self hrowE) (fun x hx => news_fun NX hIZ2 hx) hcls (depth_ints HA.hds) (by rw [List.length_append, List.length_replicate, HA.dl, hkk2]) (by rw [List.getElem?_append_left (by rw [HA.dl]; exact hnp)]; exact HA.d0)⟩, fun y hy => ?_⟩
        · rcases List.mem_cons.mp hp with rfl | hp
          · exact hIZ2
          · exact (List.mem_filter.mp hp).1
        · refine viaF fun hG9 => ?_
          obtain ⟨y1, y2, y3, y4, y5, y6, y7⟩ := law_off hy
          refine hG9 ?_
          simp +zetaDelta only [if_neg y1, if_neg y2, if_neg y3, if_neg y4, if_neg y5, if_neg y6, if_neg y7]
          show (if (lawXs.contains y) = true then _ else _) = _
          rw [hy, if_neg Bool.false_ne_true]
end

theorem ints_are {vs : List Value} {is : List Int} (h : IntsAre vs is) : All2 IsInt vs is := by
  induction h <;> first | exact .nil | exact .cons ⟨_, rfl⟩ (by assumption)
/- k_head lays quick twins of the model's functions under these names where they are free; they are taken here, so that it goes on without the twins and the compiled file stays small -/
namespace fin
theorem tw17717364068325071970 : True := trivial
theorem tw14578271805448956485 : True := trivial
theorem tw14728723275428758510 : True := trivial
theorem tw12669758225909598566 : True := trivial
theorem tw15815952407149668801 : True := trivial
theorem tw2976117146107443816 : True := trivial
theorem tw7716820226725407877 : True := trivial
theorem tw14245171486683049214 : True := trivial
theorem tw612862322836996645 : True := trivial
theorem tw2415902012162501839 : True := trivial
theorem tw15688172546075569117 : True := trivial
theorem tw18387650150990424433 : True := trivial
theorem tw6127190174262240918 : True := trivial
theorem tw855585454354188119 : True := trivial
theorem tw6515953530934532768 : True := trivial
theorem tw7976502392129159676 : True := trivial
theorem tw6634307039904815820 : True := trivial
theorem tw10875463905939285979 : True := trivial
theorem tw3810570522144960214 : True := trivial
theorem tw11151619158091525091 : True := trivial
theorem tw7613857476909055813 : True := trivial
theorem tw480829909506669009 : True := trivial
theorem tw11615019562542576733 : True := trivial
theorem tw9806666330580929782 : True := trivial
theorem tw8018989035897545986 : True := trivial
theorem tw5486226609284752418 : True := trivial
theorem tw17416127249078093707 : True := trivial
theorem tw11953781441336167498 : True := trivial
theorem tw18295790063311454060 : True := trivial
theorem tw6712194924023145494 : True := trivial
theorem tw14166196953294261902 : True := trivial
theorem tw11039862389202566683 : True := trivial
theorem tw11040825799340251285 : True := trivial
theorem tw15404779385268061136 : True := trivial
theorem tw5102460946473063141 : True := trivial
theorem tw6766580051018981234 : True := trivial
theorem tw4868334931027891882 : True := trivial
theorem tw2824846461999071874 : True := trivial
theorem tw17861066769153400444 : True := trivial
theorem tw13467322939085005891 : True := trivial
theorem tw8590288500278120515 : True := trivial
theorem tw16307707646766795581 : True := trivial
theorem tw6766378078585498003 : True := trivial
theorem tw4326780796455107134 : True := trivial
theorem tw13162651487661262736 : True := trivial
theorem tw10936777179133785780 : True := trivial
theorem tw2512408688544751470 : True := trivial
theorem tw16252508478716706905 : True := trivial
theorem tw8577089030196625639 : True := trivial
theorem tw4898026214463823928 : True := trivial
theorem tw7779959011674639804 : True := trivial
theorem tw4769821431679368130 : True := trivial
theorem tw7661832156752021035 : True := trivial
theorem tw10383673109516279431 : True := trivial
theorem tw16285329926789087883 : True := trivial
theorem tw5098551885099359569 : True := trivial
theorem tw15675102808854859970 : True := trivial
theorem tw783483362715066742 : True := trivial
theorem tw2367325634123391141 : True := trivial
theorem tw16570786720924097770 : True := trivial
theorem tw2086631506510373192 : True := trivial
theorem tw12448240930570709186 : True := trivial
theorem tw10907391636593693970 : True := trivial
theorem tw17784850919643140607 : True := trivial
theorem tw12557769604369416430 : True := trivial
theorem tw16906536467411238026 : True := trivial
theorem tw4171678462856256454 : True := trivial
theorem tw9001875181463519149 : True := trivial
theorem tw10147658903529517814 : True := trivial
theorem tw888132650186811988 : True := trivial
theorem tw10580198807604790814 : True := trivial
theorem tw14345562132136545540 : True := trivial
theorem tw8569027658895312972 : True := trivial
theorem tw16103849850496634939 : True := trivial
theorem tw5678346346211369953 : True := trivial
theorem tw13177410634674063896 : True := trivial
theorem tw4218790737952374519 : True := trivial
theorem tw12135189313929291683 : True := trivial
theorem tw17449020081951674710 : True := trivial
theorem tw8269367382603917829 : True := trivial
theorem tw15989303212955285315 : True := trivial
theorem tw884059145510264010 : True := trivial
theorem tw13790858721211988464 : True := trivial
theorem tw14574801432027512755 : True := trivial
theorem tw2910385600587045654 : True := trivial
theorem tw15741700470354863883 : True := trivial
theorem tw4768634762848416435 : True := trivial
theorem tw12291753297600562012 : True := trivial
theorem tw891787732878383699 : True := trivial
theorem tw15566928917628492161 : True := trivial
theorem tw5796354222422608987 : True := trivial
theorem tw17963964198891936676 : True := trivial
theorem tw3456623496861543869 : True := trivial
theorem tw5293390819737331289 : True := trivial
theorem tw999798209818781672 : True := trivial
theorem tw7631780822429057808 : True := trivial
theorem tw13093503161671486093 : True := trivial
theorem tw12494888245299231016 : True := trivial
theorem tw9218923581257491847 : True := trivial
theorem tw17570709534508481193 : True := trivial
theorem tw1535588207084551279 : True := trivial
theorem tw3683778510129048087 : True := trivial
theorem tw5071919506433949198 : True := trivial
theorem tw13021059552284102479 : True := trivial
theorem tw1252854909445205041 : True := trivial
theorem tw6381419901266130222 : True := trivial
theorem tw13360279666012451719 : True := trivial
theorem tw7470013935711676318 : True := trivial
theorem tw3029852977388229646 : True := trivial
theorem tw6435670951450185984 : True := trivial
theorem tw16530489862217454893 : True := trivial
theorem tw15533503492667675913 : True := trivial
theorem tw12550770813317053977 : True := trivial
theorem tw895571856199123645 : True := trivial
theorem tw5734618986648460908 : True := trivial
theorem tw17974384156558142227 : True := trivial
theorem tw6707113841082798463 : True := trivial
theorem tw1887099378405440850 : True := trivial
theorem tw11575174756993882273 : True := trivial
theorem tw15564276425815640635 : True := trivial
theorem tw9387745189664136937 : True := trivial
theorem tw8025084765662995669 : True := trivial
theorem tw2775396313129547428 : True := trivial
theorem tw17971676594858020690 : True := trivial
theorem tw18230178534529381785 : True := trivial
theorem tw15832999045522443761 : True := trivial
theorem tw6454446336052903152 : True := trivial
theorem tw9997704412844104603 : True := trivial
theorem tw17637551073024348614 : True := trivial
theorem tw12946824338688289833 : True := trivial
theorem tw13724452099449386491 : True := trivial
theorem tw17869975865946814897 : True := trivial
theorem tw12212933522069011988 : True := trivial
theorem tw3998398428148030388 : True := trivial
theorem tw251868834278440796 : True := trivial
theorem tw807531904560671035 : True := trivial
theorem tw17260493314774615805 : True := trivial
theorem tw10671828304227620169 : True := trivial
theorem tw10242451874928486539 : True := trivial
theorem tw2305881189932309285 : True := trivial
theorem tw7522001649326652513 : True := trivial
theorem tw10925335251469727208 : True := trivial
theorem tw8383268338085895543 : True := trivial
theorem tw6567050819087999508 : True := trivial
theorem tw3837020019201816242 : True := trivial
theorem tw12355744275394475900 : True := trivial
theorem tw13337293482115323266 : True := trivial
theorem tw17933470926392208243 : True := trivial
theorem tw3343445320678177929 : True := trivial
theorem tw3222278782482380304 : True := trivial
theorem tw12996517811204074000 : True := trivial
theorem tw3028926083550364057 : True := trivial
theorem tw11192643925408225281 : True := trivial
theorem tw8668149382578428375 : True := trivial
theorem tw9725021084223525626 : True := trivial
theorem tw5402249366112354979 : True := trivial
theorem tw5314240237804914589 : True := trivial
theorem tw1397303283331804279 : True := trivial
theorem tw17964347774009883667 : True := trivial
theorem tw1635022588487117616 : True := trivial
theorem tw9610726530385051774 : True := trivial
theorem tw16269368082590959529 : True := trivial
theorem tw11154830654865731599 : True := trivial
theorem tw4209717502836232480 : True := trivial
theorem tw17067295170570645592 : True := trivial
theorem tw14210890002308233579 : True := trivial
theorem tw12105171945263650130 : True := trivial
theorem tw1422313219903470601 : True := trivial
theorem tw12409915417874342407 : True := trivial
theorem tw6388184931127306564 : True := trivial
theorem tw7930893340574950883 : True := trivial
theorem tw15344004072050561172 : True := trivial
theorem tw17698704350827878285 : True := trivial
theorem tw4950403968356008110 : True := trivial
theorem tw10829458402184033698 : True := trivial
theorem tw17430205856086898164 : True := trivial
theorem tw14517287926952318261 : True := trivial
theorem tw14347400895652799225 : True := trivial
theorem tw16175276709679454751 : True := trivial
theorem tw670465573061467203 : True := trivial
theorem tw12876116671307685997 : True := trivial
theorem tw16115155874713506467 : True := trivial
theorem tw4928979718650693569 : True := trivial
theorem tw11466478281803324712 : True := trivial
theorem tw16510490156224867327 : True := trivial
theorem tw1819255440876223710 : True := trivial
theorem tw4788878847521262168 : True := trivial
theorem tw15309079848183770524 : True := trivial
theorem tw2321816554428607280 : True := trivial
theorem tw12180539936304867106 : True := trivial
theorem tw15373703851562958014 : True := trivial
theorem tw10329872625359487480 : True := trivial
theorem tw17407121136558984578 : True := trivial
theorem tw3199103547748192838 : True := trivial
theorem tw14431720936831517352 : True := trivial
theorem tw846297522682114974 : True := trivial
theorem tw6449190631224713292 : True := trivial
theorem tw10567028658651823492 : True := trivial
theorem tw1666694428299288667 : True := trivial
theorem tw2462912638960843985 : True := trivial
theorem tw16109372258727991565 : True := trivial
theorem tw744865244796547220 : True := trivial
theorem tw6531376189190222733 : True := trivial
theorem tw333583748066197110 : True := trivial
theorem tw5073790198343104882 : True := trivial
theorem tw7684487725183542926 : True := trivial
theorem tw18195182924450695511 : True := trivial
theorem tw3112429581023547943 : True := trivial
theorem tw7890596953891613788 : True := trivial
theorem tw1951045429614898598 : True := trivial
theorem tw11273041486466551846 : True := trivial
theorem tw452842511749404161 : True := trivial
theorem tw3004984022683251337 : True := trivial
theorem tw5901363791540438844 : True := trivial
theorem tw14075178694198228753 : True := trivial
theorem tw17041991840579044601 : True := trivial
theorem tw18373065035072037172 : True := trivial
theorem tw14560573928864763818 : True := trivial
theorem tw1976505206021243879 : True := trivial
theorem tw16256441300576474876 : True := trivial
theorem tw7451905468542833597 : True := trivial
theorem tw5776136370200156792 : True := trivial
theorem tw10807920368746810246 : True := trivial
theorem tw1921391257341544841 : True := trivial
theorem tw10391319463526535247 : True := trivial
theorem tw17896612028031085017 : True := trivial
theorem tw8416529770105884409 : True := trivial
theorem tw7321584467024264148 : True := trivial
theorem tw10196768644732416780 : True := trivial
theorem tw17123178472405020103 : True := trivial
theorem tw216489041496292469 : True := trivial
theorem tw3810338749695602999 : True := trivial
theorem tw9722632081671974098 : True := trivial
theorem tw15205425988870721313 : True := trivial
theorem tw12962497063298326498 : True := trivial
theorem tw9746901515087519452 : True := trivial
theorem tw13929302177132474383 : True := trivial
theorem tw11079828417688620724 : True := trivial
theorem tw13066358836101814915 : True := trivial
theorem tw2236755162388048479 : True := trivial
theorem tw12567809125941998234 : True := trivial
theorem tw544173102793226557 : True := trivial
theorem tw13814004702073501669 : True := trivial
theorem tw5962627729488381771 : True := trivial
theorem tw1080700006314346644 : True := trivial
theorem tw6144012678527597917 : True := trivial
theorem tw12740692763255036000 : True := trivial
theorem tw12711679700452659978 : True := trivial
theorem tw2304379251839397102 : True := trivial
theorem tw17821466097196317003 : True := trivial
theorem tw13294311002278339166 : True := trivial
theorem tw5011121235533021005 : True := trivial
theorem tw8352470293576582857 : True := trivial
theorem tw11061592194353771069 : True := trivial
theorem tw11454252539852477091 : True := trivial
theorem tw3459265974087741279 : True := trivial
theorem tw6956187926921108005 : True := trivial
theorem tw9913140749668108558 : True := trivial
theorem tw7380833856163905736 : True := trivial
theorem tw5647864574477489665 : True := trivial
theorem tw18330652542560668889 : True := trivial
theorem tw4570111826955561243 : True := trivial
theorem tw17801579834951734752 : True := trivial
theorem tw17656766251404061198 : True := trivial
theorem tw2030070087189672399 : True := trivial
theorem tw8919302590299486024 : True := trivial
theorem tw16934629359412608497 : True := trivial
theorem tw6650461044873433052 : True := trivial
theorem tw8399098705505230059 : True := trivial
theorem tw4754365596532378047 : True := trivial
theorem tw7055459427971326715 : True := trivial
theorem tw7675655780812522254 : True := trivial
theorem tw11897717083992391400 : True := trivial
theorem tw3762306804915933987 : True := trivial
theorem tw1625080806587739848 : True := trivial
theorem tw14333544728242365436 : True := trivial
theorem tw12118000046449163591 : True := trivial
theorem tw9746214513668125432 : True := trivial
theorem tw16237762584071213788 : True := trivial
theorem tw3404873503106905745 : True := trivial
theorem tw9260378047223084069 : True := trivial
theorem tw7547296005191728479 : True := trivial
theorem tw3105451386036433885 : True := trivial
theorem tw18255404467826089762 : True := trivial
theorem tw6081921254191324426 : True := trivial
theorem tw4924110625330727750 : True := trivial
theorem tw12876064707754696378 : True := trivial
theorem tw428092273266315144 : True := trivial
theorem tw6323506392446703087 : True := trivial
theorem tw16401934584784274106 : True := trivial
theorem tw2656788454239962097 : True := trivial
theorem tw10070804522480449196 : True := trivial
theorem tw6566618420281934 : True := trivial
theorem tw8135384322697869596 : True := trivial
theorem tw14497727239971306367 : True := trivial
theorem tw13199158710529813207 : True := trivial
theorem tw3598329298470268980 : True := trivial
theorem tw7845872953664198349 : True := trivial
theorem tw7830629276484211593 : True := trivial
theorem tw5320702786494000081 : True := trivial
theorem tw3812028171767442716 : True := trivial
theorem tw6207176494656529804 : True := trivial
theorem tw9363291351745731410 : True := trivial
theorem tw11336253725339858928 : True := trivial
theorem tw16502652511500755 : True := trivial
theorem tw15149952090015108872 : True := trivial
theorem tw4265850918314828415 : True := trivial
theorem tw12464766053444552404 : True := trivial
theorem tw14568449535678555946 : True := trivial
theorem tw3506512066687448480 : True := trivial
theorem tw13516622038369049944 : True := trivial
theorem tw13383306551100868464 : True := trivial
theorem tw7929640520542984453 : True := trivial
theorem tw8947099994592609211 : True := trivial
theorem tw6498334528663615478 : True := trivial
theorem tw15201286185872193147 : True := trivial
theorem tw8643116662766533202 : True := trivial
theorem tw6455845175183424153 : True := trivial
theorem tw14856888987745899463 : True := trivial
theorem tw12304228606943202825 : True := trivial
theorem tw7282745182861764756 : True := trivial
theorem tw18105285910621931680 : True := trivial
theorem tw14109310954907245088 : True := trivial
theorem tw10511823565363050587 : True := trivial
theorem tw12751662967071866640 : True := trivial
theorem tw4879674094562380441 : True := trivial
theorem tw4170516301191304579 : True := trivial
theorem tw12310189802903077762 : True := trivial
theorem tw12771476991046638928 : True := trivial
theorem tw8330952907988395303 : True := trivial
theorem tw17743408960866722510 : True := trivial
theorem tw14814673180317915700 : True := trivial
theorem tw9247658263007524724 : True := trivial
theorem tw4878226113927451544 : True := trivial
theorem tw1012361349325877821 : True := trivial
theorem tw8281523328739849912 : True := trivial
theorem tw7613945582906998725 : True := trivial
theorem tw4162185377826839926 : True := trivial
theorem tw7000300075881102575 : True := trivial
theorem tw9544026089342320630 : True := trivial
theorem tw2537931557510868981 : True := trivial
theorem tw15399907426655090358 : True := trivial
theorem tw4312942655851389009 : True := trivial
theorem tw13925877587632400325 : True := trivial
theorem tw8559517257967667466 : True := trivial
theorem tw5115476493328737885 : True := trivial
theorem tw12237877928780879103 : True := trivial
theorem tw982560976839675504 : True := trivial
theorem tw13870153662132920491 : True := trivial
theorem tw3314143786362844604 : True := trivial
theorem tw4040260094072895976 : True := trivial
theorem tw17197158672614542318 : True := trivial
theorem tw6667815254911646788 : True := trivial
theorem tw16275787546110486726 : True := trivial
theorem tw12649782002744950493 : True := trivial
theorem tw14838103818555229697 : True := trivial
theorem tw17204297501091165112 : True := trivial
theorem tw5805905742469029177 : True := trivial
theorem tw13423622936843584764 : True := trivial
theorem tw10599938827571368224 : True := trivial
theorem tw16229209127682248589 : True := trivial
theorem tw18082680734076937219 : True := trivial
theorem tw12696600883282566439 : True := trivial
theorem tw16496857829328116044 : True := trivial
theorem tw12149302876761508202 : True := trivial
theorem tw17719728818120068181 : True := trivial
theorem tw6058378993454661626 : True := trivial
theorem tw7803649310394182010 : True := trivial
theorem tw16958243865122950064 : True := trivial
theorem tw4588413851689716618 : True := trivial
theorem tw15459455144867644326 : True := trivial
theorem tw18332788446254602437 : True := trivial
theorem tw15583698165555649274 : True := trivial
end fin
set_option Elab.async true
theorem fin : PySem.Challenge.rw_nz0091_01.Holds := by
  w_on; o_law; k_head; (case hw => w_witness2)
  w_strict (k_fill
            intro w s₀ s₁ mg mb G Y fa o pm cd doc dV kV ho hd hcd hD hmg hg args vals as hpre hlay hrd hwl hlo
            have KX := kIn_of Y
            refine Ground.open G ?_
            intro T B D TE TW
            clear D
            have e330 : fa = 330 := by
              have e1 := mg_of (n := "law") (v := .ref 330) (show (K0 w.params).In _ from KX) T.g (by k_is)
              rw [show mg "law" = some (.ref fa) from hmg] at e1
              exact Value.ref.inj (Option.some.inj e1)
            subst e330
            clear hcd hD hmg ho hd
            wrow_args hpre hlay hrd hwl hlo
            (first | refine callC_kw (enter_call ?_) | refine enter_call ?_ | refine callC_kw (enter_callW ?_) | refine enter_callW ?_)
            try refine codeAny_mono ?_ (fun _ _ g => GoodW.toG g)
            rename IntsAre _ _ => hI
            rename Heap.IsList _ _ _ => hL
            obtain ⟨g, gn, dr, tok, os⟩ := s₁
            refine law_spec (show (K0 w.params).In _ from KX) (show Top q0 _ _ _ _ _ from T) hL (ints_are hI) ?_ ?_
            · have := hI.length; omega
            · intro h' tk' hst
              dsimp only at hg
              subst hg
              refine ⟨.inl ⟨_, ofPy (.bool true), [], rfl, fun cls => ?zr, readsW_of_reads ?zx, ?zp, ?zu⟩, fun b o => hst b o, rfl, rfl⟩
              case zr => rfl
              case zx => exact .bool true
              case zp =>
                first
                  | exact postW_of (by wrow_shape) (by wtm_val) (by str_meet; first | done | w_fin)
                  | exact postW_of (X := true) rfl rfl rfl
                  | exact postW_of (X := true) (by decide) (by simp [WTm.value]) rfl
              case zu => exact fun _ => ⟨List.nodup_nil, fun _ h => nomatch h⟩)
set_option Elab.async false
end Mine
theorem PySem.Challenge.cw_nz0091_01_holds : PySem.Challenge.rw_nz0091_01.Holds :=
  Mine.fin
