import PyProof.Rows.All
import Wide.All
import OpenK.AllK
import Wide.FinOn
import Lean
import PySem.Challenge.RW_nt0608_01
/- the statement nt0608-01: weakest preconditions for what the text uses, their soundness against the model, the law in them, the join -/
set_option Elab.async false
set_option linter.unusedVariables false
set_option linter.unusedSimpArgs false
section
open PySem PySem.W PyProof.Rows
set_option maxRecDepth 100000
namespace Mine

/-- values -/
inductive AV where
  | none | bool (b : Bool) | int (i : Int) | str (s : String) | ref (i : Nat) | tup (vs : List AV) | sl (xs : List Int) | rng (n : Int)

inductive AO where
  | list (xs : List AV)
  | dict (kvs : List (Int × AV))
  | fields (fs : List (String × AV))
  | inst (cls : String) (d : Nat)

noncomputable abbrev AH := List AO
noncomputable abbrev AE := List (String × AV)

inductive Op where | Add | Sub | Mult | FloorDiv | Mod
noncomputable def Op.isSub : Op → Bool | .Sub => true | _ => false
inductive Cm where | Eq | NotEq | Lt | Gt | In | NotIn

mutual
inductive ME where
  | absent
  | int (i : Int) | str (s : String) | bool (b : Bool)
  | var (x : String)
  | attr (o : ME) (f : String)
  | sub (o i : ME)
  | slice (o lo hi : ME)
  | bin (op : Op) (a b : ME)
  | neg (a : ME)
  | not (a : ME)
  | cmp (op : Cm) (a b : ME)
  | and (es : MEs) | or (es : MEs)
  | ite (t a b : ME)
  | tup (es : MEs) | lst (es : MEs)
  | dict0 | dict1 (k v : ME)
  | call (f : String) (args : MEs)
  | meth (o : ME) (f : String) (args : MEs)
  | comp (elt : ME) (x : String) (src cond : ME) (frees : List String)
inductive MEs where
  | nil | cons (e : ME) (r : MEs)
end

mutual
inductive MS where
  | assign (x : String) (e : ME)
  | unpack (xs : List String) (e : ME)
  | setattr (o : ME) (f : String) (e : ME)
  | setsub (o i e : ME)
  | aug (x : String) (op : Op) (e : ME)
  | expr (e : ME)
  | ret (e : ME) | retNone
  | ifs (t : ME) (a b : MSs)
  | while (t : ME) (body : MSs)
  | for (x : String) (src : ME) (body : MSs)
  | stuck
inductive MSs where
  | nil | cons (s : MS) (r : MSs)
end

structure Fn where
  params : List String
  dflts : List AV
  body : MSs

noncomputable def f_is_table_part : Fn := { params := ["name"], dflts := [], body :=
  (.cons (.ret (.cmp .In (.var "name") (.tup (.cons (.str "table") (.cons (.str "tbody") (.cons (.str "tfoot") (.cons (.str "thead") (.cons (.str "tr") .nil)))))))) .nil) }
noncomputable def f_foster_place : Fn := { params := ["builder"], dflts := [], body :=
  (.cons (.assign "tree" (.attr (.var "builder") "tree")) (.cons (.assign "items" (.attr (.attr (.var "builder") "stack") "items")) (.cons (.assign "at" (.bin .Sub (.call "len" (.cons (.var "items") .nil)) (.int 1))) (.cons (.while (.and (.cons (.cmp .Gt (.var "at") (.int 0)) (.cons (.not (.meth (.var "tree") "is_html" (.cons (.sub (.var "items") (.var "at")) (.cons (.str "table") .nil)))) (.cons (.not (.meth (.var "tree") "is_html" (.cons (.sub (.var "items") (.var "at")) (.cons (.str "template") .nil)))) .nil)))) (.cons (.aug "at" .Sub (.int 1)) .nil)) (.cons (.assign "node" (.sub (.var "items") (.var "at"))) (.cons (.ifs (.not (.meth (.var "tree") "is_html" (.cons (.var "node") (.cons (.str "table") .nil)))) (.cons (.ret (.tup (.cons (.var "node") (.cons (.neg (.int 1)) .nil)))) .nil) .nil) (.cons (.ifs (.cmp .NotEq (.sub (.attr (.var "tree") "parents") (.var "node")) (.neg (.int 1))) (.cons (.ret (.tup (.cons (.sub (.attr (.var "tree") "parents") (.var "node")) (.cons (.var "node") .nil)))) .nil) .nil) (.cons (.ifs (.cmp .Gt (.var "at") (.int 0)) (.cons (.assign "node" (.sub (.var "items") (.bin .Sub (.var "at") (.int 1)))) .nil) .nil) (.cons (.ret (.tup (.cons (.var "node") (.cons (.neg (.int 1)) .nil)))) .nil))))))))) }
noncomputable def f_place_for : Fn := { params := ["builder", "target"], dflts := [.int (-1)], body :=
  (.cons (.assign "tree" (.attr (.var "builder") "tree")) (.cons (.assign "here" (.var "target")) (.cons (.ifs (.cmp .Eq (.var "here") (.neg (.int 1))) (.cons (.assign "here" (.meth (.attr (.var "builder") "stack") "current" .nil)) .nil) .nil) (.cons (.ifs (.cmp .Eq (.var "here") (.neg (.int 1))) (.cons (.ret (.tup (.cons (.int 0) (.cons (.neg (.int 1)) .nil)))) .nil) .nil) (.cons (.assign "before" (.neg (.int 1))) (.cons (.ifs (.and (.cons (.attr (.var "builder") "is_foster") (.cons (.cmp .Eq (.sub (.attr (.var "tree") "spaces") (.var "here")) (.str "html")) (.cons (.call "is_table_part" (.cons (.sub (.attr (.var "tree") "names") (.var "here")) .nil)) .nil)))) (.cons (.unpack ["here", "before"] (.call "foster_place" (.cons (.var "builder") .nil))) .nil) .nil) (.cons (.ifs (.cmp .In (.var "here") (.attr (.var "tree") "contents")) (.cons (.ret (.tup (.cons (.sub (.attr (.var "tree") "contents") (.var "here")) (.cons (.neg (.int 1)) .nil)))) .nil) .nil) (.cons (.ret (.tup (.cons (.var "here") (.cons (.var "before") .nil)))) .nil)))))))) }
noncomputable def f_insert_sign : Fn := { params := ["builder", "sign"], dflts := [], body :=
  (.cons (.assign "tree" (.attr (.var "builder") "tree")) (.cons (.unpack ["parent", "before"] (.call "place_for" (.cons (.var "builder") .nil))) (.cons (.ifs (.cmp .Eq (.sub (.attr (.var "tree") "kinds") (.var "parent")) (.str "document")) (.cons .retNone .nil) .nil) (.cons (.assign "ahead" (.meth (.var "tree") "last" (.cons (.var "parent") .nil))) (.cons (.ifs (.cmp .NotEq (.var "before") (.neg (.int 1))) (.cons (.assign "at" (.meth (.var "tree") "place" (.cons (.var "before") .nil))) (.cons (.assign "ahead" (.neg (.int 1))) (.cons (.ifs (.cmp .Gt (.var "at") (.int 0)) (.cons (.assign "ahead" (.sub (.sub (.attr (.var "tree") "children") (.var "parent")) (.bin .Sub (.var "at") (.int 1)))) .nil) .nil) .nil))) .nil) (.cons (.ifs (.and (.cons (.cmp .NotEq (.var "ahead") (.neg (.int 1))) (.cons (.cmp .Eq (.sub (.attr (.var "tree") "kinds") (.var "ahead")) (.str "text")) .nil))) (.cons (.setsub (.attr (.var "tree") "texts") (.var "ahead") (.bin .Add (.sub (.attr (.var "tree") "texts") (.var "ahead")) (.var "sign"))) .nil) (.cons (.expr (.meth (.var "tree") "insert" (.cons (.var "parent") (.cons (.meth (.var "tree") "text" (.cons (.var "sign") .nil)) (.cons (.var "before") .nil))))) .nil)) .nil)))))) }
noncomputable def f_insert_comment : Fn := { params := ["builder", "text", "parent"], dflts := [.int (-1)], body :=
  (.cons (.assign "before" (.neg (.int 1))) (.cons (.ifs (.cmp .Eq (.var "parent") (.neg (.int 1))) (.cons (.unpack ["parent", "before"] (.call "place_for" (.cons (.var "builder") .nil))) .nil) .nil) (.cons (.expr (.meth (.attr (.var "builder") "tree") "insert" (.cons (.var "parent") (.cons (.meth (.attr (.var "builder") "tree") "comment" (.cons (.var "text") .nil)) (.cons (.var "before") .nil))))) .nil))) }
noncomputable def f_Formatting_init : Fn := { params := ["self", "tree"], dflts := [], body :=
  (.cons (.setattr (.var "self") "tree" (.var "tree")) (.cons (.setattr (.var "self") "items" (.lst .nil)) .nil)) }
noncomputable def f_OpenStack_init : Fn := { params := ["self", "tree"], dflts := [], body :=
  (.cons (.setattr (.var "self") "tree" (.var "tree")) (.cons (.setattr (.var "self") "items" (.lst .nil)) .nil)) }
noncomputable def f_OpenStack_push : Fn := { params := ["self", "node"], dflts := [], body :=
  (.cons (.expr (.meth (.attr (.var "self") "items") "append" (.cons (.var "node") .nil))) .nil) }
noncomputable def f_OpenStack_current : Fn := { params := ["self"], dflts := [], body :=
  (.cons (.ifs (.cmp .Eq (.call "len" (.cons (.attr (.var "self") "items") .nil)) (.int 0)) (.cons (.ret (.neg (.int 1))) .nil) .nil) (.cons (.ret (.sub (.attr (.var "self") "items") (.bin .Sub (.call "len" (.cons (.attr (.var "self") "items") .nil)) (.int 1)))) .nil)) }
noncomputable def f_Tree_init : Fn := { params := ["self"], dflts := [], body :=
  (.cons (.setattr (.var "self") "kinds" (.lst .nil)) (.cons (.setattr (.var "self") "spaces" (.lst .nil)) (.cons (.setattr (.var "self") "names" (.lst .nil)) (.cons (.setattr (.var "self") "attrs" (.lst .nil)) (.cons (.setattr (.var "self") "texts" (.lst .nil)) (.cons (.setattr (.var "self") "parents" (.lst .nil)) (.cons (.setattr (.var "self") "children" (.lst .nil)) (.cons (.setattr (.var "self") "contents" .dict0) (.cons (.expr (.meth (.var "self") "add" (.cons (.str "document") .nil))) .nil))))))))) }
noncomputable def f_Tree_add : Fn := { params := ["self", "kind", "space", "name", "attrs", "text"], dflts := [.str "", .str "", .tup [], .str ""], body :=
  (.cons (.expr (.meth (.attr (.var "self") "kinds") "append" (.cons (.var "kind") .nil))) (.cons (.expr (.meth (.attr (.var "self") "spaces") "append" (.cons (.var "space") .nil))) (.cons (.expr (.meth (.attr (.var "self") "names") "append" (.cons (.var "name") .nil))) (.cons (.expr (.meth (.attr (.var "self") "attrs") "append" (.cons (.call "list" (.cons (.var "attrs") .nil)) .nil))) (.cons (.expr (.meth (.attr (.var "self") "texts") "append" (.cons (.var "text") .nil))) (.cons (.expr (.meth (.attr (.var "self") "parents") "append" (.cons (.neg (.int 1)) .nil))) (.cons (.expr (.meth (.attr (.var "self") "children") "append" (.cons (.lst .nil) .nil))) (.cons (.ret (.bin .Sub (.call "len" (.cons (.attr (.var "self") "kinds") .nil)) (.int 1))) .nil)))))))) }
noncomputable def f_Tree_element : Fn := { params := ["self", "name", "space", "attrs"], dflts := [.str "html", .tup []], body :=
  (.cons (.assign "node" (.meth (.var "self") "add" (.cons (.str "element") (.cons (.var "space") (.cons (.var "name") (.cons (.var "attrs") .nil)))))) (.cons (.ifs (.and (.cons (.cmp .Eq (.var "space") (.str "html")) (.cons (.cmp .Eq (.var "name") (.str "template")) .nil))) (.cons (.setsub (.attr (.var "self") "contents") (.var "node") (.meth (.var "self") "add" (.cons (.str "fragment") .nil))) .nil) .nil) (.cons (.ret (.var "node")) .nil))) }
noncomputable def f_Tree_text : Fn := { params := ["self", "text"], dflts := [], body :=
  (.cons (.ret (.meth (.var "self") "add" (.cons (.str "text") (.cons (.str "") (.cons (.str "") (.cons (.tup .nil) (.cons (.var "text") .nil))))))) .nil) }
noncomputable def f_Tree_comment : Fn := { params := ["self", "text"], dflts := [], body :=
  (.cons (.ret (.meth (.var "self") "add" (.cons (.str "comment") (.cons (.str "") (.cons (.str "") (.cons (.tup .nil) (.cons (.var "text") .nil))))))) .nil) }
noncomputable def f_Tree_insert : Fn := { params := ["self", "parent", "node", "before"], dflts := [.int (-1)], body :=
  (.cons (.ifs (.or (.cons (.cmp .Eq (.var "node") (.var "parent")) (.cons (.cmp .In (.var "node") (.call "above" (.cons (.var "self") (.cons (.var "parent") .nil)))) .nil))) (.cons .stuck .nil) .nil) (.cons (.ifs (.and (.cons (.cmp .NotEq (.var "before") (.neg (.int 1))) (.cons (.cmp .NotIn (.var "before") (.sub (.attr (.var "self") "children") (.var "parent"))) .nil))) (.cons .stuck .nil) .nil) (.cons (.ifs (.cmp .Eq (.var "before") (.var "node")) (.cons .retNone .nil) .nil) (.cons (.expr (.meth (.var "self") "remove" (.cons (.var "node") .nil))) (.cons (.assign "at" (.call "len" (.cons (.sub (.attr (.var "self") "children") (.var "parent")) .nil))) (.cons (.ifs (.cmp .NotEq (.var "before") (.neg (.int 1))) (.cons (.assign "at" (.meth (.sub (.attr (.var "self") "children") (.var "parent")) "index" (.cons (.var "before") .nil))) .nil) .nil) (.cons (.expr (.meth (.sub (.attr (.var "self") "children") (.var "parent")) "insert" (.cons (.var "at") (.cons (.var "node") .nil)))) (.cons (.setsub (.attr (.var "self") "parents") (.var "node") (.var "parent")) .nil)))))))) }
noncomputable def f_Tree_append : Fn := { params := ["self", "parent", "node"], dflts := [], body :=
  (.cons (.expr (.meth (.var "self") "insert" (.cons (.var "parent") (.cons (.var "node") .nil)))) .nil) }
noncomputable def f_Tree_remove : Fn := { params := ["self", "node"], dflts := [], body :=
  (.cons (.ifs (.cmp .NotEq (.sub (.attr (.var "self") "parents") (.var "node")) (.neg (.int 1))) (.cons (.expr (.meth (.sub (.attr (.var "self") "children") (.sub (.attr (.var "self") "parents") (.var "node"))) "remove" (.cons (.var "node") .nil))) (.cons (.setsub (.attr (.var "self") "parents") (.var "node") (.neg (.int 1))) .nil)) .nil) .nil) }
noncomputable def f_Tree_place : Fn := { params := ["self", "node"], dflts := [], body :=
  (.cons (.ifs (.cmp .Eq (.sub (.attr (.var "self") "parents") (.var "node")) (.neg (.int 1))) (.cons (.ret (.neg (.int 1))) .nil) .nil) (.cons (.ret (.meth (.sub (.attr (.var "self") "children") (.sub (.attr (.var "self") "parents") (.var "node"))) "index" (.cons (.var "node") .nil))) .nil)) }
noncomputable def f_Tree_last : Fn := { params := ["self", "parent"], dflts := [], body :=
  (.cons (.ifs (.not (.sub (.attr (.var "self") "children") (.var "parent"))) (.cons (.ret (.neg (.int 1))) .nil) .nil) (.cons (.ret (.sub (.sub (.attr (.var "self") "children") (.var "parent")) (.neg (.int 1)))) .nil)) }
noncomputable def f_Tree_is_html : Fn := { params := ["self", "node", "name"], dflts := [], body :=
  (.cons (.ret (.and (.cons (.cmp .NotEq (.var "node") (.neg (.int 1))) (.cons (.cmp .Eq (.sub (.attr (.var "self") "spaces") (.var "node")) (.str "html")) (.cons (.cmp .Eq (.sub (.attr (.var "self") "names") (.var "node")) (.var "name")) .nil))))) .nil) }
noncomputable def f_above : Fn := { params := ["tree", "node"], dflts := [], body :=
  (.cons (.assign "out" (.lst .nil)) (.cons (.assign "up" (.sub (.attr (.var "tree") "parents") (.var "node"))) (.cons (.while (.cmp .NotEq (.var "up") (.neg (.int 1))) (.cons (.expr (.meth (.var "out") "append" (.cons (.var "up") .nil))) (.cons (.assign "up" (.sub (.attr (.var "tree") "parents") (.var "up"))) .nil))) (.cons (.ret (.var "out")) .nil)))) }
noncomputable def f_Builder_init : Fn := { params := ["self", "rules", "is_scripting"], dflts := [.bool false], body :=
  (.cons (.setattr (.var "self") "rules" (.var "rules")) (.cons (.setattr (.var "self") "tree" (.call "Tree" .nil)) (.cons (.setattr (.var "self") "stack" (.call "OpenStack" (.cons (.attr (.var "self") "tree") .nil))) (.cons (.setattr (.var "self") "formatting" (.call "Formatting" (.cons (.attr (.var "self") "tree") .nil))) (.cons (.setattr (.var "self") "mode" (.str "initial")) (.cons (.setattr (.var "self") "original" (.str "")) (.cons (.setattr (.var "self") "modes" (.lst .nil)) (.cons (.setattr (.var "self") "head" (.neg (.int 1))) (.cons (.setattr (.var "self") "form" (.neg (.int 1))) (.cons (.setattr (.var "self") "owners" .dict0) (.cons (.setattr (.var "self") "is_frameset_ok" (.bool true)) (.cons (.setattr (.var "self") "is_scripting" (.var "is_scripting")) (.cons (.setattr (.var "self") "is_foster" (.bool false)) (.cons (.setattr (.var "self") "context" (.neg (.int 1))) (.cons (.setattr (.var "self") "quirks" (.str "no-quirks")) (.cons (.setattr (.var "self") "errors" (.lst .nil)) (.cons (.setattr (.var "self") "pending" (.lst .nil)) (.cons (.setattr (.var "self") "wish" (.str "")) (.cons (.setattr (.var "self") "is_skipping" (.bool false)) (.cons (.setattr (.var "self") "is_acknowledged" (.bool false)) (.cons (.setattr (.var "self") "is_done" (.bool false)) .nil))))))))))))))))))))) }
noncomputable def f_law_bases : Fn := { params := [], dflts := [], body :=
  (.cons (.ret (.tup (.cons (.tup (.cons (.int 5) (.cons (.int 66) (.cons (.int 8) (.cons (.int 2) (.cons (.int 9) (.cons (.int 0) .nil))))))) (.cons (.tup (.cons (.int 3) (.cons (.int 198) (.cons (.int 1) (.cons (.int 7) (.cons (.int 2) (.cons (.int 2) .nil))))))) (.cons (.tup (.cons (.int 22) (.cons (.int 4) (.cons (.int 6) (.cons (.int 10) (.cons (.int 1) (.cons (.int 0) .nil))))))) (.cons (.tup (.cons (.int 4) (.cons (.int 22) (.cons (.int 9) (.cons (.int 5) (.cons (.int 2) (.cons (.int 4) .nil))))))) (.cons (.tup (.cons (.int 5) (.cons (.int 6) (.cons (.int 1) (.cons (.int 3) (.cons (.int 8) (.cons (.int 0) .nil))))))) (.cons (.tup (.cons (.int 10) (.cons (.int 33) (.cons (.int 2) (.cons (.int 7) (.cons (.int 1) (.cons (.int 0) .nil))))))) (.cons (.tup (.cons (.int 4) (.cons (.int 55) (.cons (.int 1) (.cons (.int 5) (.cons (.int 2) (.cons (.int 1) .nil))))))) (.cons (.tup (.cons (.int 10) (.cons (.int 110) (.cons (.int 9) (.cons (.int 5) (.cons (.int 1) (.cons (.int 0) .nil))))))) .nil)))))))))) .nil) }
noncomputable def f_law_grow : Fn := { params := ["builder", "digit", "facts", "side"], dflts := [], body :=
  (.cons (.unpack ["line", "named", "ups", "wraps"] (.var "facts")) (.cons (.assign "tree" (.attr (.var "builder") "tree")) (.cons (.assign "which" (.bin .Mod (.var "digit") (.int 11))) (.cons (.assign "name" (.sub (.tup (.cons (.str "table") (.cons (.str "tbody") (.cons (.str "tr") (.cons (.str "td") (.cons (.str "template") (.cons (.str "div") (.cons (.str "table") (.cons (.str "tr") (.cons (.str "tfoot") (.cons (.str "thead") (.cons (.str "span") .nil)))))))))))) (.var "which"))) (.cons (.assign "node" (.meth (.var "tree") "element" (.cons (.var "name") (.cons (.ite (.cmp .In (.var "which") (.tup (.cons (.int 6) (.cons (.int 7) .nil)))) (.str "svg") (.str "html")) .nil)))) (.cons (.assign "up" (.meth (.var "wraps") "get" (.cons (.sub (.var "line") (.neg (.int 1))) (.cons (.sub (.var "line") (.neg (.int 1))) .nil)))) (.cons (.assign "way" (.bin .Mod (.bin .FloorDiv (.var "digit") (.int 11)) (.int 6))) (.cons (.ifs (.cmp .Gt (.var "way") (.int 1)) (.cons (.assign "up" (.sub (.tup (.cons (.neg (.int 1)) (.cons (.int 0) (.cons (.var "side") (.cons (.sub (.var "line") (.neg (.int 1))) .nil))))) (.bin .Sub (.var "way") (.int 2)))) .nil) .nil) (.cons (.ifs (.and (.cons (.cmp .Gt (.var "up") (.int 0)) (.cons (.cmp .Eq (.bin .Mod (.bin .FloorDiv (.var "digit") (.int 66)) (.int 3)) (.int 1)) .nil))) (.cons (.expr (.meth (.var "tree") "append" (.cons (.var "up") (.cons (.meth (.var "tree") "text" (.cons (.str "q") .nil)) .nil)))) .nil) .nil) (.cons (.ifs (.and (.cons (.cmp .Gt (.var "up") (.int 0)) (.cons (.cmp .Eq (.bin .Mod (.bin .FloorDiv (.var "digit") (.int 66)) (.int 3)) (.int 2)) .nil))) (.cons (.expr (.meth (.var "tree") "append" (.cons (.var "up") (.cons (.meth (.var "tree") "comment" (.cons (.str "c") .nil)) .nil)))) .nil) .nil) (.cons (.ifs (.cmp .NotEq (.var "up") (.neg (.int 1))) (.cons (.expr (.meth (.var "tree") "append" (.cons (.var "up") (.cons (.var "node") .nil)))) .nil) .nil) (.cons (.ifs (.and (.cons (.cmp .Gt (.var "up") (.int 0)) (.cons (.cmp .Eq (.bin .Mod (.bin .FloorDiv (.var "digit") (.int 198)) (.int 2)) (.int 1)) .nil))) (.cons (.expr (.meth (.var "tree") "append" (.cons (.var "up") (.cons (.meth (.var "tree") "text" (.cons (.str "r") .nil)) .nil)))) .nil) .nil) (.cons (.ifs (.cmp .Eq (.var "which") (.int 4)) (.cons (.setsub (.var "wraps") (.var "node") (.sub (.attr (.var "tree") "contents") (.var "node"))) .nil) .nil) (.cons (.expr (.meth (.attr (.var "builder") "stack") "push" (.cons (.var "node") .nil))) (.cons (.expr (.meth (.var "line") "append" (.cons (.var "node") .nil))) (.cons (.setsub (.var "named") (.var "node") (.ite (.cmp .In (.var "which") (.tup (.cons (.int 6) (.cons (.int 7) .nil)))) (.str "") (.var "name"))) (.cons (.setsub (.var "ups") (.var "node") (.var "up")) .nil))))))))))))))))) }
noncomputable def f_law_spot : Fn := { params := ["facts", "here", "foster"], dflts := [], body :=
  (.cons (.unpack ["line", "named", "ups", "wraps"] (.var "facts")) (.cons (.assign "spot" (.tup (.cons (.var "here") (.cons (.neg (.int 1)) .nil)))) (.cons (.ifs (.and (.cons (.var "foster") (.cons (.cmp .In (.sub (.var "named") (.var "here")) (.tup (.cons (.str "table") (.cons (.str "tbody") (.cons (.str "tfoot") (.cons (.str "thead") (.cons (.str "tr") .nil))))))) .nil))) (.cons (.assign "tables" (.comp (.var "k") "k" (.call "range" (.cons (.call "len" (.cons (.var "line") .nil)) .nil)) (.cmp .Eq (.sub (.var "named") (.sub (.var "line") (.var "k"))) (.str "table")) ["line", "named"])) (.cons (.assign "shells" (.comp (.var "k") "k" (.call "range" (.cons (.call "len" (.cons (.var "line") .nil)) .nil)) (.cmp .Eq (.sub (.var "named") (.sub (.var "line") (.var "k"))) (.str "template")) ["line", "named"])) (.cons (.ifs (.and (.cons (.cmp .Gt (.call "len" (.cons (.var "shells") .nil)) (.int 0)) (.cons (.or (.cons (.cmp .Eq (.call "len" (.cons (.var "tables") .nil)) (.int 0)) (.cons (.cmp .Gt (.sub (.var "shells") (.neg (.int 1))) (.sub (.var "tables") (.neg (.int 1)))) .nil))) .nil))) (.cons (.assign "spot" (.tup (.cons (.sub (.var "line") (.sub (.var "shells") (.neg (.int 1)))) (.cons (.neg (.int 1)) .nil)))) .nil) (.cons (.ifs (.cmp .Eq (.call "len" (.cons (.var "tables") .nil)) (.int 0)) (.cons (.assign "spot" (.tup (.cons (.sub (.var "line") (.int 0)) (.cons (.neg (.int 1)) .nil)))) .nil) (.cons (.ifs (.cmp .NotEq (.sub (.var "ups") (.sub (.var "line") (.sub (.var "tables") (.neg (.int 1))))) (.neg (.int 1))) (.cons (.assign "spot" (.tup (.cons (.sub (.var "ups") (.sub (.var "line") (.sub (.var "tables") (.neg (.int 1))))) (.cons (.sub (.var "line") (.sub (.var "tables") (.neg (.int 1)))) .nil)))) .nil) (.cons (.assign "spot" (.tup (.cons (.sub (.var "line") (.bin .Sub (.sub (.var "tables") (.neg (.int 1))) (.int 1))) (.cons (.neg (.int 1)) .nil)))) .nil)) .nil)) .nil)) .nil))) .nil) (.cons (.ifs (.cmp .In (.sub (.var "spot") (.int 0)) (.var "wraps")) (.cons (.ret (.tup (.cons (.sub (.var "wraps") (.sub (.var "spot") (.int 0))) (.cons (.neg (.int 1)) .nil)))) .nil) .nil) (.cons (.ret (.var "spot")) .nil))))) }
noncomputable def f_law_put : Fn := { params := ["kept", "spot", "kind", "text"], dflts := [], body :=
  (.cons (.unpack ["kinds", "texts", "parents", "children"] (.var "kept")) (.cons (.unpack ["here", "before"] (.var "spot")) (.cons (.assign "at" (.ite (.cmp .Eq (.var "before") (.neg (.int 1))) (.call "len" (.cons (.sub (.var "children") (.var "here")) .nil)) (.meth (.sub (.var "children") (.var "here")) "index" (.cons (.var "before") .nil)))) (.cons (.assign "ahead" (.slice (.sub (.var "children") (.var "here")) .absent (.var "at"))) (.cons (.ifs (.and (.cons (.cmp .Eq (.var "kind") (.str "text")) (.cons (.cmp .Eq (.var "here") (.int 0)) .nil))) (.cons .retNone .nil) .nil) (.cons (.ifs (.and (.cons (.cmp .Eq (.var "kind") (.str "text")) (.cons (.cmp .Eq (.comp (.sub (.var "kinds") (.var "node")) "node" (.slice (.var "ahead") (.neg (.int 1)) .absent) .absent ["kinds"]) (.lst (.cons (.str "text") .nil))) .nil))) (.cons (.setsub (.var "texts") (.sub (.var "ahead") (.neg (.int 1))) (.bin .Add (.sub (.var "texts") (.sub (.var "ahead") (.neg (.int 1)))) (.var "text"))) (.cons .retNone .nil)) .nil) (.cons (.setsub (.var "children") (.var "here") (.bin .Add (.bin .Add (.var "ahead") (.lst (.cons (.call "len" (.cons (.var "kinds") .nil)) .nil))) (.slice (.sub (.var "children") (.var "here")) (.var "at") .absent))) (.cons (.expr (.meth (.var "kinds") "append" (.cons (.var "kind") .nil))) (.cons (.expr (.meth (.var "texts") "append" (.cons (.var "text") .nil))) (.cons (.expr (.meth (.var "parents") "append" (.cons (.var "here") .nil))) (.cons (.expr (.meth (.var "children") "append" (.cons (.lst .nil) .nil))) .nil))))))))))) }
noncomputable def f_law_scene : Fn := { params := ["digits"], dflts := [], body :=
  (.cons (.assign "builder" (.call "Builder" (.cons .dict0 .nil))) (.cons (.assign "tree" (.attr (.var "builder") "tree")) (.cons (.assign "root" (.meth (.var "tree") "element" (.cons (.str "html") .nil))) (.cons (.expr (.meth (.var "tree") "append" (.cons (.int 0) (.cons (.var "root") .nil)))) (.cons (.expr (.meth (.attr (.var "builder") "stack") "push" (.cons (.var "root") .nil))) (.cons (.assign "side" (.meth (.var "tree") "element" (.cons (.str "div") .nil))) (.cons (.expr (.meth (.var "tree") "append" (.cons (.var "root") (.cons (.var "side") .nil)))) (.cons (.assign "facts" (.tup (.cons (.lst (.cons (.var "root") .nil)) (.cons (.dict1 (.var "root") (.str "html")) (.cons (.dict1 (.var "root") (.int 0)) (.cons .dict0 .nil)))))) (.cons (.for "digit" (.slice (.var "digits") .absent (.int 5)) (.cons (.expr (.call "_law_grow" (.cons (.var "builder") (.cons (.var "digit") (.cons (.var "facts") (.cons (.var "side") .nil)))))) .nil)) (.cons (.assign "line" (.sub (.var "facts") (.int 0))) (.cons (.assign "last" (.sub (.var "line") (.neg (.int 1)))) (.cons (.assign "more" (.bin .Mod (.bin .FloorDiv (.sub (.var "digits") (.int 5)) (.int 2)) (.int 3))) (.cons (.ifs (.cmp .Gt (.var "more") (.int 0)) (.cons (.expr (.meth (.var "tree") "append" (.cons (.meth (.sub (.var "facts") (.int 3)) "get" (.cons (.var "last") (.cons (.var "last") .nil))) (.cons (.ite (.cmp .Eq (.var "more") (.int 1)) (.meth (.var "tree") "text" (.cons (.str "z") .nil)) (.meth (.var "tree") "comment" (.cons (.str "y") .nil))) .nil)))) .nil) .nil) (.cons (.for "foster" (.tup (.cons (.bool false) (.cons (.bool true) .nil))) (.cons (.setattr (.var "builder") "is_foster" (.var "foster")) (.cons (.ifs (.cmp .NotEq (.call "place_for" (.cons (.var "builder") .nil)) (.call "_law_spot" (.cons (.var "facts") (.cons (.var "last") (.cons (.var "foster") .nil))))) (.cons (.ret (.bool false)) .nil) .nil) (.cons (.for "here" (.var "line") (.cons (.ifs (.cmp .NotEq (.call "place_for" (.cons (.var "builder") (.cons (.var "here") .nil))) (.call "_law_spot" (.cons (.var "facts") (.cons (.var "here") (.cons (.var "foster") .nil))))) (.cons (.ret (.bool false)) .nil) .nil) .nil)) .nil)))) (.cons (.assign "kept" (.tup (.cons (.call "list" (.cons (.attr (.var "tree") "kinds") .nil)) (.cons (.call "list" (.cons (.attr (.var "tree") "texts") .nil)) (.cons (.call "list" (.cons (.attr (.var "tree") "parents") .nil)) (.cons (.comp (.call "list" (.cons (.var "each") .nil)) "each" (.attr (.var "tree") "children") .absent []) .nil)))))) (.cons (.assign "named" (.lst (.cons (.call "list" (.cons (.attr (.var "tree") "names") .nil)) (.cons (.call "list" (.cons (.attr (.var "tree") "spaces") .nil)) (.cons (.comp (.call "list" (.cons (.var "pairs") .nil)) "pairs" (.attr (.var "tree") "attrs") .absent []) .nil))))) (.cons (.assign "foster" (.cmp .Eq (.bin .Mod (.sub (.var "digits") (.int 5)) (.int 2)) (.int 0))) (.cons (.setattr (.var "builder") "is_foster" (.var "foster")) (.cons (.for "text" (.tup (.cons (.str "m") (.cons (.str "n") (.cons (.str "k") (.cons (.str "o") (.cons (.str "p") .nil)))))) (.cons (.ifs (.cmp .Eq (.var "text") (.str "p")) (.cons (.assign "foster" (.not (.var "foster"))) (.cons (.setattr (.var "builder") "is_foster" (.var "foster")) .nil)) .nil) (.cons (.ifs (.cmp .Eq (.var "text") (.str "k")) (.cons (.expr (.call "insert_comment" (.cons (.var "builder") (.cons (.var "text") .nil)))) .nil) (.cons (.expr (.call "insert_sign" (.cons (.var "builder") (.cons (.var "text") .nil)))) .nil)) (.cons (.expr (.call "_law_put" (.cons (.var "kept") (.cons (.call "_law_spot" (.cons (.var "facts") (.cons (.var "last") (.cons (.var "foster") .nil)))) (.cons (.ite (.cmp .Eq (.var "text") (.str "k")) (.str "comment") (.str "text")) (.cons (.var "text") .nil)))))) .nil)))) (.cons (.expr (.call "insert_comment" (.cons (.var "builder") (.cons (.str "t") (.cons (.sub (.var "line") (.int 0)) .nil))))) (.cons (.expr (.call "_law_put" (.cons (.var "kept") (.cons (.tup (.cons (.sub (.var "line") (.int 0)) (.cons (.neg (.int 1)) .nil))) (.cons (.str "comment") (.cons (.str "t") .nil)))))) (.cons (.assign "many" (.bin .Sub (.call "len" (.cons (.sub (.var "kept") (.int 0)) .nil)) (.call "len" (.cons (.sub (.var "named") (.int 0)) .nil)))) (.cons (.assign "due" (.lst (.cons (.bin .Add (.sub (.var "named") (.int 0)) (.bin .Mult (.lst (.cons (.str "") .nil)) (.var "many"))) (.cons (.bin .Add (.sub (.var "named") (.int 1)) (.bin .Mult (.lst (.cons (.str "") .nil)) (.var "many"))) (.cons (.bin .Add (.sub (.var "named") (.int 2)) (.bin .Mult (.lst (.cons (.lst .nil) .nil)) (.var "many"))) .nil))))) (.cons (.ifs (.or (.cons (.cmp .NotEq (.lst (.cons (.attr (.var "tree") "names") (.cons (.attr (.var "tree") "spaces") (.cons (.attr (.var "tree") "attrs") .nil)))) (.var "due")) (.cons (.cmp .NotEq (.attr (.attr (.var "builder") "stack") "items") (.var "line")) (.cons (.cmp .NotEq (.attr (.var "builder") "errors") (.lst .nil)) .nil)))) (.cons (.ret (.bool false)) .nil) .nil) (.cons (.ret (.and (.cons (.cmp .Eq (.tup (.cons (.attr (.var "tree") "kinds") (.cons (.attr (.var "tree") "texts") (.cons (.attr (.var "tree") "parents") (.cons (.attr (.var "tree") "children") .nil))))) (.var "kept")) (.cons (.cmp .Eq (.attr (.var "tree") "contents") (.sub (.var "facts") (.int 3))) .nil)))) .nil))))))))))))))))))))))))) }
noncomputable def f_law : Fn := { params := ["script"], dflts := [], body :=
  (.cons (.assign "bare" (.call "Builder" (.cons .dict0 .nil))) (.cons (.expr (.call "insert_sign" (.cons (.var "bare") (.cons (.str "s") .nil)))) (.cons (.ifs (.or (.cons (.cmp .NotEq (.call "place_for" (.cons (.var "bare") .nil)) (.tup (.cons (.int 0) (.cons (.neg (.int 1)) .nil)))) (.cons (.cmp .NotEq (.attr (.attr (.var "bare") "tree") "kinds") (.lst (.cons (.str "document") .nil))) (.cons (.cmp .NotEq (.attr (.attr (.var "bare") "tree") "children") (.lst (.cons (.lst .nil) .nil))) .nil)))) (.cons (.ret (.bool false)) .nil) .nil) (.cons (.assign "bases" (.call "_law_bases" .nil)) (.cons (.for "scene" (.call "range" (.cons (.int 8) .nil)) (.cons (.assign "digits" (.lst .nil)) (.cons (.for "k" (.call "range" (.cons (.int 6) .nil)) (.cons (.assign "place" (.bin .Add (.bin .Mult (.int 6) (.var "scene")) (.var "k"))) (.cons (.expr (.meth (.var "digits") "append" (.cons (.bin .Add (.sub (.sub (.var "bases") (.var "scene")) (.var "k")) (.ite (.cmp .Lt (.var "place") (.call "len" (.cons (.var "script") .nil))) (.sub (.var "script") (.var "place")) (.int 0))) .nil))) .nil))) (.cons (.ifs (.not (.call "_law_scene" (.cons (.var "digits") .nil))) (.cons (.ret (.bool false)) .nil) .nil) .nil)))) (.cons (.ret (.bool true)) .nil)))))) }
noncomputable def look2 (c f : String) : List (String × String × Fn) → Option Fn
  | [] => none
  | (a, b, fn) :: r => bif a == c && b == f then some fn else look2 c f r
noncomputable def tabG : List (String × String × Fn) := [("", "is_table_part", f_is_table_part), ("", "foster_place", f_foster_place), ("", "place_for", f_place_for), ("", "insert_sign", f_insert_sign), ("", "insert_comment", f_insert_comment), ("", "above", f_above), ("", "_law_bases", f_law_bases), ("", "_law_grow", f_law_grow), ("", "_law_spot", f_law_spot), ("", "_law_put", f_law_put), ("", "_law_scene", f_law_scene), ("", "law", f_law)]
noncomputable def tabM : List (String × String × Fn) := [("Formatting", "__init__", f_Formatting_init), ("OpenStack", "__init__", f_OpenStack_init), ("OpenStack", "push", f_OpenStack_push), ("OpenStack", "current", f_OpenStack_current), ("Tree", "__init__", f_Tree_init), ("Tree", "add", f_Tree_add), ("Tree", "element", f_Tree_element), ("Tree", "text", f_Tree_text), ("Tree", "comment", f_Tree_comment), ("Tree", "insert", f_Tree_insert), ("Tree", "append", f_Tree_append), ("Tree", "remove", f_Tree_remove), ("Tree", "place", f_Tree_place), ("Tree", "last", f_Tree_last), ("Tree", "is_html", f_Tree_is_html), ("Builder", "__init__", f_Builder_init)]
noncomputable def fnsG (f : String) : Option Fn := look2 "" f tabG
noncomputable def fnsM (c f : String) : Option Fn := look2 c f tabM
noncomputable def All3 (p : String → String → Fn → Prop) : List (String × String × Fn) → Prop
  | [] => True
  | (a, b, fn) :: r => p a b fn ∧ All3 p r
theorem look2_all {p : String → String → Fn → Prop} {c f : String} {fn : Fn} : ∀ {l : List (String × String × Fn)}, All3 p l → look2 c f l = some fn → p c f fn
  | [], _, e => (by cases e)
  | (a, b, g) :: r, h, e => by
    unfold look2 at e
    cases q : a == c && b == f with
    | true =>
      rw [q] at e
      cases e
      have q2 := Bool.and_eq_true_iff.mp q
      rw [← beq_iff_eq.mp q2.1, ← beq_iff_eq.mp q2.2]
      exact h.1
    | false =>
      rw [q] at e
      exact look2_all h.2 e
noncomputable def attrsOf : String → List String
  | "Formatting" => ["tree", "items"]
  | "OpenStack" => ["tree", "items"]
  | "Tree" => ["kinds", "spaces", "names", "attrs", "texts", "parents", "children", "contents"]
  | "Builder" => ["rules", "tree", "stack", "formatting", "mode", "original", "modes", "head", "form", "owners", "is_frameset_ok", "is_scripting", "is_foster", "context", "quirks", "errors", "pending", "wish", "is_skipping", "is_acknowledged", "is_done"]
  | _ => []

noncomputable def setE (x : String) (v : AV) (ρ : AE) : AE := (x, v) :: ρ

/-- == -/
noncomputable def aeqL (eq : AV → AV → Option Bool) : List AV → List AV → Option Bool
  | [], [] => some true
  | x :: xs, y :: ys => match eq x y, aeqL eq xs ys with
    | some a, some b => some (a && b)
    | _, _ => Option.none
  | _, _ => Option.none
noncomputable def aeqD (eq : AV → AV → Option Bool) (l : List (Int × AV)) : List (Int × AV) → Option Bool
  | [] => some true
  | (k, v) :: r => match l.lookup k with
    | some v' => match eq v v', aeqD eq l r with
      | some true, some true => some true
      | _, _ => Option.none
    | Option.none => Option.none
noncomputable def aeq : Nat → AH → AV → AV → Option Bool
  | 0, _, _, _ => Option.none
  | n + 1, H, a, b => match a, b with
    | .int x, .int y => some (decide (x = y))
    | .str x, .str y => some (decide (x = y))
    | .tup xs, .tup ys => match aeqL (aeq n H) xs ys with
      | some true => some true
      | _ => Option.none
    | .ref i, .ref j => match H[i]?, H[j]? with
      | some (.list xs), some (.list ys) => if xs.length = ys.length then aeqL (aeq n H) xs ys else some false
      | some (.dict xs), some (.dict ys) => if xs.length = ys.length then aeqD (aeq n H) ys xs else Option.none
      | _, _ => Option.none
    | _, _ => Option.none

noncomputable def lim : Nat := 2 ^ 20
noncomputable def idx? (i : Int) (n : Nat) : Option Nat := if n ≤ lim then (if 0 ≤ i then (if i < n then some i.toNat else Option.none) else (if 0 ≤ i + n then some (i + n).toNat else Option.none)) else Option.none

noncomputable def allInts : List AV → Option (List Int)
  | [] => some []
  | .int i :: r => (allInts r).map (i :: ·)
  | _ :: _ => Option.none
noncomputable def allStrs : List AV → Option (List String)
  | [] => some []
  | .str i :: r => (allStrs r).map (i :: ·)
  | _ :: _ => Option.none

/-- x in c -/
noncomputable def ainA (H : AH) (x c : AV) : Option Bool := match x, c with
  | .int i, .tup vs => (allInts vs).map (·.contains i)
  | .str s, .tup vs => (allStrs vs).map (·.contains s)
  | .int i, .ref a => match H[a]? with
    | some (.list vs) => (allInts vs).map (·.contains i)
    | some (.dict kvs) => some (kvs.any (·.1 == i))
    | _ => Option.none
  | _, _ => Option.none

noncomputable def cmpA (H : AH) (op : Cm) (a b : AV) : Option Bool := match op with
  | .Eq => aeq 6 H a b
  | .NotEq => (aeq 6 H a b).map (!·)
  | .Lt => match a, b with | .int x, .int y => some (decide (x < y)) | _, _ => Option.none
  | .Gt => match a, b with | .int x, .int y => some (decide (x > y)) | _, _ => Option.none
  | .In => ainA H a b
  | .NotIn => (ainA H a b).map (!·)

noncomputable def binA (H : AH) (op : Op) (a b : AV) : Option (AV × AH) := match op, a, b with
  | .Add, .int x, .int y => some (.int (x + y), H)
  | .Add, .str x, .str y => if x.length + y.length ≤ lim then some (.str (x ++ y), H) else Option.none
  | .Add, .ref i, .ref j => match H[i]?, H[j]? with
    | some (.list xs), some (.list ys) => if xs.length + ys.length ≤ lim then some (.ref H.length, H ++ [.list (xs ++ ys)]) else Option.none
    | _, _ => Option.none
  | .Sub, .int x, .int y => some (.int (x - y), H)
  | .Mult, .int x, .int y => if 0 ≤ x ∧ x ≤ lim ∧ 0 ≤ y ∧ y ≤ lim then some (.int (x * y), H) else Option.none
  | .Mult, .ref i, .int y => match H[i]? with
    | some (.list [x]) => if 0 ≤ y ∧ y ≤ lim then some (.ref H.length, H ++ [.list (List.replicate y.toNat x)]) else Option.none
    | _ => Option.none
  | .FloorDiv, .int x, .int y => if 0 < y ∧ y ≤ lim then some (.int (Int.fdiv x y), H) else Option.none
  | .Mod, .int x, .int y => if 0 < y ∧ y ≤ lim then some (.int (Int.fmod x y), H) else Option.none
  | _, _, _ => Option.none

noncomputable def subA (H : AH) (o i : AV) : Option AV := match o, i with
  | .tup vs, .int k => (idx? k vs.length).bind (vs[·]?)
  | .sl xs, .int k => if 0 ≤ k then (idx? k xs.length).bind (fun j => xs[j]?.map .int) else Option.none
  | .ref a, .int k => match H[a]? with
    | some (.list vs) => (idx? k vs.length).bind (vs[·]?)
    | some (.dict kvs) => kvs.lookup k
    | _ => Option.none
  | _, _ => Option.none

/-- a cut: [:b], [a:], places in bounds, or [-1:] -/
noncomputable def sliceA (vs : List AV) (lo hi : Option Int) : Option (List AV) := match lo, hi with
  | Option.none, some b => if 0 ≤ b ∧ b ≤ vs.length then some (vs.take b.toNat) else Option.none
  | some a, Option.none => if 0 ≤ a ∧ a ≤ vs.length then some (vs.drop a.toNat) else if a = -1 then some (vs.drop (vs.length - 1)) else Option.none
  | _, _ => Option.none

noncomputable def truthyA (H : AH) : AV → Option Bool
  | .bool b => some b
  | .ref i => match H[i]? with
    | some (.list xs) => if xs.length ≤ lim then some (!xs.isEmpty) else Option.none
    | _ => Option.none
  | _ => Option.none

noncomputable def setD (k : Int) (v : AV) : List (Int × AV) → List (Int × AV)
  | [] => [(k, v)]
  | (k', v') :: r => if k' = k then (k', v) :: r else (k', v') :: setD k v r
noncomputable def setF (k : String) (v : AV) : List (String × AV) → List (String × AV)
  | [] => [(k, v)]
  | (k', v') :: r => bif k' == k then (k', v) :: r else (k', v') :: setF k v r

noncomputable def setsubA (H : AH) (o i v : AV) : Option AH := match o, i with
  | .ref a, .int k => match H[a]? with
    | some (.list vs) => if 0 ≤ k then (idx? k vs.length).map fun j => H.set a (.list (vs.set j v)) else Option.none
    | some (.dict kvs) => if kvs.length ≤ lim then some (H.set a (.dict (setD k v kvs))) else Option.none
    | _ => Option.none
  | _, _ => Option.none

noncomputable def intOf : AV → Option Int
  | .int i => some i
  | _ => Option.none

/-- methods of lists and dicts -/
noncomputable def methA (H : AH) (a : Nat) (f : String) (args : List AV) : Option (AV × AH) := match H[a]? with
  | some (.list vs) => match f, args with
    | "append", [v] => if vs.length ≤ lim then some (.none, H.set a (.list (vs ++ [v]))) else Option.none
    | "insert", [.int k, v] => if vs.length ≤ lim ∧ 0 ≤ k ∧ k ≤ vs.length then some (.none, H.set a (.list (vs.take k.toNat ++ v :: vs.drop k.toNat))) else Option.none
    | "index", [.int k] => match allInts vs with
      | some is => if k ∈ is ∧ vs.length ≤ lim then some (.int (is.idxOf k), H) else Option.none
      | Option.none => Option.none
    | "remove", [.int k] => match allInts vs with
      | some is => if k ∈ is ∧ vs.length ≤ lim then some (.none, H.set a (.list (vs.eraseIdx (is.idxOf k)))) else Option.none
      | Option.none => Option.none
    | _, _ => Option.none
  | some (.dict kvs) => match f, args with
    | "get", [.int k, v] => some ((kvs.lookup k).getD v, H)
    | _, _ => Option.none
  | _ => Option.none

noncomputable def lenA (H : AH) : AV → Option Int
  | .sl xs => if xs.length ≤ lim then some xs.length else Option.none
  | .ref a => match H[a]? with
    | some (.list vs) => if vs.length ≤ lim then some vs.length else Option.none
    | _ => Option.none
  | _ => Option.none


inductive AF where
  | next | ret (v : AV)

noncomputable def bindA (params : List String) (dflts args : List AV) : Option AE :=
  if args.length ≤ params.length ∧ params.length ≤ args.length + dflts.length then
    some ((params.zip (args ++ dflts.drop (args.length + dflts.length - params.length))).reverse)
  else Option.none

noncomputable def opt {α : Type} (o : Option α) (Q : α → Prop) : Prop := match o with | some a => Q a | Option.none => False
theorem opt_some {α : Type} (a : α) (Q : α → Prop) : opt (some a) Q = Q a := id rfl
theorem opt_none {α : Type} (Q : α → Prop) : opt Option.none Q = False := rfl
theorem opt_elim {α : Type} {o : Option α} {Q : α → Prop} (h : opt o Q) : ∃ a, o = some a ∧ Q a := by
  cases o with
  | none => exact h.elim
  | some a => exact ⟨a, rfl, h⟩
theorem opt_intro {α : Type} {o : Option α} {Q : α → Prop} {a : α} (h : o = some a) (q : Q a) : opt o Q := by rw [h]; exact q

noncomputable def attrA (H : AH) (v : AV) (f : String) : Option AV := match v with
  | .ref i => match H[i]? with
    | some (.inst c di) => match H[di]? with
      | some (.fields fs) => if f ∈ attrsOf c then fs.lookup f else Option.none
      | _ => Option.none
    | _ => Option.none
  | _ => Option.none
noncomputable def setattrA (H : AH) (v : AV) (f : String) (u : AV) : Option AH := match v with
  | .ref i => match H[i]? with
    | some (.inst c di) => match H[di]? with
      | some (.fields fs) => if fs.length ≤ 900 ∧ f ∈ attrsOf c then some (H.set di (.fields (setF f u fs))) else Option.none
      | _ => Option.none
    | _ => Option.none
  | _ => Option.none
noncomputable def sliceH (H : AH) (v : AV) (lo hi : Option Int) : Option (AV × AH) := match v with
  | .ref a => match H[a]? with
    | some (.list vs) => if vs.length ≤ lim then (sliceA vs lo hi).map fun r => (.ref H.length, H ++ [.list r]) else Option.none
    | _ => Option.none
  | _ => Option.none
inductive MK where
  | inst (a : Nat) (C : String) | list (a : Nat) | dict (a : Nat)
noncomputable def kindA (H : AH) (v : AV) (f : String) : Option MK := match v with
  | .ref a => match H[a]? with
    | some (.inst C di) => match H[di]? with
      | some (.fields fs) => if (fs.lookup f).isNone then some (.inst a C) else Option.none
      | _ => Option.none
    | some (.list _) => some (.list a)
    | some (.dict _) => some (.dict a)
    | _ => Option.none
  | _ => Option.none
noncomputable def methL (H : AH) (a : Nat) (f : String) (vs : List AV) : Option (AV × AH) := match H[a]? with
  | some (.list _) => methA H a f vs
  | _ => Option.none
noncomputable def methD (H : AH) (a : Nat) (f : String) (vs : List AV) : Option (AV × AH) := match H[a]? with
  | some (.dict _) => methA H a f vs
  | _ => Option.none
noncomputable def refOf : AV → Option Nat | .ref i => some i | _ => Option.none
noncomputable def tupOf : AV → Option (List AV) | .tup i => some i | _ => Option.none
noncomputable def listOf (H : AH) : List AV → Option (AV × AH)
  | [.tup xs] => if xs.length ≤ lim then some (.ref H.length, H ++ [.list xs]) else Option.none
  | [.ref a] => match H[a]? with
    | some (.list xs) => if xs.length ≤ lim then some (.ref H.length, H ++ [.list xs]) else Option.none
    | _ => Option.none
  | _ => Option.none

end Mine
end
section
open PySem PySem.W PySem.Calls PyProof.Rows
set_option maxRecDepth 100000
namespace Mine

theorem ofString_inj {a b : String} (h : Str.ofString a = Str.ofString b) : a = b := by
  rw [Str.ofString_eq_toList, Str.ofString_eq_toList] at h
  injection h with h
  have h1 : a.toList.map Char.toNat = b.toList.map Char.toNat := by simpa using congrArg Array.toList h
  have h2 : a.toList = b.toList := by
    refine List.map_inj_right (f := Char.toNat) ?_ |>.mp h1
    intro x y e
    exact Char.ext (UInt32.toNat_inj.mp e)
  exact String.toList_injective h2
theorem ofString_eq {a b : String} : Str.ofString a = Str.ofString b ↔ a = b := ⟨ofString_inj, fun h => h ▸ rfl⟩
theorem ofString_cat (a b : String) : Str.ofString (a ++ b) = Str.ofString a ++ Str.ofString b := by
  show _ = Str.mk _
  rw [Str.ofString_eq_toList, Str.ofString_eq_toList, Str.ofString_eq_toList]
  simp

/-- never turned -/
noncomputable def imm (o : Obj) : Bool := match o.data with
  | .seq _ _ => o.cls == .type "tuple"
  | .fields _ => o.cls == .type "range"
  | _ => false
noncomputable abbrev tupObj (cvs : List Value) (n : Nat) : Obj := { cls := .type "tuple", dict := none, data := .seq cvs.toArray n, slots := #[] }
noncomputable abbrev lstObj (cvs : List Value) (n : Nat) : Obj := { cls := .type "list", dict := none, data := .seq cvs.toArray n, slots := #[] }

inductive VR (base h : Heap) (ι : List Addr) : Value → AV → Prop
  | none : VR base h ι .none .none
  | bool (b : Bool) : VR base h ι (.bool b) (.bool b)
  | int (i : Int) (t : Tok) : VR base h ι (.int i t) (.int i)
  | str (s : String) (t : Tok) : VR base h ι (.str (Str.ofString s) t) (.str s)
  | ref {i : Nat} {a : Addr} (hi : ι[i]? = some a) : VR base h ι (.ref a) (.ref i)
  | tup {a : Addr} {cvs : List Value} {vs : List AV} {n : Nat} (ho : h.get? a = some (tupObj cvs n)) (hl : cvs.length = vs.length)
      (hv : ∀ (j : Nat) cv v, cvs[j]? = some cv → vs[j]? = some v → VR base h ι cv v) : VR base h ι (.ref a) (.tup vs)
  | sl {a : Addr} {cvs : List Value} {xs : List Int} (hb : base.IsList a cvs.toArray) (hi : IntsAre cvs xs) : VR base h ι (.ref a) (.sl xs)
  | rng {a : Addr} {n : Int} {t u v : Tok} (ho : IsRange h a 0 n 1 t u v) : VR base h ι (.ref a) (.rng n)

theorem VR.i_int {base h : Heap} {ι : List Addr} {c : Value} {i : Int} (x : VR base h ι c (.int i)) : ∃ t, c = .int i t := by cases x; exact ⟨_, rfl⟩
theorem VR.i_str {base h : Heap} {ι : List Addr} {c : Value} {i : String} (x : VR base h ι c (.str i)) : ∃ t, c = .str (Str.ofString i) t := by cases x; exact ⟨_, rfl⟩
theorem VR.i_bool {base h : Heap} {ι : List Addr} {c : Value} {i : Bool} (x : VR base h ι c (.bool i)) : c = .bool i := by cases x; rfl
theorem VR.i_none {base h : Heap} {ι : List Addr} {c : Value} (x : VR base h ι c .none) : c = .none := by cases x; rfl
theorem VR.i_ref {base h : Heap} {ι : List Addr} {c : Value} {i : Nat} (x : VR base h ι c (.ref i)) : ∃ a, c = .ref a ∧ ι[i]? = some a := by cases x with | ref hi => exact ⟨_, rfl, hi⟩
theorem VR.i_tup {base h : Heap} {ι : List Addr} {c : Value} {vs : List AV} (x : VR base h ι c (.tup vs)) : ∃ a cvs n, c = .ref a ∧ h.get? a = some (tupObj cvs n) ∧ cvs.length = vs.length ∧ ∀ (j : Nat) cv v, cvs[j]? = some cv → vs[j]? = some v → VR base h ι cv v := by cases x with | tup ho hl hv => exact ⟨_, _, _, rfl, ho, hl, hv⟩
theorem VR.i_sl {base h : Heap} {ι : List Addr} {c : Value} {xs : List Int} (x : VR base h ι c (.sl xs)) : ∃ a cvs, c = .ref a ∧ base.IsList a cvs.toArray ∧ IntsAre cvs xs := by cases x with | sl hb hi => exact ⟨_, _, rfl, hb, hi⟩
theorem VR.i_rng {base h : Heap} {ι : List Addr} {c : Value} {n : Int} (x : VR base h ι c (.rng n)) : ∃ a t u v, c = .ref a ∧ IsRange h a 0 n 1 t u v := by cases x with | rng ho => exact ⟨_, _, _, _, rfl, ho⟩

noncomputable abbrev VRs (base h : Heap) (ι : List Addr) (cvs : List Value) (vs : List AV) : Prop := cvs.length = vs.length ∧ ∀ (j : Nat) cv v, cvs[j]? = some cv → vs[j]? = some v → VR base h ι cv v

inductive All2 {α β : Type} (R : α → β → Prop) : List α → List β → Prop
  | nil : All2 R [] []
  | cons {a : α} {b : β} {l : List α} {m : List β} (h : R a b) (t : All2 R l m) : All2 R (a :: l) (b :: m)
/-- some world: the kind of int keys does not look at it -/
noncomputable def w0 : World := { draws := fun _ _ => 0, params := { strHash := fun _ => 0, shareClass := fun _ => 0, mergeTok := fun t => t, idOf := fun _ => 0, idOfShared := fun _ _ => 0, followText := fun _ => false, idOfImm := fun _ => 0 } }
/-- a dict of ints, its pairs in order -/
noncomputable def DictI (h : Heap) (a : Addr) (kc : List (Int × Value)) : Prop := ∀ prog w, h.DictOf (intKind prog w) a kc
noncomputable def PR (base h : Heap) (ι : List Addr) (c : Int × Value) (kv : Int × AV) : Prop := c.1 = kv.1 ∧ VR base h ι c.2 kv.2
/-- an entry of an thing's dict -/
noncomputable def FRe (base h : Heap) (ι : List Addr) (e : DictEntry) (kv : String × AV) : Prop := (∃ t, e.key = .str (Str.ofString kv.1) t) ∧ VR base h ι e.val kv.2
noncomputable abbrev FRs (base h : Heap) (ι : List Addr) (es : List DictEntry) (fs : List (String × AV)) : Prop := All2 (FRe base h ι) es fs

inductive OR (cl : String → Option Addr) (base h : Heap) (ι : List Addr) (a : Addr) : AO → Prop
  | list {cvs : List Value} {n : Nat} {xs : List AV} (ho : h.get? a = some (lstObj cvs n)) (hv : VRs base h ι cvs xs) : OR cl base h ι a (.list xs)
  | dict {kc : List (Int × Value)} {kvs : List (Int × AV)} (ho : DictI h a kc) (hv : All2 (PR base h ι) kc kvs) : OR cl base h ι a (.dict kvs)
  | fields {es : List DictEntry} {n : Nat} {fs : List (String × AV)} (ho : h.get? a = some (dictOf es n)) (hv : FRs base h ι es fs) : OR cl base h ι a (.fields fs)
  | inst {c : String} {C d : Addr} {di : Nat} (ho : h.get? a = some (instObj C d)) (hc : cl c = some C) (hd : ι[di]? = some d) : OR cl base h ι a (.inst c di)

structure Rel (cl : String → Option Addr) (base : Heap) (ι : List Addr) (H : AH) (h : Heap) : Prop where
  keep : ∀ b o, base.get? b = some o → h.get? b = some o
  len : ι.length = H.length
  nodup : ι.Nodup
  fresh : ∀ a ∈ ι, base.objs.size ≤ a
  big : ∃ b o, base.objs.size ≤ b ∧ h.get? b = some o
  obj : ∀ (i : Nat) a ao, ι[i]? = some a → H[i]? = some ao → OR cl base h ι a ao

theorem none_of_big {h : Heap} {a : Addr} (e : h.objs.size ≤ a) : h.get? a = none := by
  cases q : h.get? a with
  | none => rfl
  | some o => exact absurd (Heap.lt_size q) (Nat.not_lt.mpr e)
/-- what a piece of the run may do; own: what else may turn -/
structure Ext (own : Addr → Prop) (ι : List Addr) (h : Heap) (ι' : List Addr) (h' : Heap) : Prop where
  pre : ∃ t, ι' = ι ++ t
  fresh : ∀ a ∈ ι', a ∈ ι ∨ h.get? a = none
  keep : ∀ b o, h.get? b = some o → b ∉ ι → ¬ own b → h'.get? b = some o
  sub : ∀ b o, h.get? b = some o → imm o = true → h'.get? b = some o
  there : ∀ b o, h.get? b = some o → ∃ o', h'.get? b = some o'

noncomputable abbrev no : Addr → Prop := fun _ => False

section
variable {cl : String → Option Addr} {base h h' h'' : Heap} {ι ι' ι'' : List Addr} {own : Addr → Prop} {H : AH}

theorem Ext.refl : Ext own ι h ι h := ⟨⟨[], by simp⟩, fun _ m => .inl m, fun _ _ e _ _ => e, fun _ _ e _ => e, fun _ o e => ⟨o, e⟩⟩
theorem Ext.get {i : Nat} {a : Addr} (x : Ext own ι h ι' h') (e : ι[i]? = some a) : ι'[i]? = some a := by
  obtain ⟨t, rfl⟩ := x.pre
  rw [List.getElem?_append_left (List.getElem?_eq_some_iff.mp e).1]; exact e
theorem Ext.mem {a : Addr} (x : Ext own ι h ι' h') (e : a ∈ ι) : a ∈ ι' := by
  obtain ⟨t, rfl⟩ := x.pre
  exact List.mem_append_left _ e
theorem Ext.notMem {b : Addr} {o : Obj} (x : Ext own ι h ι' h') (e : h.get? b = some o) (n : b ∉ ι) : b ∉ ι' := fun m => by
  rcases x.fresh b m with q | q
  · exact n q
  · rw [e] at q; cases q
theorem Ext.trans (x : Ext own ι h ι' h') (y : Ext own ι' h' ι'' h'') : Ext own ι h ι'' h'' := by
  refine ⟨?_, fun a m => ?_, fun b o e n no => ?_, fun b o e i => y.sub b o (x.sub b o e i) i, fun b o e => ?_⟩
  · obtain ⟨t, rfl⟩ := x.pre; obtain ⟨u, rfl⟩ := y.pre; exact ⟨t ++ u, by simp⟩
  · rcases y.fresh a m with q | q
    · exact x.fresh a q
    · right
      cases e : h.get? a with
      | none => rfl
      | some o => obtain ⟨o', e'⟩ := x.there a o e; rw [e'] at q; cases q
  · exact y.keep b o (x.keep b o e n no) (x.notMem e n) no
  · obtain ⟨o', e'⟩ := x.there b o e; exact y.there b o' e'
theorem Ext.weaken {own' : Addr → Prop} (x : Ext own ι h ι' h') (w : ∀ b, own b → own' b) : Ext own' ι h ι' h' :=
  ⟨x.pre, x.fresh, fun b o e n no => x.keep b o e n fun q => no (w b q), x.sub, x.there⟩
theorem Ext.of_no (x : Ext no ι h ι' h') : Ext own ι h ι' h' := x.weaken fun _ q => q.elim

theorem VR.mono {cv : Value} {v : AV} (x : VR base h ι cv v) (hs : ∀ b o, h.get? b = some o → imm o = true → h'.get? b = some o) (hi : ∀ (i : Nat) a, ι[i]? = some a → ι'[i]? = some a) : VR base h' ι' cv v := by
  induction x with
  | none => exact .none
  | bool b => exact .bool b
  | int i t => exact .int i t
  | str s t => exact .str s t
  | ref e => exact .ref (hi _ _ e)
  | tup ho hl _ ih => exact .tup (hs _ _ ho rfl) hl ih
  | sl hb hi' => exact .sl hb hi'
  | rng ho => exact .rng (hs _ _ ho rfl)
theorem VR.ext {cv : Value} {v : AV} (x : VR base h ι cv v) (e : Ext own ι h ι' h') : VR base h' ι' cv v := x.mono e.sub fun _ _ q => e.get q
theorem VRs.ext {cvs : List Value} {vs : List AV} (x : VRs base h ι cvs vs) (e : Ext own ι h ι' h') : VRs base h' ι' cvs vs := ⟨x.1, fun j cv v a b => (x.2 j cv v a b).ext e⟩
theorem forall2_imp {α β : Type} {R S : α → β → Prop} (k : ∀ a b, R a b → S a b) : ∀ {l : List α} {m : List β}, All2 R l m → All2 S l m
  | _, _, .nil => .nil
  | _, _, .cons a r => .cons (k _ _ a) (forall2_imp k r)
theorem PRs.ext {kc : List (Int × Value)} {kvs : List (Int × AV)} (x : All2 (PR base h ι) kc kvs) (e : Ext own ι h ι' h') : All2 (PR base h' ι') kc kvs := forall2_imp (fun _ _ y => ⟨y.1, y.2.ext e⟩) x
theorem DictI.keep {a : Addr} {kc : List (Int × Value)} (x : DictI h a kc) (k : ∀ o, h.get? a = some o → h'.get? a = some o) : DictI h' a kc := fun prog w => by
  obtain ⟨o, es, ep, ho, r⟩ := x prog w
  exact ⟨o, es, ep, k _ ho, r⟩
theorem pairs_any {prog prog' : Program} {w w' : World} {es : List DictEntry} {kc : List (Int × Value)} (x : Pairs (intKind prog w) es kc) : Pairs (intKind prog' w') es kc := by
  induction x with
  | nil => exact .nil
  | cons a b _ ih => exact .cons a b ih
theorem DictI.of {a : Addr} {kc : List (Int × Value)} {prog : Program} {w : World} (x : h.DictOf (intKind prog w) a kc) : DictI h a kc := fun prog' w' => by
  obtain ⟨o, es, ep, ho, h1, h2, h3, h4, h5⟩ := x
  exact ⟨o, es, ep, ho, h1, h2, h3, pairs_any h4, h5⟩
theorem DictI.obj {a : Addr} {kc : List (Int × Value)} (x : DictI h a kc) : ∃ o es ep, h.get? a = some o ∧ o.ExactDict ∧ o.data = .dict es ep := by
  obtain ⟨o, es, ep, ho, h1, h2, _⟩ := x default w0
  exact ⟨o, es, ep, ho, h1, h2⟩
theorem DictI.nodup {a : Addr} {kc : List (Int × Value)} (x : DictI h a kc) : (kc.map (·.1)).Nodup := by
  obtain ⟨_, _, _, _, _, _, _, _, h5⟩ := x default w0
  exact h5
theorem FRs.ext {es : List DictEntry} {kvs : List (String × AV)} (x : FRs base h ι es kvs) (e : Ext own ι h ι' h') : FRs base h' ι' es kvs := forall2_imp (fun _ _ y => ⟨y.1, y.2.ext e⟩) x

theorem OR.ext {a : Addr} {ao : AO} (x : OR cl base h ι a ao) (e : Ext own ι h ι' h') (k : ∀ o, h.get? a = some o → h'.get? a = some o) : OR cl base h' ι' a ao := by
  cases x with
  | list ho hv => exact .list (k _ ho) (VRs.ext hv e)
  | dict ho hv => exact .dict (ho.keep k) (PRs.ext hv e)
  | fields ho hv => exact .fields (k _ ho) (FRs.ext hv e)
  | inst ho hc hd => exact .inst (k _ ho) hc (e.get hd)

theorem OR.notImm {a : Addr} {ao : AO} (x : OR cl base h ι a ao) : ∃ o, h.get? a = some o ∧ imm o = false := by
  cases x with
  | list ho hv => exact ⟨_, ho, rfl⟩
  | dict ho hv =>
    obtain ⟨o, es, ep, ho, _, hd⟩ := ho.obj
    exact ⟨o, ho, by unfold imm; rw [hd]⟩
  | fields ho hv => exact ⟨_, ho, rfl⟩
  | inst ho hc hd => exact ⟨_, ho, rfl⟩
theorem Rel.at {i : Nat} {ao : AO} (R : Rel cl base ι H h) (e : H[i]? = some ao) : ∃ a, ι[i]? = some a ∧ OR cl base h ι a ao := by
  have hl := (List.getElem?_eq_some_iff.mp e).1
  have hl' : i < ι.length := by rw [R.len]; exact hl
  exact ⟨ι[i], List.getElem?_eq_getElem hl', R.obj i _ ao (List.getElem?_eq_getElem hl') e⟩
theorem Rel.live {a : Addr} (R : Rel cl base ι H h) (m : a ∈ ι) : ∃ o, h.get? a = some o ∧ imm o = false := by
  obtain ⟨i, hi, rfl⟩ := List.mem_iff_getElem.mp m
  have hl : i < H.length := by rw [← R.len]; exact hi
  exact (R.obj i _ H[i] (List.getElem?_eq_getElem hi) (List.getElem?_eq_getElem hl)).notImm
theorem Rel.offSize (R : Rel cl base ι H h) : h.objs.size ∉ ι := fun m => by
  obtain ⟨o, e, _⟩ := R.live m
  exact Nat.lt_irrefl _ (Heap.lt_size e)

/-- something made that the abstract heap does not name -/
theorem Ext.push (o : Obj) : Ext own ι h ι (h.push o) :=
  ⟨⟨[], by simp⟩, fun _ m => .inl m, fun _ _ e _ _ => Heap.get?_push_of_some _ e, fun _ _ e _ => Heap.get?_push_of_some _ e, fun _ o e => ⟨o, Heap.get?_push_of_some _ e⟩⟩
/-- all kept, more made -/
theorem Ext.of_keep (k : ∀ b o, h.get? b = some o → h'.get? b = some o) : Ext own ι h ι h' :=
  ⟨⟨[], by simp⟩, fun _ m => .inl m, fun b o e _ _ => k b o e, fun b o e _ => k b o e, fun b o e => ⟨o, k b o e⟩⟩
theorem Rel.of_keep (R : Rel cl base ι H h) (k : ∀ b o, h.get? b = some o → h'.get? b = some o) : Rel cl base ι H h' :=
  ⟨fun b o e => k b o (R.keep b o e), R.len, R.nodup, R.fresh, let ⟨b, o, h1, h2⟩ := R.big; ⟨b, o, h1, k b o h2⟩, fun i a ao e1 e2 => (R.obj i a ao e1 e2).ext (own := no) (Ext.of_keep k) fun o e => k a o e⟩
theorem Rel.push (R : Rel cl base ι H h) (o : Obj) : Rel cl base ι H (h.push o) := R.of_keep fun _ _ e => Heap.get?_push_of_some _ e
theorem Rel.bigE (R : Rel cl base ι H h) (e : Ext own ι h ι' h') : ∃ b o, base.objs.size ≤ b ∧ h'.get? b = some o := by
  obtain ⟨b, o, h1, h2⟩ := R.big
  obtain ⟨o', h3⟩ := e.there b o h2
  exact ⟨b, o', h1, h3⟩
theorem Rel.size (R : Rel cl base ι H h) : base.objs.size ≤ h.objs.size := by
  obtain ⟨b, o, h1, h2⟩ := R.big
  exact Nat.le_trans h1 (Nat.le_of_lt (Heap.lt_size h2))
/-- a new thing of the abstract heap -/
theorem Rel.alloc {o : Obj} {ao : AO} (R : Rel cl base ι H h) (_hf : o.isFreed = false)
    (w : OR cl base (h.push o) (ι ++ [h.objs.size]) h.objs.size ao) : Rel cl base (ι ++ [h.objs.size]) (H ++ [ao]) (h.push o) ∧ Ext own ι h (ι ++ [h.objs.size]) (h.push o) := by
  have fr : h.get? h.objs.size = none := by
    cases q : h.get? h.objs.size with
    | none => rfl
    | some o => exact absurd (Heap.lt_size q) (Nat.lt_irrefl _)
  have E : Ext own ι h (ι ++ [h.objs.size]) (h.push o) := by
    refine ⟨⟨_, rfl⟩, fun a m => ?_, fun b o' e _ _ => Heap.get?_push_of_some _ e, fun b o' e _ => Heap.get?_push_of_some _ e, fun b o' e => ⟨o', Heap.get?_push_of_some _ e⟩⟩
    rcases List.mem_append.mp m with q | q
    · exact .inl q
    · rw [List.mem_singleton.mp q]; exact .inr fr
  refine ⟨⟨fun b o' e => Heap.get?_push_of_some _ (R.keep b o' e), by simp [R.len], ?_, fun a m => ?_, R.bigE E, fun i a ao' e1 e2 => ?_⟩, E⟩
  · refine List.nodup_append.mpr ⟨R.nodup, by simp, fun a ha b hb => ?_⟩
    rw [List.mem_singleton.mp hb]
    rintro rfl
    exact R.offSize ha
  · rcases List.mem_append.mp m with q | q
    · exact R.fresh a q
    · rw [List.mem_singleton.mp q]; exact R.size
  · by_cases hi : i < ι.length
    · rw [List.getElem?_append_left hi] at e1
      rw [List.getElem?_append_left (by rw [← R.len]; exact hi)] at e2
      exact (R.obj i a ao' e1 e2).ext E fun o' q => Heap.get?_push_of_some _ q
    · have : i = ι.length := by
        have := (List.getElem?_eq_some_iff.mp e1).1
        rw [List.length_append, List.length_singleton] at this
        omega
      subst this
      rw [List.getElem?_append_right (Nat.le_refl _), Nat.sub_self] at e1
      rw [List.getElem?_append_right (by rw [R.len]; exact Nat.le_refl _), R.len, Nat.sub_self] at e2
      cases e1; cases e2
      exact w

theorem nodup_inj {l : List Addr} (n : l.Nodup) {i j : Nat} (hi : i < l.length) (hj : j < l.length) (e : l[i] = l[j]) : i = j := by
  have p := List.pairwise_iff_getElem.mp n
  rcases Nat.lt_trichotomy i j with q | q | q
  · exact absurd e (p i j hi hj q)
  · exact q
  · exact absurd e.symm (p j i hj hi q)
/-- a thing of the abstract heap turns -/
theorem Rel.turn {i : Nat} {a : Addr} {ao ao' : AO} (R : Rel cl base ι H h) (hi : ι[i]? = some a) (hH : H[i]? = some ao) (hs : Heap.SameBut a h h')
    (there : ∃ o', h'.get? a = some o') (w : (∀ {cv : Value} {v : AV}, VR base h ι cv v → VR base h' ι cv v) → OR cl base h' ι a ao') : Rel cl base ι (H.set i ao') h' ∧ Ext own ι h ι h' := by
  have hm := List.mem_of_getElem? hi
  obtain ⟨o, ho, him⟩ := R.live hm
  have E : Ext own ι h ι h' := by
    refine ⟨⟨[], by simp⟩, fun _ m => .inl m, fun b ob e n _ => ?_, fun b ob e im => ?_, fun b ob e => ?_⟩
    · rw [hs.2 b (fun q => n (q ▸ hm))]; exact e
    · rw [hs.2 b (fun q => by subst q; rw [ho] at e; cases e; rw [him] at im; cases im)]; exact e
    · by_cases q : b = a
      · subst q; exact there
      · exact ⟨ob, (hs.2 b q).trans e⟩
  refine ⟨⟨fun b ob e => ?_, by simp [R.len], R.nodup, R.fresh, R.bigE E, fun j b bo e1 e2 => ?_⟩, E⟩
  · rw [hs.2 b (fun q => by have := none_of_big (R.fresh a hm); rw [← q, e] at this; cases this)]; exact R.keep b ob e
  · by_cases q : i = j
    · subst q
      rw [hi] at e1; cases e1
      rw [List.getElem?_set_self (List.getElem?_eq_some_iff.mp hH).1] at e2
      cases e2
      exact w fun x => x.ext E
    · rw [List.getElem?_set_ne q] at e2
      have ne : b ≠ a := fun z => by
        subst z
        obtain ⟨h1, h1'⟩ := List.getElem?_eq_some_iff.mp hi
        obtain ⟨h2, h2'⟩ := List.getElem?_eq_some_iff.mp e1
        exact q (nodup_inj R.nodup h1 h2 (h1'.trans h2'.symm))
      exact (R.obj j b bo e1 e2).ext E fun o' z => (hs.2 b ne).trans z
end
end Mine
end
section
open PySem PySem.W PySem.Calls PyProof.Rows
set_option maxRecDepth 100000
namespace Mine

/-- where a name's value lies -/
noncomputable def NameAt (base h : Heap) (ι : List Addr) (env : Env) (m : Str → Option Value) (x : String) (v : AV) : Prop :=
  (env.kindOf (Str.ofString x) = some .local ∧ ∃ cv, m (Str.ofString x) = some cv ∧ VR base h ι cv v) ∨
  ((env.kindOf (Str.ofString x) = some .cell ∨ (env.kindOf (Str.ofString x) = some .free ∧ (Str.ofString x == ("__classdict__" : Str)) = false)) ∧
    ∃ c cv, env.cells.lookup (Str.ofString x) = some c ∧ h.IsCell c (some cv) ∧ VR base h ι cv v)

structure FrR (base : Heap) (env : Env) (ρ : AE) (ι : List Addr) (h : Heap) : Prop where
  kind : env.scope.kind = .function
  glob : env.globals = mainGlobals
  blt : env.builtins = builtinsNs
  ns : ∃ m, h.Ns env.locals m ∧ ∀ x v, ρ.lookup x = some v → NameAt base h ι env m x v
  cells : ∀ n c, (n, c) ∈ env.cells → (∃ v, h.IsCell c v) ∧ c ≠ env.locals ∧ c ∉ ι ∧ base.objs.size ≤ c
  apart : env.cells.Pairwise fun x y => x.2 ≠ y.2
  offL : env.locals ∉ ι
  newL : base.objs.size ≤ env.locals
  have_ : ∀ n, env.kindOf n = some .cell → (env.cells.lookup n).isSome = true

noncomputable def ownF (env : Env) : Addr → Prop := fun b => b = env.locals ∨ ∃ n, (n, b) ∈ env.cells

structure Cx (A : Around) (d : Nat) : Prop where
  handled : A.handled = none
  depth : A.depth + 4 * d + 8 < recursionLimit
  units : A.units + 16 * d + 32 < cLine
/-- the same, at a call -/
structure CxC (A : Around) (d : Nat) : Prop where
  handled : A.handled = none
  depth : A.depth + 4 * d + 5 < recursionLimit
  units : A.units + 16 * d + 20 < cLine
theorem Cx.call {A : Around} {d : Nat} (C : Cx A d) : CxC A d := ⟨C.handled, by have := C.depth; lia, by have := C.units; lia⟩
theorem CxC.body {A : Around} {d : Nat} (C : CxC A (d + 1)) (env : Env) : Cx (A.deeper env) d := ⟨C.handled, by
  have := C.depth
  show A.depth + 1 + 4 * d + 8 < recursionLimit
  lia, by
  have := C.units
  show A.units + 3 + 16 * d + 32 < cLine
  lia⟩

section
variable {base h h' : Heap} {ι ι' : List Addr} {env : Env} {ρ : AE} {own : Addr → Prop}

theorem NameAt.ext {m : Str → Option Value} {x : String} {v : AV} (n : NameAt base h ι env m x v) (e : Ext own ι h ι' h') (hc : ∀ k c, (k, c) ∈ env.cells → ∀ o, h.get? c = some o → h'.get? c = some o) : NameAt base h' ι' env m x v := by
  rcases n with ⟨k, cv, hm, hv⟩ | ⟨k, c, cv, hl, ⟨o, ho, hd⟩, hv⟩
  · exact .inl ⟨k, cv, hm, hv.ext e⟩
  · exact .inr ⟨k, c, cv, hl, ⟨o, hc _ _ (mem_of_lookup hl) o ho, hd⟩, hv.ext e⟩

/-- an expression's run leaves the frame -/
theorem FrR.ext (F : FrR base env ρ ι h) (e : Ext no ι h ι' h') : FrR base env ρ ι' h' := by
  obtain ⟨m, ⟨o, es, ep, ho, hd, hk, hf⟩, hv⟩ := F.ns
  have kc : ∀ k c, (k, c) ∈ env.cells → ∀ o, h.get? c = some o → h'.get? c = some o := fun k c hm o q => e.keep c o q (F.cells k c hm).2.2.1 id
  refine ⟨F.kind, F.glob, F.blt, ⟨m, ⟨o, es, ep, e.keep _ o ho F.offL id, hd, hk, hf⟩, fun x v q => (hv x v q).ext e kc⟩, fun n c hm => ?_, F.apart, e.notMem ho F.offL, F.newL, F.have_⟩
  obtain ⟨⟨v, oc, hoc, hdc⟩, h2, h3, h4⟩ := F.cells n c hm
  exact ⟨⟨v, oc, kc n c hm oc hoc, hdc⟩, h2, e.notMem hoc h3, h4⟩

theorem FrR.live (F : FrR base env ρ ι h) : ∃ o, h.get? env.locals = some o := by
  obtain ⟨m, ⟨o, es, ep, ho, _⟩, _⟩ := F.ns
  exact ⟨o, ho⟩
theorem FrR.kinds (F : FrR base env ρ ι h) {b : Addr} {o : Obj} (q : ownF env b) (e : h.get? b = some o) : (∃ es n, o.data = .dict es n) ∨ ∃ v, o.data = .cell v := by
  rcases q with rfl | ⟨n, hm⟩
  · obtain ⟨m, ⟨o', es, ep, ho, hd, _⟩, _⟩ := F.ns
    rw [ho] at e; cases e; exact .inl ⟨_, _, hd⟩
  · obtain ⟨⟨v, o', ho, hd⟩, _⟩ := F.cells n b hm
    rw [ho] at e; cases e; exact .inr ⟨_, hd⟩

theorem lookup_setE {x y : String} {v : AV} {ρ : AE} : (setE x v ρ).lookup y = if y = x then some v else ρ.lookup y := by
  unfold setE
  rw [List.lookup_cons]
  by_cases q : y = x
  · subst q; simp
  · rw [if_neg q]
    have : (y == x) = false := by simpa using q
    rw [this]

/-- a name of the frame is read -/
theorem load_var {M : Model} {A : Around} {E : Value → Shared → Prop} {s : Shared} {x : String} {v : AV} {Q : Value → Shared → Prop} (F : FrR base env ρ ι s.heap) (hx : ρ.lookup x = some v)
    (h : ∀ cv, VR base s.heap ι cv v → Q cv s) : wpAny M A (loadName env (Str.ofString x)) Q E s := by
  obtain ⟨m, hn, hv⟩ := F.ns
  rcases hv x v hx with ⟨k, cv, hm, hr⟩ | ⟨k | ⟨k, nd⟩, c, cv, hl, hc, hr⟩
  · exact wpAny_loadName_local F.kind k hn hm (h cv hr)
  · exact wpAny_loadName_cell F.kind k hl hc (h cv hr)
  · exact wpAny_loadName_free F.kind k hl hc (h cv hr) nd
end

/-- what a statement may turn beside the abstract heap -/
noncomputable abbrev ExtS (env : Env) (ι : List Addr) (h : Heap) (ι' : List Addr) (h' : Heap) : Prop := Ext (ownF env) ι h ι' h'

section
variable {cl : String → Option Addr} {base : Heap} {ι : List Addr} {env : Env} {ρ : AE} {H : AH}

theorem FrR.notImm {h : Heap} (F : FrR base env ρ ι h) {b : Addr} (q : ownF env b) {o : Obj} (e : h.get? b = some o) : imm o = false := by
  rcases F.kinds q e with ⟨es, n, hd⟩ | ⟨v, hd⟩ <;> (unfold imm; rw [hd])
theorem FrR.notIn {h : Heap} (F : FrR base env ρ ι h) {b : Addr} (q : ownF env b) : b ∉ ι ∧ base.objs.size ≤ b := by
  rcases q with rfl | ⟨n, hm⟩
  · exact ⟨F.offL, F.newL⟩
  · exact ⟨(F.cells n b hm).2.2.1, (F.cells n b hm).2.2.2⟩

/-- one own thing turns -/
theorem own_turn {h h' : Heap} {a : Addr} (R : Rel cl base ι H h) (F : FrR base env ρ ι h) (q : ownF env a) (hs : Heap.SameBut a h h') (there : ∃ o', h'.get? a = some o') :
    Rel cl base ι H h' ∧ ExtS env ι h ι h' := by
  obtain ⟨n1, n2⟩ := F.notIn q
  have E : ExtS env ι h ι h' := by
    refine ⟨⟨[], by simp⟩, fun _ m => .inl m, fun b o e _ no => ?_, fun b o e im => ?_, fun b o e => ?_⟩
    · rw [hs.2 b fun z => no (z ▸ q)]; exact e
    · rw [hs.2 b fun z => by subst z; rw [F.notImm q e] at im; cases im]; exact e
    · by_cases z : b = a
      · subst z; exact there
      · exact ⟨o, (hs.2 b z).trans e⟩
  refine ⟨⟨fun b o e => ?_, R.len, R.nodup, R.fresh, R.bigE E, fun i b bo e1 e2 => ?_⟩, E⟩
  · rw [hs.2 b fun z => by subst z; have := none_of_big n2; rw [e] at this; cases this]; exact R.keep b o e
  · exact (R.obj i b bo e1 e2).ext E fun o' z => (hs.2 b fun y => n1 (y ▸ List.mem_of_getElem? e1)).trans z

theorem store_var {M : Model} {A : Around} {E : Value → Shared → Prop} {s : Shared} {x : String} {v : AV} {cv : Value} {Q : Unit → Shared → Prop} (R : Rel cl base ι H s.heap) (F : FrR base env ρ ι s.heap)
    (hx : env.kindOf (Str.ofString x) = some .local ∨ env.kindOf (Str.ofString x) = some .cell) (hv : VR base s.heap ι cv v)
    (h : ∀ h' t', Rel cl base ι H h' → ExtS env ι s.heap ι h' → FrR base env (setE x v ρ) ι h' → Q () { s with heap := h', toks := t' }) : wpAny M A (storeName env (Str.ofString x) cv) Q E s := by
  obtain ⟨m, hn, hm⟩ := F.ns
  rcases hx with k | k
  · refine wpAny_storeName_local k hn (fun h' hn' hs => ?_) (by rw [F.kind]; rfl)
    obtain ⟨R', X⟩ := own_turn R F (.inl rfl) hs (by obtain ⟨o, _, _, ho, _⟩ := hn'; exact ⟨o, ho⟩)
    have kc : ∀ k c, (k, c) ∈ env.cells → ∀ o, s.heap.get? c = some o → h'.get? c = some o := fun k c q o e => (hs.2 c (F.cells k c q).2.1).trans e
    refine h h' _ R' X ⟨F.kind, F.glob, F.blt, ⟨_, hn', fun y u q => ?_⟩, fun n c q => ?_, F.apart, F.offL, F.newL, F.have_⟩
    · rw [lookup_setE] at q
      by_cases z : y = x
      · rw [if_pos z] at q; cases q; subst z
        exact .inl ⟨k, cv, by simp, hv.ext X⟩
      · rw [if_neg z] at q
        rcases (hm y u q).ext X kc with ⟨ky, cy, hy, hr⟩ | r
        · refine .inl ⟨ky, cy, ?_, hr⟩
          show (if Str.ofString y = Str.ofString x then some cv else m (Str.ofString y)) = _
          rw [if_neg fun w => z (ofString_inj w)]; exact hy
        · exact .inr r
    · obtain ⟨⟨u, oc, hoc, hd⟩, r⟩ := F.cells n c q
      exact ⟨⟨u, oc, kc n c q oc hoc, hd⟩, r⟩
  · obtain ⟨c, hc⟩ := Option.isSome_iff_exists.mp (F.have_ _ k)
    have mc := mem_of_lookup hc
    obtain ⟨⟨v₀, hv₀⟩, hne, hnI, hnb⟩ := F.cells _ c mc
    refine wpAny_storeName_cell F.kind k hc hv₀ fun h' hc' hs => ?_
    obtain ⟨R', X⟩ := own_turn R F (.inr ⟨_, mc⟩) hs (by obtain ⟨o, ho, _⟩ := hc'; exact ⟨o, ho⟩)
    refine h h' s.toks R' X ⟨F.kind, F.glob, F.blt, ⟨m, hn.sameBut hs (Ne.symm hne), fun y u q => ?_⟩, fun n c' q => ?_, F.apart, F.offL, F.newL, F.have_⟩
    · rw [lookup_setE] at q
      by_cases z : y = x
      · rw [if_pos z] at q; cases q; subst z
        exact .inr ⟨.inl k, c, cv, hc, hc', hv.ext X⟩
      · rw [if_neg z] at q
        rcases hm y u q with ⟨ky, cy, hy, hr⟩ | ⟨ky, c', cy, hl, hcl, hr⟩
        · exact .inl ⟨ky, cy, hy, hr.ext X⟩
        · refine .inr ⟨ky, c', cy, hl, hcl.sameBut hs fun e => z (ofString_inj (name_of_addr F.apart (mem_of_lookup hl) (e ▸ mc))), hr.ext X⟩
    · obtain ⟨⟨u, hu⟩, r⟩ := F.cells n c' q
      refine ⟨?_, r⟩
      by_cases e : c' = c
      · subst e; exact ⟨_, hc'⟩
      · exact ⟨u, hu.sameBut hs e⟩

end
end Mine
end
section
set_option maxRecDepth 100000
namespace Mine
noncomputable abbrev KE := AV → AH → Prop
noncomputable abbrev CT := Fn → List AV → AH → KE → Prop

noncomputable def qCall (C : CT) (f : String) (vs : List AV) (H : AH) (Q : KE) : Prop :=
  if f = "len" then match vs with
    | [v] => opt (lenA H v) fun k => Q (.int k) H
    | _ => False
  else if f = "range" then match vs with
    | [.int k] => 0 ≤ k ∧ k ≤ lim ∧ Q (.rng k) H
    | _ => False
  else if f = "list" then opt (listOf H vs) fun r => Q r.1 r.2
  else match fnsM f "__init__" with
    | some fn => C fn (.ref (H.length + 1) :: vs) (H ++ [.fields []] ++ [.inst f H.length]) fun v H' => v = .none ∧ Q (.ref (H.length + 1)) H'
    | Option.none => match fnsG f with
      | some fn => C fn vs H Q
      | Option.none => False
noncomputable def knownL (f : String) : Bool := f == "append" || f == "insert" || f == "index" || f == "remove"
noncomputable def qMeth (C : CT) (f : String) (aw : AH → (List AV → AH → Prop) → Prop) (o : AV) (H : AH) (Q : KE) : Prop := opt (kindA H o f) fun k => match k with
    | .inst a c => opt (fnsM c f) fun fn => aw H fun vs H => C fn (.ref a :: vs) H Q
    | .list a => knownL f = true ∧ aw H fun vs H => opt (methL H a f vs) fun r => Q r.1 r.2
    | .dict a => f = "get" ∧ aw H fun vs H => opt (methD H a f vs) fun r => Q r.1 r.2

noncomputable abbrev TU := AV → AH → (AH → Prop) → Prop
/-- a comprehension over values; over a list -/
noncomputable def cvL (turn : TU) (acc : Nat) : List AV → AH → KE → Prop
  | [], H, Q => Q (.ref acc) H
  | v :: r, H, Q => turn v H fun H => cvL turn acc r H Q
noncomputable def clL (turn : TU) (acc a : Nat) : Nat → Nat → AH → KE → Prop
  | 0, _, _, _ => False
  | n + 1, i, H, Q => match H[a]? with
    | some (.list vs) => match vs[i]? with
      | Option.none => Q (.ref acc) H
      | some v => turn v H fun H => clL turn acc a n (i + 1) H Q
    | _ => False
/-- loops -/
noncomputable abbrev KS := AF → AE → AH → Prop
noncomputable def next1 (K : AE → AH → Prop) (Q : KS) : KS := fun f ρ H => match f with
  | .next => K ρ H
  | .ret v => Q (.ret v) ρ H
noncomputable def whl (T : AE → AH → (Bool → AH → Prop) → Prop) (B : AE → AH → KS → Prop) : Nat → AE → AH → KS → Prop
  | 0, _, _, _ => False
  | n + 1, ρ, H, Q => T ρ H fun r H => (r = true → B ρ H (next1 (fun ρ H => whl T B n ρ H Q) Q)) ∧ (r = false → Q .next ρ H)
noncomputable def fvL (B : AE → AH → KS → Prop) (x : String) : List AV → AE → AH → KS → Prop
  | [], ρ, H, Q => Q .next ρ H
  | v :: r, ρ, H, Q => B (setE x v ρ) H (next1 (fun ρ H => fvL B x r ρ H Q) Q)
noncomputable def flL (B : AE → AH → KS → Prop) (x : String) (a : Nat) : Nat → Nat → AE → AH → KS → Prop
  | 0, _, _, _, _ => False
  | n + 1, i, ρ, H, Q => match H[a]? with
    | some (.list vs) => match vs[i]? with
      | Option.none => Q .next ρ H
      | some v => B (setE x v ρ) H (next1 (fun ρ H => flL B x a n (i + 1) ρ H Q) Q)
    | _ => False

mutual
noncomputable def qE (C : CT) : ME → AE → AH → KE → Prop
  | .absent, _, _, _ => False
  | .int i, _, H, Q => Q (.int i) H
  | .str i, _, H, Q => Q (.str i) H
  | .bool i, _, H, Q => Q (.bool i) H
  | .var x, ρ, H, Q => opt (ρ.lookup x) fun v => Q v H
  | .attr o f, ρ, H, Q => qE C o ρ H fun v H => opt (attrA H v f) fun u => Q u H
  | .sub o i, ρ, H, Q => qE C o ρ H fun a H => qE C i ρ H fun b H => opt (subA H a b) fun u => Q u H
  | .slice o lo hi, ρ, H, Q => qE C o ρ H fun a H => opt (refOf a) fun a => qO C lo ρ H fun lo H => qO C hi ρ H fun hi H => opt (sliceH H (.ref a) lo hi) fun r => Q r.1 r.2
  | .bin op a b, ρ, H, Q => qE C a ρ H fun a H => qE C b ρ H fun b H => opt (binA H op a b) fun r => Q r.1 r.2
  | .neg a, ρ, H, Q => qE C a ρ H fun v H => opt (intOf v) fun i => Q (.int (-i)) H
  | .not a, ρ, H, Q => qE C a ρ H fun v H => opt (truthyA H v) fun b => Q (.bool (!b)) H
  | .cmp op a b, ρ, H, Q => qE C a ρ H fun a H => qE C b ρ H fun b H => opt (cmpA H op a b) fun r => Q (.bool r) H
  | .and es, ρ, H, Q => qB C true es ρ H Q
  | .or es, ρ, H, Q => qB C false es ρ H Q
  | .ite t a b, ρ, H, Q => qT C t ρ H fun r H => (r = true → qE C a ρ H Q) ∧ (r = false → qE C b ρ H Q)
  | .tup es, ρ, H, Q => qEs C es ρ H fun vs H => vs.length ≤ lim ∧ Q (.tup vs) H
  | .lst es, ρ, H, Q => qEs C es ρ H fun vs H => vs.length ≤ lim ∧ Q (.ref H.length) (H ++ [.list vs])
  | .dict0, _, H, Q => Q (.ref H.length) (H ++ [.dict []])
  | .dict1 k v, ρ, H, Q => qE C k ρ H fun k H => opt (intOf k) fun k => qE C v ρ H fun v H => Q (.ref H.length) (H ++ [.dict [(k, v)]])
  | .call f args, ρ, H, Q => qEs C args ρ H fun vs H => qCall C f vs H Q
  | .meth o f args, ρ, H, Q => qE C o ρ H fun o H => qMeth C f (qEs C args ρ) o H Q
  | .comp elt x src cond frees, ρ, H, Q => qE C src ρ H fun v H0 => match v with
    | .rng k => 0 ≤ k ∧ k ≤ lim ∧ cvL (fun v H K => qI C cond ((x, v) :: ρ.filter fun p => frees.contains p.1) H fun r H' => (r = true → qE C elt ((x, v) :: ρ.filter fun p => frees.contains p.1) H' fun w H'' => opt (methA H'' H0.length "append" [w]) fun r => K r.2) ∧ (r = false → K H'))
        H0.length ((List.range k.toNat).map fun (j : Nat) => .int j) (H0 ++ [.list []]) Q
    | .ref a => ∃ n, clL (fun v H K => qI C cond ((x, v) :: ρ.filter fun p => frees.contains p.1) H fun r H' => (r = true → qE C elt ((x, v) :: ρ.filter fun p => frees.contains p.1) H' fun w H'' => opt (methA H'' H0.length "append" [w]) fun r => K r.2) ∧ (r = false → K H'))
        H0.length a n 0 (H0 ++ [.list []]) Q
    | _ => False
noncomputable def qO (C : CT) : ME → AE → AH → (Option Int → AH → Prop) → Prop
  | .absent, _, H, Q => Q Option.none H
  | .int i, _, H, Q => Q (some i) H
  | .var x, ρ, H, Q => opt (ρ.lookup x) fun v => opt (intOf v) fun i => Q (some i) H
  | .neg a, ρ, H, Q => qE C a ρ H fun v H => opt (intOf v) fun i => Q (some (-i)) H
  | _, _, _, _ => False
/-- a comprehension's test -/
noncomputable def qI (C : CT) : ME → AE → AH → (Bool → AH → Prop) → Prop
  | .absent, _, H, Q => Q true H
  | .cmp op a b, ρ, H, Q => qE C a ρ H fun a H => qE C b ρ H fun b H => opt (cmpA H op a b) fun r => Q r H
  | _, _, _, _ => False
noncomputable def qT (C : CT) : ME → AE → AH → (Bool → AH → Prop) → Prop
  | .not a, ρ, H, Q => qT C a ρ H fun r H => Q (!r) H
  | .and es, ρ, H, Q => qTs C true es ρ H Q
  | .or es, ρ, H, Q => qTs C false es ρ H Q
  | .cmp op a b, ρ, H, Q => qE C a ρ H fun a H => qE C b ρ H fun b H => opt (cmpA H op a b) fun r => Q r H
  | .var x, ρ, H, Q => opt (ρ.lookup x) fun v => opt (truthyA H v) fun b => Q b H
  | .attr o f, ρ, H, Q => qE C o ρ H fun v H => opt (attrA H v f) fun u => opt (truthyA H u) fun b => Q b H
  | .sub o i, ρ, H, Q => qE C o ρ H fun a H => qE C i ρ H fun b H => opt (subA H a b) fun u => opt (truthyA H u) fun b => Q b H
  | .call f args, ρ, H, Q => qEs C args ρ H fun vs H => qCall C f vs H fun v H => opt (truthyA H v) fun b => Q b H
  | .meth o f args, ρ, H, Q => qE C o ρ H fun o H => qMeth C f (qEs C args ρ) o H fun v H => opt (truthyA H v) fun b => Q b H
  | _, _, _, _ => False
noncomputable def qTs (C : CT) : Bool → MEs → AE → AH → (Bool → AH → Prop) → Prop
  | k, .nil, _, H, Q => Q k H
  | k, .cons e r, ρ, H, Q => qT C e ρ H fun b H => (b = k → qTs C k r ρ H Q) ∧ (b = !k → Q b H)
noncomputable def qB (C : CT) : Bool → MEs → AE → AH → KE → Prop
  | _, .nil, _, _, _ => False
  | k, .cons e r, ρ, H, Q => match r with
    | .nil => qE C e ρ H Q
    | .cons _ _ => qE C e ρ H fun v H => opt (truthyA H v) fun b => (b = k → qB C k r ρ H Q) ∧ (b = !k → Q v H)
noncomputable def qEs (C : CT) : MEs → AE → AH → (List AV → AH → Prop) → Prop
  | .nil, _, H, Q => Q [] H
  | .cons e r, ρ, H, Q => qE C e ρ H fun v H => qEs C r ρ H fun vs H => Q (v :: vs) H
end
mutual
noncomputable def qS (C : CT) : MS → AE → AH → KS → Prop
  | .assign x e, ρ, H, Q => qE C e ρ H fun v H => Q .next (setE x v ρ) H
  | .unpack xs e, ρ, H, Q => qE C e ρ H fun v H => opt (tupOf v) fun vs => vs.length = xs.length ∧ Q .next ((xs.zip vs).reverse ++ ρ) H
  | .setattr o f e, ρ, H, Q => qE C e ρ H fun v H => qE C o ρ H fun o H => opt (setattrA H o f v) fun H => Q .next ρ H
  | .setsub o i e, ρ, H, Q => qE C e ρ H fun v H => qE C o ρ H fun o H => qE C i ρ H fun i H => opt (setsubA H o i v) fun H => Q .next ρ H
  | .aug x op e, ρ, H, Q => op = .Sub ∧ opt (ρ.lookup x) fun a => opt (intOf a) fun a => qE C e ρ H fun b H => opt (intOf b) fun b => Q .next (setE x (.int (a - b)) ρ) H
  | .expr e, ρ, H, Q => qE C e ρ H fun v H => (v = .none ∨ ∃ i, v = .int i) ∧ Q .next ρ H
  | .ret e, ρ, H, Q => qE C e ρ H fun v H => Q (.ret v) ρ H
  | .retNone, ρ, H, Q => Q (.ret .none) ρ H
  | .ifs t a b, ρ, H, Q => qT C t ρ H fun r H => (r = true → qSs C a ρ H Q) ∧ (r = false → qSs C b ρ H Q)
  | .while t b, ρ, H, Q => ∃ n, whl (qT C t) (qSs C b) n ρ H Q
  | .for x src body, ρ, H, Q => qE C src ρ H fun v H => match v with
    | .tup vs => fvL (qSs C body) x vs ρ H Q
    | .rng k => 0 ≤ k ∧ k ≤ lim ∧ fvL (qSs C body) x ((List.range k.toNat).map fun (j : Nat) => .int j) ρ H Q
    | .ref a => ∃ n, flL (qSs C body) x a n 0 ρ H Q
    | _ => False
  | .stuck, _, _, _ => False
noncomputable def qSs (C : CT) : MSs → AE → AH → KS → Prop
  | .nil, ρ, H, Q => Q .next ρ H
  | .cons s r, ρ, H, Q => qS C s ρ H (next1 (fun ρ H => qSs C r ρ H Q) Q)
end
noncomputable def resA : AF → AV | .ret v => v | .next => .none
noncomputable def WC : Nat → CT
  | 0, _, _, _, _ => False
  | d + 1, fn, args, H, Q => opt (bindA fn.params fn.dflts args) fun ρ => qSs (WC d) fn.body ρ H fun f _ H => Q (resA f) H

noncomputable def wE (d : Nat) (e : ME) (ρ : AE) (H : AH) (Q : KE) : Prop := qE (WC d) e ρ H Q
noncomputable def wO (d : Nat) (e : ME) (ρ : AE) (H : AH) (Q : Option Int → AH → Prop) : Prop := qO (WC d) e ρ H Q
noncomputable def wI (d : Nat) (e : ME) (ρ : AE) (H : AH) (Q : Bool → AH → Prop) : Prop := qI (WC d) e ρ H Q
noncomputable def wT (d : Nat) (e : ME) (ρ : AE) (H : AH) (Q : Bool → AH → Prop) : Prop := qT (WC d) e ρ H Q
noncomputable def wTs (d : Nat) (k : Bool) (e : MEs) (ρ : AE) (H : AH) (Q : Bool → AH → Prop) : Prop := qTs (WC d) k e ρ H Q
noncomputable def wB (d : Nat) (k : Bool) (e : MEs) (ρ : AE) (H : AH) (Q : KE) : Prop := qB (WC d) k e ρ H Q
noncomputable def wEs (d : Nat) (e : MEs) (ρ : AE) (H : AH) (Q : List AV → AH → Prop) : Prop := qEs (WC d) e ρ H Q
noncomputable def wS (d : Nat) (s : MS) (ρ : AE) (H : AH) (Q : KS) : Prop := qS (WC d) s ρ H Q
noncomputable def wSs (d : Nat) (s : MSs) (ρ : AE) (H : AH) (Q : KS) : Prop := qSs (WC d) s ρ H Q
noncomputable def wCall (d : Nat) (f : String) (vs : List AV) (H : AH) (Q : KE) : Prop := qCall (WC d) f vs H Q
noncomputable def XWh (d : Nat) (t : ME) (b : MSs) (n : Nat) (ρ : AE) (H : AH) (Q : KS) : Prop := whl (wT d t) (wSs d b) n ρ H Q
noncomputable def XFv (d : Nat) (x : String) (vs : List AV) (b : MSs) (ρ : AE) (H : AH) (Q : KS) : Prop := fvL (wSs d b) x vs ρ H Q
noncomputable def XFl (d : Nat) (x : String) (a n i : Nat) (b : MSs) (ρ : AE) (H : AH) (Q : KS) : Prop := flL (wSs d b) x a n i ρ H Q
noncomputable def XCt (d : Nat) (ρ : AE) (elt cond : ME) (acc : Nat) (H : AH) (K : AH → Prop) : Prop := wI d cond ρ H fun r H' => (r = true → wE d elt ρ H' fun w H'' => opt (methA H'' acc "append" [w]) fun r => K r.2) ∧ (r = false → K H')
noncomputable def XCv (d : Nat) (ρ : AE) (elt : ME) (x : String) (cond : ME) (acc : Nat) (vs : List AV) (H : AH) (Q : KE) : Prop := cvL (fun v H K => XCt d ((x, v) :: ρ) elt cond acc H K) acc vs H Q
noncomputable def XCl (d : Nat) (ρ : AE) (elt : ME) (x : String) (cond : ME) (acc a n i : Nat) (H : AH) (Q : KE) : Prop := clL (fun v H K => XCt d ((x, v) :: ρ) elt cond acc H K) acc a n i H Q

section
variable {d : Nat} {ρ : AE} {H : AH} {Q : KE}
theorem wE_int {i : Int} : wE d (.int i) ρ H Q = Q (.int i) H := id rfl
theorem wE_str {i : String} : wE d (.str i) ρ H Q = Q (.str i) H := id rfl
theorem wE_bool {i : Bool} : wE d (.bool i) ρ H Q = Q (.bool i) H := id rfl
theorem wE_var {x : String} : wE d (.var x) ρ H Q = opt (ρ.lookup x) fun v => Q v H := id rfl
theorem wE_attr {o : ME} {f : String} : wE d (.attr o f) ρ H Q = wE d o ρ H fun v H => opt (attrA H v f) fun u => Q u H := id rfl
theorem wE_sub {o i : ME} : wE d (.sub o i) ρ H Q = wE d o ρ H fun a H => wE d i ρ H fun b H => opt (subA H a b) fun u => Q u H := id rfl
theorem wE_slice {o lo hi : ME} : wE d (.slice o lo hi) ρ H Q = wE d o ρ H fun a H => opt (refOf a) fun a => wO d lo ρ H fun lo H => wO d hi ρ H fun hi H => opt (sliceH H (.ref a) lo hi) fun r => Q r.1 r.2 := id rfl
theorem wE_bin {op : Op} {a b : ME} : wE d (.bin op a b) ρ H Q = wE d a ρ H fun a H => wE d b ρ H fun b H => opt (binA H op a b) fun r => Q r.1 r.2 := id rfl
theorem wE_neg {a : ME} : wE d (.neg a) ρ H Q = wE d a ρ H fun v H => opt (intOf v) fun i => Q (.int (-i)) H := id rfl
theorem wE_not {a : ME} : wE d (.not a) ρ H Q = wE d a ρ H fun v H => opt (truthyA H v) fun b => Q (.bool (!b)) H := id rfl
theorem wE_cmp {op : Cm} {a b : ME} : wE d (.cmp op a b) ρ H Q = wE d a ρ H fun a H => wE d b ρ H fun b H => opt (cmpA H op a b) fun r => Q (.bool r) H := id rfl
theorem wE_and {es : MEs} : wE d (.and es) ρ H Q = wB d true es ρ H Q := id rfl
theorem wE_or {es : MEs} : wE d (.or es) ρ H Q = wB d false es ρ H Q := id rfl
theorem wE_ite {t a b : ME} : wE d (.ite t a b) ρ H Q = wT d t ρ H fun r H => (r = true → wE d a ρ H Q) ∧ (r = false → wE d b ρ H Q) := id rfl
theorem wE_tup {es : MEs} : wE d (.tup es) ρ H Q = wEs d es ρ H fun vs H => vs.length ≤ lim ∧ Q (.tup vs) H := id rfl
theorem wE_lst {es : MEs} : wE d (.lst es) ρ H Q = wEs d es ρ H fun vs H => vs.length ≤ lim ∧ Q (.ref H.length) (H ++ [.list vs]) := id rfl
theorem wE_dict0 : wE d .dict0 ρ H Q = Q (.ref H.length) (H ++ [.dict []]) := id rfl
theorem wE_dict1 {k v : ME} : wE d (.dict1 k v) ρ H Q = wE d k ρ H fun k H => opt (intOf k) fun k => wE d v ρ H fun v H => Q (.ref H.length) (H ++ [.dict [(k, v)]]) := id rfl
theorem wE_call {f : String} {args : MEs} : wE d (.call f args) ρ H Q = wEs d args ρ H fun vs H => wCall d f vs H Q := id rfl
theorem wE_meth {o : ME} {f : String} {args : MEs} : wE d (.meth o f args) ρ H Q = wE d o ρ H fun o H => opt (kindA H o f) fun k => match k with
    | .inst a c => opt (fnsM c f) fun fn => wEs d args ρ H fun vs H => WC d fn (.ref a :: vs) H Q
    | .list a => knownL f = true ∧ wEs d args ρ H fun vs H => opt (methL H a f vs) fun r => Q r.1 r.2
    | .dict a => f = "get" ∧ wEs d args ρ H fun vs H => opt (methD H a f vs) fun r => Q r.1 r.2 := id rfl
theorem wE_comp {elt : ME} {x : String} {src cond : ME} {frees : List String} : wE d (.comp elt x src cond frees) ρ H Q = wE d src ρ H fun v H => match v with
    | .rng k => 0 ≤ k ∧ k ≤ lim ∧ XCv d (ρ.filter fun p => frees.contains p.1) elt x cond H.length ((List.range k.toNat).map fun (j : Nat) => .int j) (H ++ [.list []]) Q
    | .ref a => ∃ n, XCl d (ρ.filter fun p => frees.contains p.1) elt x cond H.length a n 0 (H ++ [.list []]) Q
    | _ => False := id rfl
theorem wEs_nil {Q : List AV → AH → Prop} : wEs d .nil ρ H Q = Q [] H := id rfl
theorem wEs_cons {e : ME} {r : MEs} {Q : List AV → AH → Prop} : wEs d (.cons e r) ρ H Q = wE d e ρ H fun v H => wEs d r ρ H fun vs H => Q (v :: vs) H := id rfl
theorem wTs_nil {k : Bool} {Q : Bool → AH → Prop} : wTs d k .nil ρ H Q = Q k H := id rfl
theorem wTs_cons {k : Bool} {e : ME} {r : MEs} {Q : Bool → AH → Prop} : wTs d k (.cons e r) ρ H Q = wT d e ρ H fun b H => (b = k → wTs d k r ρ H Q) ∧ (b = !k → Q b H) := id rfl
end
section
variable {d : Nat} {ρ : AE} {H : AH} {Q : KS}
theorem wS_assign {x : String} {e : ME} : wS d (.assign x e) ρ H Q = wE d e ρ H fun v H => Q .next (setE x v ρ) H := id rfl
theorem wS_unpack {xs : List String} {e : ME} : wS d (.unpack xs e) ρ H Q = wE d e ρ H fun v H => opt (tupOf v) fun vs => vs.length = xs.length ∧ Q .next ((xs.zip vs).reverse ++ ρ) H := id rfl
theorem wS_setattr {o : ME} {f : String} {e : ME} : wS d (.setattr o f e) ρ H Q = wE d e ρ H fun v H => wE d o ρ H fun o H => opt (setattrA H o f v) fun H => Q .next ρ H := id rfl
theorem wS_setsub {o i e : ME} : wS d (.setsub o i e) ρ H Q = wE d e ρ H fun v H => wE d o ρ H fun o H => wE d i ρ H fun i H => opt (setsubA H o i v) fun H => Q .next ρ H := id rfl
theorem wS_aug {x : String} {op : Op} {e : ME} : wS d (.aug x op e) ρ H Q = (op = .Sub ∧ opt (ρ.lookup x) fun a => opt (intOf a) fun a => wE d e ρ H fun b H => opt (intOf b) fun b => Q .next (setE x (.int (a - b)) ρ) H) := id rfl
theorem wS_expr {e : ME} : wS d (.expr e) ρ H Q = wE d e ρ H fun v H => (v = .none ∨ ∃ i, v = .int i) ∧ Q .next ρ H := id rfl
theorem wS_ret {e : ME} : wS d (.ret e) ρ H Q = wE d e ρ H fun v H => Q (.ret v) ρ H := id rfl
theorem wS_retNone : wS d .retNone ρ H Q = Q (.ret .none) ρ H := id rfl
theorem wS_ifs {t : ME} {a b : MSs} : wS d (.ifs t a b) ρ H Q = wT d t ρ H fun r H => (r = true → wSs d a ρ H Q) ∧ (r = false → wSs d b ρ H Q) := id rfl
theorem wS_while {t : ME} {b : MSs} : wS d (.while t b) ρ H Q = ∃ n, XWh d t b n ρ H Q := id rfl
theorem wS_for {x : String} {src : ME} {body : MSs} : wS d (.for x src body) ρ H Q = wE d src ρ H fun v H => match v with
    | .tup vs => XFv d x vs body ρ H Q
    | .rng k => 0 ≤ k ∧ k ≤ lim ∧ XFv d x ((List.range k.toNat).map fun (j : Nat) => .int j) body ρ H Q
    | .ref a => ∃ n, XFl d x a n 0 body ρ H Q
    | _ => False := id rfl
theorem wS_stuck : wS d .stuck ρ H Q = False := id rfl
end
/-- a call's rule -/
theorem WC_of {d : Nat} {fn : Fn} {args : List AV} {H : AH} {Q : KE} {ρ : AE} (hb : bindA fn.params fn.dflts args = some ρ) (h : wSs d fn.body ρ H fun f _ H => Q (resA f) H) : WC (d + 1) fn args H Q := opt_intro hb h

theorem XWh_of {d n : Nat} {t : ME} {b : MSs} {ρ : AE} {H : AH} {Q : KS} (h : wT d t ρ H fun r H => (r = true → wSs d b ρ H fun f ρ H => match f with
    | .next => XWh d t b n ρ H Q
    | .ret v => Q (.ret v) ρ H) ∧ (r = false → Q .next ρ H)) : XWh d t b (n + 1) ρ H Q := h
theorem XFv_nil {d : Nat} {x : String} {b : MSs} {ρ : AE} {H : AH} {Q : KS} (h : Q .next ρ H) : XFv d x [] b ρ H Q := h
theorem XFv_cons {d : Nat} {x : String} {v : AV} {r : List AV} {b : MSs} {ρ : AE} {H : AH} {Q : KS} (h : wSs d b (setE x v ρ) H fun f ρ H => match f with
    | .next => XFv d x r b ρ H Q
    | .ret v => Q (.ret v) ρ H) : XFv d x (v :: r) b ρ H Q := h
theorem XFl_nil {d n : Nat} {x : String} {a i : Nat} {b : MSs} {ρ : AE} {H : AH} {Q : KS} {vs : List AV} (ha : H[a]? = some (.list vs)) (hi : vs[i]? = Option.none) (h : Q .next ρ H) : XFl d x a (n + 1) i b ρ H Q := by
  unfold XFl flL; simp only [ha, hi]; exact h
theorem XFl_cons {d n : Nat} {x : String} {a i : Nat} {v : AV} {b : MSs} {ρ : AE} {H : AH} {Q : KS} {vs : List AV} (ha : H[a]? = some (.list vs)) (hi : vs[i]? = some v) (h : wSs d b (setE x v ρ) H fun f ρ H => match f with
    | .next => XFl d x a n (i + 1) b ρ H Q
    | .ret v => Q (.ret v) ρ H) : XFl d x a (n + 1) i b ρ H Q := by
  unfold XFl flL; simp only [ha, hi]; exact h
theorem XCt_plain {d : Nat} {ρ : AE} {elt : ME} {acc : Nat} {H : AH} {K : AH → Prop} (h : wE d elt ρ H fun w H => opt (methA H acc "append" [w]) fun r => K r.2) : XCt d ρ elt .absent acc H K := ⟨fun _ => h, fun e => (by cases e)⟩
theorem XCt_if {d : Nat} {ρ : AE} {elt : ME} {op : Cm} {a b : ME} {acc : Nat} {H : AH} {K : AH → Prop} (h : wT d (.cmp op a b) ρ H fun r H => (r = true → wE d elt ρ H fun w H => opt (methA H acc "append" [w]) fun r => K r.2) ∧ (r = false → K H)) : XCt d ρ elt (.cmp op a b) acc H K := h
theorem XCv_nil {d : Nat} {ρ : AE} {elt : ME} {x : String} {cond : ME} {acc : Nat} {H : AH} {Q : KE} (h : Q (.ref acc) H) : XCv d ρ elt x cond acc [] H Q := h
theorem XCv_cons {d : Nat} {ρ : AE} {elt : ME} {x : String} {cond : ME} {acc : Nat} {v : AV} {r : List AV} {H : AH} {Q : KE} (h : XCt d ((x, v) :: ρ) elt cond acc H fun H => XCv d ρ elt x cond acc r H Q) : XCv d ρ elt x cond acc (v :: r) H Q := h
theorem XCl_nil {d n : Nat} {ρ : AE} {elt : ME} {x : String} {cond : ME} {acc a i : Nat} {H : AH} {Q : KE} {vs : List AV} (ha : H[a]? = some (.list vs)) (hi : vs[i]? = Option.none) (h : Q (.ref acc) H) : XCl d ρ elt x cond acc a (n + 1) i H Q := by
  unfold XCl clL; simp only [ha, hi]; exact h
theorem XCl_cons {d n : Nat} {ρ : AE} {elt : ME} {x : String} {cond : ME} {acc a i : Nat} {v : AV} {H : AH} {Q : KE} {vs : List AV} (ha : H[a]? = some (.list vs)) (hi : vs[i]? = some v) (h : XCt d ((x, v) :: ρ) elt cond acc H fun H => XCl d ρ elt x cond acc a n (i + 1) H Q) : XCl d ρ elt x cond acc a (n + 1) i H Q := by
  unfold XCl clL; simp only [ha, hi]; exact h
end Mine
end
section
open PySem PySem.W PySem.Calls PyProof.Rows
set_option maxRecDepth 100000
namespace Mine

noncomputable def opOf : Op → Operator
  | .Add => .Add | .Sub => .Sub | .Mult => .Mult | .FloorDiv => .FloorDiv | .Mod => .Mod
noncomputable def cmOf : Cm → CmpOp
  | .Eq => .Eq | .NotEq => .NotEq | .Lt => .Lt | .Gt => .Gt | .In => .In | .NotIn => .NotIn

/-- no call of super -/
noncomputable def baseOk (e : Expr) : Prop := ∀ attr env whole, attributeBase e attr env whole = whole
noncomputable def notDebug (x : String) : Prop := (Str.ofString x == ("__debug__" : Str)) = false

/-- a name that the text calls -/
noncomputable def knownF (f : String) : Bool := f == "len" || f == "range" || f == "list" || (fnsM f "__init__").isSome || (fnsG f).isSome

mutual
inductive RE : Scope → ME → Expr → Prop
  | int {sc i k pos} : RE sc (.int i) (.Constant (.int i) k pos)
  | str {sc s k pos} : RE sc (.str s) (.Constant (.str (Str.ofString s)) k pos)
  | bool {sc b k pos} : RE sc (.bool b) (.Constant (.bool b) k pos)
  | var {sc x pos} (hd : notDebug x) : RE sc (.var x) (.Name (Str.ofString x) pos)
  | attr {sc o f e pos} (h : RE sc o e) (hb : baseOk e) : RE sc (.attr o f) (.Attribute e (Str.ofString f) pos)
  | sub {sc o i e e' pos} (h : RE sc o e) (hi : RE sc i e') : RE sc (.sub o i) (.Subscript e e' pos)
  | slice {sc o lo hi e l u p pos} (h : RE sc o e) (hl : RO sc lo l) (hu : RO sc hi u) : RE sc (.slice o lo hi) (.Subscript e (.Slice l u none p) pos)
  | bin {sc op a b e e' pos} (h : RE sc a e) (h' : RE sc b e') : RE sc (.bin op a b) (.BinOp e (opOf op) e' pos)
  | neg {sc a e pos} (h : RE sc a e) : RE sc (.neg a) (.UnaryOp .USub e pos)
  | not {sc a e pos} (h : RE sc a e) : RE sc (.not a) (.UnaryOp .Not e pos)
  | cmp {sc op a b e e' pos} (h : RE sc a e) (h' : RE sc b e') (hm : behindInMarks (cmOf op) e' = false) : RE sc (.cmp op a b) (.Compare e [cmOf op] [e'] pos)
  | and {sc es l pos} (h : REs sc es l) : RE sc (.and es) (.BoolOp .And l pos)
  | or {sc es l pos} (h : REs sc es l) : RE sc (.or es) (.BoolOp .Or l pos)
  | ite {sc t a b et ea eb pos} (ht : RE sc t et) (ha : RE sc a ea) (hb : RE sc b eb) : RE sc (.ite t a b) (.IfExp et ea eb pos)
  | tup {sc es l k pos} (h : REs sc es l) : RE sc (.tup es) (.Tuple l k pos)
  | lst {sc es l pos} (h : REs sc es l) : RE sc (.lst es) (.List l pos)
  | dict0 {sc pos} : RE sc .dict0 (.Dict [] [] pos)
  | dict1 {sc k v ek ev pos} (hk : RE sc k ek) (hv : RE sc v ev) : RE sc (.dict1 k v) (.Dict [some ek] [ev] pos)
  | call {sc f args l p pos} (hg : sc.names.lookup (Str.ofString f) = some .globalImplicit) (hd : notDebug f) (hk : knownF f = true) (h : REs sc args l) : RE sc (.call f args) (.Call (.Name (Str.ofString f) p) l [] pos)
  | meth {sc o f args e l p pos} (h : RE sc o e) (hb : baseOk e) (hs : REs sc args l) (hn : l.length ≤ 20) (hp : (p.endLine == pos.line) = true) : RE sc (.meth o f args) (.Call (.Attribute e (Str.ofString f) p) l [] pos)
  | comp {sc sc' elt x src cond frees elt' px src' ifs pos} (hsrc : RE sc src src') (helt : RE sc' elt elt') (hc : RI sc' cond ifs)
      (hk : sc'.kind = .function) (hx : sc'.names.lookup (Str.ofString x) = some .local) (hf : ∀ y ∈ frees, sc'.names.lookup (Str.ofString y) = some .free ∧ sc.names.lookup (Str.ofString y) = some .cell)
      (hn : ∀ y ∈ sc'.names, (y.2 = .free ∧ sc.names.lookup y.1 = some .cell) ∨ y.2 = .local ∨ y.2 = .globalImplicit) (hnd : (sc'.names.map (·.1)).Nodup) (hxf : x ∉ frees) :
      RE sc (.comp elt x src cond frees) (.ListComp elt' [⟨.Name (Str.ofString x) px, src', ifs, 0⟩] sc' pos)
inductive RO : Scope → ME → Option Expr → Prop
  | absent {sc} : RO sc .absent none
  | some {sc m e} (h : RE sc m e) : RO sc m (some e)
inductive RI : Scope → ME → List Expr → Prop
  | absent {sc} : RI sc .absent []
  | one {sc m e} (h : RE sc m e) : RI sc m [e]
inductive REs : Scope → MEs → List Expr → Prop
  | nil {sc} : REs sc .nil []
  | cons {sc m ms e l} (h : RE sc m e) (t : REs sc ms l) : REs sc (.cons m ms) (e :: l)
end

/-- a name that the frame may store -/
noncomputable def storeOk (sc : Scope) (x : String) : Prop := sc.names.lookup (Str.ofString x) = some .local ∨ sc.names.lookup (Str.ofString x) = some .cell
/-- no display's own way of storing -/
noncomputable def plainV (e : Expr) : Prop := ∀ t l env, swapsWith e t l env = pure false

mutual
inductive RS : Scope → MS → Stmt → Prop
  | assign {sc x m e p pos} (h : RE sc m e) (hx : storeOk sc x) (hs : plainV e) : RS sc (.assign x m) (.Assign [.Name (Str.ofString x) p] e pos)
  | compAssign {sc x m e p pos} (h : RE sc m e) (hx : sc.names.lookup (Str.ofString x) = some .local) (hs : ∃ a b c d, e = .ListComp a b c d ∧ (p.line == d.line) = true ∧ (c.names.any fun y => y.1 == Str.ofString x && (y.2 == .local || y.2 == .cell)) = false) : RS sc (.assign x m) (.Assign [.Name (Str.ofString x) p] e pos)
  | unpack {sc xs m e ts k p pos} (h : RE sc m e) (hx : ∀ x ∈ xs, storeOk sc x) (ht : RN xs ts) (hs : plainV e) (hsw : ∀ env, swappedStores [.Tuple ts k p] e env = pure none) (hz : xs.length ≤ 20) : RS sc (.unpack xs m) (.Assign [.Tuple ts k p] e pos)
  | setattr {sc o f m eo e p pos} (ho : RE sc o eo) (h : RE sc m e) (hs : plainV e) : RS sc (.setattr o f m) (.Assign [.Attribute eo (Str.ofString f) p] e pos)
  | setsub {sc o i m eo ei e p pos} (ho : RE sc o eo) (hi : RE sc i ei) (h : RE sc m e) (hs : plainV e) : RS sc (.setsub o i m) (.Assign [.Subscript eo ei p] e pos)
  | aug {sc x op m e p pos} (h : RE sc m e) (hx : storeOk sc x) : RS sc (.aug x op m) (.AugAssign (.Name (Str.ofString x) p) (opOf op) e pos)
  | expr {sc m e pos} (h : RE sc m e) (hs : plainV e) : RS sc (.expr m) (.Expr e pos)
  | ret {sc m e pos} (h : RE sc m e) : RS sc (.ret m) (.Return (some e) pos)
  | retNone {sc pos} : RS sc .retNone (.Return none pos)
  | ifs {sc t a b et sa sb pos} (ht : RE sc t et) (ha : RSs sc a sa) (hb : RSs sc b sb) : RS sc (.ifs t a b) (.If et sa sb pos)
  | while {sc t b et sb pos} (ht : RE sc t et) (hb : RSs sc b sb) : RS sc (.while t b) (.While et sb [] pos)
  | for {sc x m e b sb p pos} (h : RE sc m e) (hx : storeOk sc x) (hb : RSs sc b sb) : RS sc (.for x m b) (.For (.Name (Str.ofString x) p) e sb [] pos)
  | stuck {sc s} : RS sc .stuck s
inductive RSs : Scope → MSs → List Stmt → Prop
  | nil {sc} : RSs sc .nil []
  | cons {sc m ms s l} (h : RS sc m s) (t : RSs sc ms l) : RSs sc (.cons m ms) (s :: l)
inductive RN : List String → List Expr → Prop
  | nil : RN [] []
  | cons {x xs p l} (t : RN xs l) : RN (x :: xs) (.Name (Str.ofString x) p :: l)
end

noncomputable def KindOk (env : Env) (sc : Scope) : Prop := ∀ x k, sc.names.lookup x = some k → k ≠ .free → env.kindOf x = some k

/-- a def of the text at an address of the top -/
noncomputable def FnLink (K : Frag) (fn : Fn) (a : Addr) : Prop :=
  ∃ (name qual : Str) (params : Arguments) (body : List Stmt) (scope : Scope) (dV kV doc pm : Value) (an : Option Addr) (cdv ct oc : Value) (od : Option Addr) (osl : Array (Option Value)),
    K.lookup a = some ⟨oc, od, .func (fnOf name qual params body scope dV kV doc pm an cdv ct), osl⟩ ∧ codeIn K cdv qual = true ∧ scope.kind = .function ∧ scope.isCoroutine = false ∧ scope.isGenerator = false ∧
    RSs scope fn.body body ∧ (∀ p ∈ fn.params, scope.names.lookup (Str.ofString p) = some .local) ∧ ((scope.names.map (·.1)).Nodup) ∧ fn.params.Nodup ∧
    ∀ (s : Shared) (vals : List Value), K.In s.heap → fn.params.length ≤ vals.length + fn.dflts.length → vals.length ≤ fn.params.length →
      ∃ dvals, (∀ base ι, VRs base s.heap ι dvals fn.dflts) ∧ BindsTo s (fnOf name qual params body scope dV kV doc pm an cdv ct) ⟨vals, []⟩
        ((fn.params.map Str.ofString).zip (vals ++ dvals.drop (vals.length + dvals.length - fn.params.length)))

/-- what the proof knows of the text's top -/
structure Wd (cl : String → Option Addr) (K : Frag) (base : Heap) : Prop where
  KX : K.In base
  top : ∃ p loose mg mb, TopRead p loose mg mb base
  glb : ∀ f fn, fnsG f = some fn → ∃ a, nsIn K mainGlobals (Str.ofString f) = some (some (.ref a)) ∧ keepIn K (.ref a) = true ∧ FnLink K fn a
  cls : ∀ c fn, fnsM c "__init__" = some fn → ∃ C, cl c = some C ∧ nsIn K mainGlobals (Str.ofString c) = some (some (.ref C)) ∧ keepIn K (.ref C) = true ∧ makesIn K C = true ∧
    ∃ fI, findIn K (.ref C) "__init__" = some (some (.ref fI)) ∧ isFn K (.ref fI) = true ∧ FnLink K fn fI
  att : ∀ c C f, cl c = some C → f ∈ attrsOf c → findIn K (.ref C) (Str.ofString f) = some none
  gen : ∀ c C, cl c = some C → (∀ name, plainGet K C name = true) ∧ hasDictIn K C = true ∧ findIn K (.ref C) "__setattr__" = some (some (.builtin "object.__setattr__")) ∧ plainOver K C = true
  mth : ∀ c f fn C, cl c = some C → fnsM c f = some fn → ∃ a, findIn K (.ref C) (Str.ofString f) = some (some (.ref a)) ∧ isFn K (.ref a) = true ∧ keepIn K (.ref a) = true ∧ FnLink K fn a
  blt : ∀ f, f = "len" ∨ f = "range" ∨ f = "list" → nsIn K mainGlobals (Str.ofString f) = some none

mutual
noncomputable def zE : ME → Nat
  | .attr o _ => zE o + 1
  | .sub a b => zE a + zE b + 1
  | .slice a b c => zE a + zE b + zE c + 1
  | .bin _ a b => zE a + zE b + 1
  | .neg a => zE a + 1
  | .not a => zE a + 1
  | .cmp _ a b => zE a + zE b + 1
  | .and es => zEs es + 1
  | .or es => zEs es + 1
  | .ite t a b => zE t + zE a + zE b + 1
  | .tup es => zEs es + 1
  | .lst es => zEs es + 1
  | .dict1 a b => zE a + zE b + 1
  | .call _ es => zEs es + 1
  | .meth o _ es => zE o + zEs es + 1
  | .comp a _ b c _ => zE a + zE b + zE c + 1
  | _ => 1
noncomputable def zEs : MEs → Nat
  | .nil => 1
  | .cons e r => zE e + zEs r + 1
end
mutual
noncomputable def zS : MS → Nat
  | .ifs _ a b => zSs a + zSs b + 1
  | .while _ b => zSs b + 1
  | .for _ _ b => zSs b + 1
  | _ => 1
noncomputable def zSs : MSs → Nat
  | .nil => 1
  | .cons s r => zS s + zSs r + 1
end
theorem z1 {a n : Nat} (h : a + 1 < n + 1) : a < n := Nat.lt_of_succ_lt_succ h
theorem z2a {a b n : Nat} (h : a + b + 1 < n + 1) : a < n := Nat.lt_of_le_of_lt (Nat.le_add_right _ _) (z1 h)
theorem z2b {a b n : Nat} (h : a + b + 1 < n + 1) : b < n := Nat.lt_of_le_of_lt (Nat.le_add_left _ _) (z1 h)
theorem z3a {a b c n : Nat} (h : a + b + c + 1 < n + 1) : a < n := Nat.lt_of_le_of_lt (Nat.le_add_right _ _) (z2a h)
theorem z3b {a b c n : Nat} (h : a + b + c + 1 < n + 1) : b < n := Nat.lt_of_le_of_lt (Nat.le_add_left _ _) (z2a h)

section
variable (prog : Program) (w : World) (cl : String → Option Addr) (K : Frag) (base : Heap)

/-- what is wanted behind an expression -/
noncomputable def AftE (ι : List Addr) (s : Shared) (H' : AH) (v : AV) (Q : Value → Shared → Prop) : Prop :=
  ∀ cv h' t' ι', Rel cl base ι' H' h' → Ext no ι s.heap ι' h' → VR base h' ι' cv v → Q cv { s with heap := h', toks := t' }
noncomputable def AftEs (ι : List Addr) (s : Shared) (H' : AH) (vs : List AV) (Q : List Value → Shared → Prop) : Prop :=
  ∀ cvs h' t' ι', Rel cl base ι' H' h' → Ext no ι s.heap ι' h' → VRs base h' ι' cvs vs → Q cvs { s with heap := h', toks := t' }
noncomputable def AftT (ι : List Addr) (s : Shared) (H' : AH) (b : Bool) (Q : Bool → Shared → Prop) : Prop :=
  ∀ h' t' ι', Rel cl base ι' H' h' → Ext no ι s.heap ι' h' → Q b { s with heap := h', toks := t' }
noncomputable def partOf (o : Option Int) (cv : Value) : Prop := match o with
  | none => cv = .none
  | some i => ∃ t, cv = .int i t
noncomputable def AftO (ι : List Addr) (s : Shared) (H' : AH) (o : Option Int) (Q : Value → Shared → Prop) : Prop :=
  ∀ cv h' t' ι', Rel cl base ι' H' h' → Ext no ι s.heap ι' h' → partOf o cv → Q cv { s with heap := h', toks := t' }
/-- how a statement leaves -/
noncomputable def FlR (h : Heap) (ι : List Addr) (f : Flow) (af : AF) : Prop := match af with
  | .next => f = .next
  | .ret v => ∃ cv, f = .ret cv ∧ VR base h ι cv v
noncomputable def AftX (env : Env) (ι : List Addr) (s : Shared) (ρ' : AE) (H' : AH) (af : AF) (Q : Flow → Shared → Prop) : Prop :=
  ∀ f h' t' ι', Rel cl base ι' H' h' → ExtS env ι s.heap ι' h' → FrR base env ρ' ι' h' → FlR base h' ι' f af → Q f { s with heap := h', toks := t' }
noncomputable def AftC (ι : List Addr) (s : Shared) (H' : AH) (v : AV) (R : Result → Shared → Prop) : Prop :=
  ∀ cv h' t' ι', Rel cl base ι' H' h' → Ext no ι s.heap ι' h' → VR base h' ι' cv v → R (.ok (.ret cv)) { s with heap := h', toks := t' }

/-- an iterator that will give these -/
inductive ItV (h : Heap) (ι : List Addr) (it : Addr) : List AV → Prop
  | tup {t : Addr} {items : List Value} {n i : Nat} {vs : List AV} (hi : h.IsTupleIter it t i) (ht : h.get? t = some (tupObj items n)) (hv : VRs base h ι (items.drop i) vs) : ItV h ι it vs
  | rng {x : Int} {k : Nat} (hi : IsRangeIter h it x k 1) : ItV h ι it ((List.range k).map fun (j : Nat) => AV.int (x + j))

/-- a turn's tests -/
noncomputable def compTest (ifs : List Expr) (env : Env) : Sem Bool := forIn ifs true fun (c : Expr) (r : Bool) => (if r = true then do let ok ← isTrue c env (eval c env); pure (ForInStep.yield ok) else pure (ForInStep.yield r) : Sem (ForInStep Bool))
/-- a thing off the abstract heap and off the frame: an iterator -/
structure Off (env : Env) (ι : List Addr) (h : Heap) (it : Addr) : Prop where
  ni : it ∉ ι
  nl : ¬ ownF env it
  nb : base.objs.size ≤ it
  live : ∃ o, h.get? it = some o ∧ imm o = false

noncomputable def AftL (env : Env) (ι₀ : List Addr) (h₀ : Heap) (s : Shared) (ρ' : AE) (H' : AH) (af : AF) (R : Result → Shared → Prop) : Prop :=
  ∀ f h' t' ι', Rel cl base ι' H' h' → ExtS env ι₀ h₀ ι' h' → FrR base env ρ' ι' h' → FlR base h' ι' f af → R (.ok f) { s with heap := h', toks := t' }
noncomputable def AftM (env : Env) (ι₀ : List Addr) (h₀ : Heap) (s : Shared) (ρ : AE) (H' : AH) (acc : Nat) (la : Addr) (R : Result → Shared → Prop) : Prop :=
  ∀ h' t' ι' ρ', ι'[acc]? = some la → Rel cl base ι' H' h' → Ext no ι₀ h₀ ι' h' → FrR base env ρ' ι' h' → (∀ y v, ρ.lookup y = some v → ρ'.lookup y = some v) → R (.ok .next) { s with heap := h', toks := t' }

/-- what is shown of an expression, a test, a statement, a call -/
noncomputable def SE (d : Nat) (m : ME) : Prop := ∀ ρ H P, wE d m ρ H P → ∀ sc e, RE sc m e → ∀ A E s ι env Q, Cx A d → KindOk env sc → Rel cl base ι H s.heap → FrR base env ρ ι s.heap → (∀ v H', P v H' → AftE cl base ι s H' v Q) →
    wpAny (model prog w) A (eval e env) Q E s
noncomputable def SO (d : Nat) (m : ME) : Prop := ∀ ρ H P, wO d m ρ H P → ∀ sc e, RO sc m e → ∀ A E s ι env Q, Cx A d → KindOk env sc → Rel cl base ι H s.heap → FrR base env ρ ι s.heap → (∀ v H', P v H' → AftO cl base ι s H' v Q) →
    wpAny (model prog w) A (valueOrNone (evalOpt e env)) Q E s
noncomputable def SEs (d : Nat) (m : MEs) : Prop := ∀ ρ H P, wEs d m ρ H P → ∀ sc l, REs sc m l → ∀ A E s ι env pos Q, Cx A d → KindOk env sc → Rel cl base ι H s.heap → FrR base env ρ ι s.heap → (∀ v H', P v H' → AftEs cl base ι s H' v Q) →
    wpAny (model prog w) A (spliced (backTo pos (starEach l env))) Q E s
noncomputable def ST (d : Nat) (m : ME) : Prop := ∀ ρ H P, wT d m ρ H P → ∀ sc e, RE sc m e → ∀ A E s ι env Q, Cx A d → KindOk env sc → Rel cl base ι H s.heap → FrR base env ρ ι s.heap → (∀ v H', P v H' → AftT cl base ι s H' v Q) →
    wpAny (model prog w) A (isTrue e env (eval e env)) Q E s
noncomputable def STs (d : Nat) (m : MEs) : Prop := ∀ k ρ H P, wTs d k m ρ H P → ∀ sc l, REs sc m l → ∀ A E s ι env Q, Cx A d → KindOk env sc → Rel cl base ι H s.heap → FrR base env ρ ι s.heap → (∀ v H', P v H' → AftT cl base ι s H' v Q) →
    wpAny (model prog w) A (allTrue (if k then .And else .Or) l env) Q E s
noncomputable def SB (d : Nat) (m : MEs) : Prop := ∀ k ρ H P, wB d k m ρ H P → ∀ sc l, REs sc m l → ∀ A E s ι env pos Q, Cx A d → KindOk env sc → Rel cl base ι H s.heap → FrR base env ρ ι s.heap → (∀ v H', P v H' → AftE cl base ι s H' v Q) →
    wpAny (model prog w) A (boolOp pos (if k then .And else .Or) (evalEach l env)) Q E s
noncomputable def SC (d : Nat) : Prop := ∀ fn args H P, WC d fn args H P → ∀ a cvs, FnLink K fn a → ∀ A R s ι, CxC A d → Rel cl base ι H s.heap → VRs base s.heap ι cvs args → (∀ v H', P v H' → AftC cl base ι s H' v R) →
    codeAny (model prog w) A (.call (.ref a) ⟨cvs, []⟩) R s
noncomputable def SX (d : Nat) (m : MS) : Prop := ∀ ρ H P, wS d m ρ H P → ∀ sc st, RS sc m st → ∀ A E s ι env Q, Cx A d → KindOk env sc → Rel cl base ι H s.heap → FrR base env ρ ι s.heap → (∀ f ρ' H', P f ρ' H' → AftX cl base env ι s ρ' H' f Q) →
    wpAny (model prog w) A (exec st env) Q E s
noncomputable def SXs (d : Nat) (m : MSs) : Prop := ∀ ρ H P, wSs d m ρ H P → ∀ sc st, RSs sc m st → ∀ A E s ι env Q, Cx A d → KindOk env sc → Rel cl base ι H s.heap → FrR base env ρ ι s.heap → (∀ f ρ' H', P f ρ' H' → AftX cl base env ι s ρ' H' f Q) →
    wpAny (model prog w) A (execs st env) Q E s

/-- all of it, for what is smaller than n -/
structure Snd (d n : Nat) : Prop where
  e : ∀ m, zE m < n → SE prog w cl base d m
  o : ∀ m, zE m < n → SO prog w cl base d m
  es : ∀ m, zEs m < n → SEs prog w cl base d m
  t : ∀ m, zE m < n → ST prog w cl base d m
  ts : ∀ m, zEs m < n → STs prog w cl base d m
  b : ∀ m, zEs m < n → SB prog w cl base d m
  c : SC prog w cl K base d
end
end Mine
end
section
open PySem PySem.W PySem.Calls PyProof.Rows
set_option maxRecDepth 100000
namespace Mine

section
variable {prog : Program} {w : World} {cl : String → Option Addr} {K : Frag} {base : Heap} {A : Around} {E : Value → Shared → Prop} {s : Shared} {ι : List Addr} {H : AH}

theorem Wd.X (W : Wd cl K base) (R : Rel cl base ι H s.heap) : K.In s.heap := W.KX.keeps R.keep

theorem VR.handed {h : Heap} {cv : Value} {v : AV} (x : VR base h ι cv v) : handedIn cv = true := by cases x <;> rfl

theorem isStr_ofString (a b : String) (t : Tok) : (Value.str (Str.ofString a) t).isStr (Str.ofString b) = decide (a = b) := by
  show (Str.ofString a == Str.ofString b) = _
  by_cases h : a = b
  · subst h; simp
  · rw [decide_eq_false h]; exact beq_eq_false_iff_ne.mpr fun e => h (ofString_inj e)

theorem FRs.get {h : Heap} {es : List DictEntry} {fs : List (String × AV)} (x : FRs base h ι es fs) (f : String) :
    (∀ v, fs.lookup f = some v → ∃ cv, getL (Str.ofString f) es = some (some cv) ∧ VR base h ι cv v) ∧ (fs.lookup f = none → getL (Str.ofString f) es = some none) := by
  have key : (∀ v, fs.lookup f = some v → ∃ e, es.find? (·.key.isStr (Str.ofString f)) = some e ∧ VR base h ι e.val v) ∧ (fs.lookup f = none → es.find? (·.key.isStr (Str.ofString f)) = none) ∧ es.any (·.refKey) = false := by
    induction x with
    | nil => exact ⟨fun v e => by simp at e, fun _ => rfl, rfl⟩
    | @cons e kv es fs h t ih =>
      obtain ⟨⟨tk, hk⟩, hv⟩ := h
      obtain ⟨k, u⟩ := kv
      dsimp only at hk hv
      have q : e.key.isStr (Str.ofString f) = decide (k = f) := by rw [hk]; exact isStr_ofString k f tk
      have r : e.refKey = false := by unfold DictEntry.refKey; rw [hk]
      refine ⟨fun v e' => ?_, fun e' => ?_, by rw [List.any_cons, r, ih.2.2]; rfl⟩
      · rw [List.lookup_cons] at e'
        rw [List.find?_cons, q]
        by_cases z : k = f
        · subst z
          simp at e'
          subst e'
          exact ⟨e, by simp, hv⟩
        · have z' : (f == k) = false := by simpa using fun y => z y.symm
          rw [z'] at e'
          rw [decide_eq_false z]
          exact ih.1 v e'
      · rw [List.lookup_cons] at e'
        rw [List.find?_cons, q]
        by_cases z : k = f
        · subst z; simp at e'
        · have z' : (f == k) = false := by simpa using fun y => z y.symm
          rw [z'] at e'
          rw [decide_eq_false z]
          exact ih.2.1 e'
  refine ⟨fun v e => ?_, fun e => ?_⟩
  · obtain ⟨en, h1, h2⟩ := key.1 v e
    exact ⟨en.val, by unfold getL; rw [h1], h2⟩
  · unfold getL
    rw [key.2.1 e, key.2.2]; rfl

theorem FRs.put {h : Heap} {es : List DictEntry} {fs : List (String × AV)} (x : FRs base h ι es fs) (f : String) (hs : Int) (t : Tok) {cv : Value} {v : AV} (hv : VR base h ι cv v) :
    FRs base h ι (putL (Str.ofString f) hs (.str (Str.ofString f) t) cv es) (setF f v fs) := by
  induction x with
  | nil => exact .cons ⟨⟨t, rfl⟩, hv⟩ .nil
  | @cons e kv es fs h' r ih =>
    obtain ⟨⟨tk, hk⟩, hu⟩ := h'
    obtain ⟨k, u⟩ := kv
    dsimp only at hk hu
    have q : e.key.isStr (Str.ofString f) = decide (k = f) := by rw [hk]; exact isStr_ofString k f tk
    unfold putL setF
    rw [q]
    by_cases z : k = f
    · rw [beq_iff_eq.mpr z, cond_true, if_pos (decide_eq_true z)]
      exact .cons ⟨⟨tk, hk⟩, hv⟩ r
    · rw [beq_eq_false_iff_ne.mpr z, cond_false, if_neg (by rw [decide_eq_false z]; decide)]
      exact .cons ⟨⟨tk, hk⟩, hu⟩ ih
theorem FRs.len {h : Heap} {es : List DictEntry} {fs : List (String × AV)} (x : FRs base h ι es fs) : es.length = fs.length := by
  induction x with
  | nil => rfl
  | cons _ _ ih => simp [ih]
theorem setF_len (f : String) (v : AV) : ∀ fs : List (String × AV), (setF f v fs).length ≤ fs.length + 1
  | [] => by simp [setF]
  | (k, u) :: r => by
    unfold setF
    cases k == f with
    | true => exact Nat.le_succ _
    | false => exact Nat.succ_le_succ (setF_len f v r)

/-- an thing and its dict -/
theorem Rel.inst {c : String} {i di : Nat} {fs : List (String × AV)} {a : Addr} {h : Heap} (R : Rel cl base ι H h) (hi : ι[i]? = some a) (h1 : H[i]? = some (.inst c di)) (h2 : H[di]? = some (.fields fs)) :
    ∃ C d es n, cl c = some C ∧ ι[di]? = some d ∧ h.get? a = some (instObj C d) ∧ h.get? d = some (dictOf es n) ∧ FRs base h ι es fs ∧ InstAt h a (instObj C d) C (some (dictOf es n)) := by
  have o1 := R.obj i a _ hi h1
  cases o1 with
  | @inst c C d di ho hc hd =>
    have o2 := R.obj di d _ hd h2
    cases o2 with
    | @fields es n fs ho2 hv =>
      exact ⟨C, d, es, n, hc, hd, ho, ho2, hv, ⟨ho, rfl, rfl, ho2⟩⟩

theorem get_attr {c f : String} {i di : Nat} {fs : List (String × AV)} {a : Addr} {v : AV} {expr : Bool} {Q : Value → Shared → Prop} (W : Wd cl K base) (R : Rel cl base ι H s.heap) (hi : ι[i]? = some a) (h1 : H[i]? = some (.inst c di)) (h2 : H[di]? = some (.fields fs))
    (hf : f ∈ attrsOf c) (hv : fs.lookup f = some v) (h : ∀ cv, VR base s.heap ι cv v → Q cv { s with toks := s.toks + 1 }) : wpAny (model prog w) A (getAttr (.ref a) (Str.ofString f) expr) Q E s := by
  obtain ⟨C, d, es, n, hc, hd, ho, ho2, hF, I⟩ := R.inst hi h1 h2
  obtain ⟨g1, g2, _, _⟩ := W.gen c C hc
  obtain ⟨cv, hg, hr⟩ := (hF.get f).1 v hv
  have X := W.X R
  exact get_value X I (plainGet_of (g1 (Str.ofString f))).1 (findObj_own g2 (W.att c C f hc hf) rfl (by rw [lookIn_dict]; exact hg)) hr.handed (h cv hr)

theorem osa_dict' {x C dx : Addr} {es : List DictEntry} {n : Nat} {name : Str} {tk : Tok} {v : Value} {Rr : Result → Shared → Prop} (X : K.In s.heap)
    (I : InstAt s.heap x (instObj C dx) C (some (dictOf es n))) (hp : plainOver K C = true) (ht : takerIn K C name = some none) (hh : hasDictIn K C = true)
    (hl : (getL name es).isSome = true) (hz : es.length ≤ 990)
    (h : Rr (.ok (.ret .none)) { s with heap := s.heap.update dx (Obj.putName name (PyData.keyHash w.params name) (.str name s.toks) v), toks := s.toks + 1 }) :
    codeAny (model prog w) A (.call (.builtin "object.__setattr__") ⟨[.ref x, .str name tk, v], []⟩) Rr s := by
  refine osa_open X I hp ht fun b => ?_
  obtain ⟨cd, hc, hd'⟩ := any_some hh
  obtain ⟨hx, hcl, hn, hdd⟩ := I
  have D : s.heap.get? dx = some (dictOf es n) := hdd
  have e := putName_dict name (PyData.keyHash w.params name) (.str name s.toks) v es n
  have D' : (s.heap.update dx (Obj.putName name (PyData.keyHash w.params name) (.str name s.toks) v)).get? dx = some (dictOf (putL name (PyData.keyHash w.params name) (.str name s.toks) v es) (putN name es n)) := by
    rw [← e]; exact Heap.get?_update_self _ D (by rw [e]; rfl)
  have hlen : ∀ es : List DictEntry, (putL name (PyData.keyHash w.params name) (.str name s.toks) v es).length ≤ es.length + 1 := by
    intro es
    induction es with
    | nil => simp [putL]
    | cons e r ih => unfold putL; split <;> simp <;> lia
  have hz' := hlen es
  refine wpAny_bind (wpAny_pure (wpAny_bind (wpAny_bind (wpAny_loadPart hx (wpAny_bind ((looks_clsIn X hc).here ?_))))))
  rw [hd']
  refine wpAny_pure (a := some dx) (wpAny_bind (wpAny_pure (wpAny_bind ?_)))
  unfold nsSet
  refine wpAny_bind (wpAny_bind (wpAny_askSetting (wpAny_pure (wpAny_bind (wpAny_mkText (wpAny_bind (wpAny_loadPart D ?_)))))))
  dsimp only
  have c : (!es.any (·.key.isStr name) && es.any (·.refKey)) = false := by
    unfold getL at hl
    split at hl
    · rename_i en he
      rw [List.any_eq_true.mpr ⟨en, List.mem_of_find?_eq_some he, List.find?_some he⟩]; rfl
    · split at hl
      · cases hl
      · rename_i z; rw [Bool.not_eq_true] at z; rw [z, Bool.and_false]
  rw [aRefKeyMayBeTheName_at, ← Array.any_toList, ← Array.any_toList, c]
  refine wpAny_updatePart D ?_
  refine wpAny_bind (wpAny_lookBehind D' (pastItsLine_dict (by rw [List.size_toArray, sizeLine_eq]; lia)) ?_)
  exact wpAny_pure h

theorem set_attr {c f : String} {i di : Nat} {fs : List (String × AV)} {a : Addr} {v : AV} {cv : Value} {Q : Unit → Shared → Prop} (W : Wd cl K base) (R : Rel cl base ι H s.heap) (hi : ι[i]? = some a) (h1 : H[i]? = some (.inst c di)) (h2 : H[di]? = some (.fields fs))
    (hf : f ∈ attrsOf c) (hz : fs.length ≤ 900) (hv : VR base s.heap ι cv v)
    (h : ∀ h' t', Rel cl base ι (H.set di (.fields (setF f v fs))) h' → Ext no ι s.heap ι h' → Q () { s with heap := h', toks := t' }) : wpAny (model prog w) A (setAttr (.ref a) (Str.ofString f) cv) Q E s := by
  obtain ⟨C, d, es, n, hc, hd, ho, ho2, hF, I⟩ := R.inst hi h1 h2
  obtain ⟨g1, g2, g3, g4⟩ := W.gen c C hc
  have X := W.X R
  have hl : (getL (Str.ofString f) es).isSome = true := by
    cases q : fs.lookup f with
    | none => rw [(hF.get f).2 q]; rfl
    | some u => obtain ⟨cu, hg, _⟩ := (hF.get f).1 u q; rw [hg]; rfl
  have ht : takerIn K C (Str.ofString f) = some none := by unfold takerIn; rw [W.att c C f hc hf]; rfl
  refine set_plain X I g3 (osa_dict' (s := { s with toks := s.toks + 1 }) X I g4 ht g2 hl (by rw [hF.len]; lia) ?_)
  have e := putName_dict (Str.ofString f) (PyData.keyHash w.params (Str.ofString f)) (.str (Str.ofString f) (s.toks + 1)) cv es n
  have D' : (s.heap.update d (Obj.putName (Str.ofString f) (PyData.keyHash w.params (Str.ofString f)) (.str (Str.ofString f) (s.toks + 1)) cv)).get? d = some (dictOf (putL (Str.ofString f) (PyData.keyHash w.params (Str.ofString f)) (.str (Str.ofString f) (s.toks + 1)) cv es) (putN (Str.ofString f) es n)) := by
    rw [← e]; exact Heap.get?_update_self _ ho2 (by rw [e]; rfl)
  obtain ⟨R', X'⟩ := R.turn (own := no) (ao' := .fields (setF f v fs)) hd h2 (Heap.SameBut.update s.heap d _) ⟨_, D'⟩ fun mono =>
    .fields D' (forall2_imp (fun _ _ y => ⟨y.1, mono y.2⟩) (hF.put f _ _ hv))
  exact h _ _ R' X'
end
end Mine
end
section
open PySem PySem.W PySem.Calls PyProof.Rows
set_option maxRecDepth 100000
namespace Mine

noncomputable def noSlice (e : Expr) : Prop := ∀ l u st p, e ≠ .Slice l u st p
theorem RE.noSlice {sc : Scope} {m : ME} {e : Expr} (r : RE sc m e) : noSlice e := by
  intro l u st p q
  subst q
  cases r
theorem subscripted_plain {e : Expr} (h : noSlice e) (o i : Value) : subscripted e false o i = operate [o, i] (getItem o i) := by
  cases e <;> first | rfl | exact absurd rfl (h _ _ _ _)

theorem idx_seq {k : Int} {n j : Nat} (h : idx? k n = some j) : n ≤ lim ∧ j < n ∧ seqIndex? k n = some j ∧ -(n : Int) ≤ k ∧ k < n ∧ (0 ≤ k → j = k.toNat) ∧ (k < 0 → j = (k + n).toNat) := by
  unfold idx? at h
  split at h
  · rename_i hl
    split at h
    · rename_i h0
      split at h
      · rename_i h1
        cases h
        exact ⟨hl, by lia, seqIndex_of h0 h1, by lia, h1, fun _ => rfl, fun q => by lia⟩
      · cases h
    · rename_i h0
      split at h
      · rename_i h1
        cases h
        exact ⟨hl, by lia, PySem.seqIndex_neg (by lia) (by lia), by lia, by lia, fun q => by lia, fun _ => rfl⟩
      · cases h
  · cases h

theorem lim_lt : (lim : Int) < 2 ^ 62 := by decide
theorem lim_size : lim + 8 ≤ sizeLine := by rw [sizeLine_eq]; decide

section
variable {prog : Program} {w : World} {cl : String → Option Addr} {K : Frag} {base : Heap} {A : Around} {E : Value → Shared → Prop} {s : Shared} {ι : List Addr} {H : AH}

theorem Rel.list {i : Nat} {a : Addr} {xs : List AV} {h : Heap} (R : Rel cl base ι H h) (hi : ι[i]? = some a) (h1 : H[i]? = some (.list xs)) : ∃ cvs n, h.get? a = some (lstObj cvs n) ∧ VRs base h ι cvs xs := by
  cases R.obj i a _ hi h1 with
  | list ho hv => exact ⟨_, _, ho, hv⟩
theorem Rel.dict {i : Nat} {a : Addr} {kvs : List (Int × AV)} {h : Heap} (R : Rel cl base ι H h) (hi : ι[i]? = some a) (h1 : H[i]? = some (.dict kvs)) : ∃ kc, DictI h a kc ∧ All2 (PR base h ι) kc kvs := by
  cases R.obj i a _ hi h1 with
  | dict ho hv => exact ⟨_, ho, hv⟩
theorem isList_of {h : Heap} {a : Addr} {cvs : List Value} {n : Nat} (ho : h.get? a = some (lstObj cvs n)) : h.IsList a cvs.toArray := ⟨_, ho, rfl, n, rfl⟩
theorem isTup_of {h : Heap} {a : Addr} {cvs : List Value} {n : Nat} (ho : h.get? a = some (tupObj cvs n)) : IsTup h a cvs.toArray := ⟨_, ho, rfl, n, rfl⟩
theorem Rel.notMods (W : Wd cl K base) {i : Nat} {a : Addr} {h : Heap} (R : Rel cl base ι H h) (hi : ι[i]? = some a) : (a == sysModules) = false := by
  obtain ⟨p, loose, mg, mb, T⟩ := W.top
  obtain ⟨mc, hn, _⟩ := T.nolimit
  have h1 : cStatics < base.objs.size := hn.lt
  have h2 := R.fresh a (List.mem_of_getElem? hi)
  have h3 : (a : Nat) ≠ 1 := fun e => by
    have h4 : (2 : Nat) < base.objs.size := h1
    have h5 : base.objs.size ≤ (1 : Nat) := e ▸ h2
    lia
  exact beq_eq_false_iff_ne.mpr h3
theorem VRs.at {h : Heap} {cvs : List Value} {vs : List AV} (x : VRs base h ι cvs vs) {j : Nat} {v : AV} (e : vs[j]? = some v) : ∃ cv, cvs[j]? = some cv ∧ VR base h ι cv v := by
  have hl := (List.getElem?_eq_some_iff.mp e).1
  have hl' : j < cvs.length := by rw [x.1]; exact hl
  exact ⟨cvs[j], List.getElem?_eq_getElem hl', x.2 j _ v (List.getElem?_eq_getElem hl') e⟩
theorem PRs.value {h : Heap} {kc : List (Int × Value)} {kvs : List (Int × AV)} (x : All2 (PR base h ι) kc kvs) (k : Int) :
    (∀ v, kvs.lookup k = some v → ∃ cv, valueAt kc k = some cv ∧ VR base h ι cv v) ∧ (kvs.lookup k = none → valueAt kc k = none) := by
  induction x with
  | nil => exact ⟨fun v e => by simp at e, fun _ => rfl⟩
  | @cons c kv kc kvs h t ih =>
    obtain ⟨ck, cv⟩ := c
    obtain ⟨k', v'⟩ := kv
    obtain ⟨e1, e2⟩ := h
    dsimp only at e1 e2
    subst e1
    unfold valueAt at ih ⊢
    simp only [List.lookup_cons, List.find?_cons]
    by_cases z : k = ck
    · subst z
      simp only [beq_self_eq_true, decide_true]
      exact ⟨fun v e => by cases e; exact ⟨cv, rfl, e2⟩, fun e => by cases e⟩
    · have z1 : (k == ck) = false := by simpa using z
      have z2 : decide (ck = k) = false := by simpa using fun y => z y.symm
      simp only [z1, z2]
      exact ih
theorem PRs.keys {h : Heap} {kc : List (Int × Value)} {kvs : List (Int × AV)} (x : All2 (PR base h ι) kc kvs) : kc.map (·.1) = kvs.map (·.1) := by
  induction x with
  | nil => rfl
  | cons h _ ih => rw [List.map_cons, List.map_cons, h.1, ih]
theorem setD_not {k : Int} {v : AV} : ∀ {kvs : List (Int × AV)}, k ∉ kvs.map (·.1) → setD k v kvs = kvs ++ [(k, v)]
  | [], _ => rfl
  | (k', u) :: r, h => by
    rw [List.map_cons, List.mem_cons, not_or] at h
    unfold setD
    rw [if_neg fun e => h.1 e.symm, setD_not h.2]; rfl
theorem PRs.stored {h : Heap} {kc : List (Int × Value)} {kvs : List (Int × AV)} (x : All2 (PR base h ι) kc kvs) (hn : (kc.map (·.1)).Nodup) (k : Int) {cv : Value} {v : AV} (hv : VR base h ι cv v) :
    All2 (PR base h ι) (stored kc k cv) (setD k v kvs) := by
  have key : (kc.any (fun kv => kv.1 = k) = true → All2 (PR base h ι) (kc.map fun kv => if kv.1 = k then (kv.1, cv) else kv) (setD k v kvs)) ∧
      (kc.any (fun kv => kv.1 = k) = false → All2 (PR base h ι) (kc ++ [(k, cv)]) (setD k v kvs)) := by
    induction x with
    | nil => exact ⟨fun e => by simp at e, fun _ => .cons ⟨rfl, hv⟩ .nil⟩
    | @cons c kv kc kvs h t ih =>
      obtain ⟨ck, cu⟩ := c
      obtain ⟨k', u⟩ := kv
      obtain ⟨e1, e2⟩ := h
      dsimp only at e1 e2
      subst e1
      rw [List.map_cons, List.nodup_cons] at hn
      by_cases z : ck = k
      · subst z
        refine ⟨fun _ => ?_, fun e => by simp at e⟩
        rw [List.map_cons, if_pos rfl, map_store_of_not_mem kc _ cv hn.1]
        unfold setD
        rw [if_pos rfl]
        exact .cons ⟨rfl, hv⟩ t
      · have ih' := ih hn.2
        unfold setD
        rw [if_neg z, List.any_cons, decide_eq_false z, Bool.false_or, List.map_cons, if_neg z]
        exact ⟨fun e => .cons ⟨rfl, e2⟩ (ih'.1 e), fun e => .cons ⟨rfl, e2⟩ (ih'.2 e)⟩
  unfold PySem.stored
  split
  · rename_i q; exact key.1 q
  · rename_i q; exact key.2 (Bool.eq_false_iff.mpr q)

theorem sub_item {value slice : Expr} {o i v : AV} {co ci : Value} {Q : Value → Shared → Prop} (R : Rel cl base ι H s.heap) (hs : noSlice slice) (e : subA H o i = some v) (ho : VR base s.heap ι co o) (hi : VR base s.heap ι ci i)
    (h : ∀ cv t', VR base s.heap ι cv v → Q cv { s with toks := t' }) : wpAny (model prog w) A (subscriptTail value slice co ci) Q E s := by
  unfold subA at e
  split at e
  · -- tuple
    rename_i vs k
    obtain ⟨a, cvs, n, rfl, ho, hl, hv⟩ := ho.i_tup
    · skip
      obtain ⟨t, rfl⟩ := hi.i_int
      · skip
        obtain ⟨j, hj, hx⟩ := Option.bind_eq_some_iff.mp e
        obtain ⟨b1, b2, b3, b4, b5, _⟩ := idx_seq hj
        obtain ⟨cv, hc, hr⟩ := VRs.at ⟨hl, hv⟩ hx
        have := lim_lt
        exact item_tupleT (isTup_of ho) (by lia) (by lia) (by rw [hl]; exact b3) hc (h cv s.toks hr) (subscripted_plain hs _ _)
  · rename_i xs k
    split at e
    · rename_i hk0
      obtain ⟨a, cvs, rfl, hb, hI⟩ := ho.i_sl
      · skip
        obtain ⟨t, rfl⟩ := hi.i_int
        · skip
          obtain ⟨j, hj, hx⟩ := Option.bind_eq_some_iff.mp e
          obtain ⟨n, hx1, hx2⟩ := Option.map_eq_some_iff.mp hx
          subst hx2
          obtain ⟨b1, b2, b3, b4, b5, b6, _⟩ := idx_seq hj
          have hL : s.heap.IsList a cvs.toArray := by obtain ⟨ob, hob, r⟩ := hb; exact ⟨ob, R.keep _ _ hob, r⟩
          have hlen := IntsAre.length hI
          have hj' : j < cvs.length := by rw [hlen]; exact b2
          obtain ⟨n', t', hv', hn'⟩ := IntsAre.at hI j cvs[j] (List.getElem?_eq_getElem hj')
          rw [hx1] at hn'
          cases hn'
          have := lim_lt
          refine tail_any hL.typeIs slot_list_getitem.lookup (wpAny_getItem_list (x := .int n t') hL hk0 (by lia) ?_ (h _ s.toks (.int n t'))) (subscripted_plain hs _ _)
          rw [← b6 hk0, List.getElem?_toArray, List.getElem?_eq_getElem hj', hv']
    · cases e
  · rename_i i' k
    obtain ⟨a, rfl, hi'⟩ := ho.i_ref
    · skip
      obtain ⟨t, rfl⟩ := hi.i_int
      · skip
        split at e
        · rename_i vs hH
          obtain ⟨cvs, n, ho, hv⟩ := R.list hi' hH
          obtain ⟨j, hj, hx⟩ := Option.bind_eq_some_iff.mp e
          obtain ⟨b1, b2, b3, b4, b5, b6, b7⟩ := idx_seq hj
          obtain ⟨cv, hc, hr⟩ := hv.at hx
          have := lim_lt
          have hL := isList_of ho
          refine tail_any hL.typeIs slot_list_getitem.lookup ?_ (subscripted_plain hs _ _)
          by_cases hk0 : 0 ≤ k
          · refine wpAny_getItem_list (x := cv) hL hk0 (by lia) ?_ (h cv s.toks hr)
            rw [← b6 hk0, List.getElem?_toArray]; exact hc
          · refine wpAny_getItem_list_neg (x := cv) hL (by lia) (by rw [List.size_toArray, hv.1]; lia) (by lia) ?_ (h cv s.toks hr)
            rw [List.size_toArray, hv.1, ← b7 (by lia), List.getElem?_toArray]; exact hc
        · rename_i kvs hH
          obtain ⟨kc, hd, hv⟩ := R.dict hi' hH
          obtain ⟨cv, hc, hr⟩ := (PRs.value hv k).1 v e
          have hm := (hd prog w).mapOf
          exact tail_any hm.typeIs slot_dict_getitem.lookup (wpAny_getItem_of (intKind_is prog w k t) hm hc (h cv _ hr)) (subscripted_plain hs _ _)
        · cases e
  · cases e
end
end Mine
end
section
open PySem PySem.W PySem.Calls PyProof.Rows
set_option maxRecDepth 100000
namespace Mine

section
variable {prog : Program} {w : World} {cl : String → Option Addr} {K : Frag} {base : Heap} {A : Around} {E : Value → Shared → Prop} {s : Shared} {ι : List Addr} {H : AH}

theorem Rel.turnList {i : Nat} {a : Addr} {xs xs' : List AV} {cvs cvs' : List Value} {n : Nat} {h : Heap} {f : Array Value → Array Value} (R : Rel cl base ι H h) (hi : ι[i]? = some a) (hH : H[i]? = some (.list xs)) (ho : h.get? a = some (lstObj cvs n))
    (hf : f cvs.toArray = cvs'.toArray) (hv : VRs base h ι cvs' xs') : Rel cl base ι (H.set i (.list xs')) (h.update a (Obj.mapSeq f)) ∧ Ext no ι h ι (h.update a (Obj.mapSeq f)) := by
  have ho' : IsL h a cvs.toArray n := ho
  have D := ho'.update f
  rw [hf] at D
  exact R.turn hi hH (Heap.SameBut.update h a _) ⟨_, D⟩ fun mono => .list D ⟨hv.1, fun j cv v a b => mono (hv.2 j cv v a b)⟩

theorem setItem_list' {l : Addr} {items : Array Value} {n : Nat} {k : Int} {t : Tok} {v : Value} {Q : Unit → Shared → Prop} (hl : IsL s.heap l items n)
    (h0 : 0 ≤ k) (hfit : k < 2 ^ 63) (hn : k < items.size) (hQ : Q () { s with heap := s.heap.update l (Obj.mapSeq (·.setIfInBounds k.toNat v)) }) :
    wpAny (model prog w) A (setItem (.ref l) (.int k t) v) Q E s := by
  have hL := hl.isList
  unfold setItem
  try with_reducible refine wpAny_holding ?_
  first | refine wpAny_bind (wpAny_pure ?_) | skip
  refine wpAny_bind (wpAny_sequenceKey hL.typeIs (by decide) ?_)
  refine wpAny_bind (wpAny_callSpecial?_slot (name := Str.ofString "__setitem__") hL.typeIs slot_list_setitem
    (wpAny_call_entry slot_list_setitem hL.typeIs entry_list_setitem ?_ (args_list_setitem _ _ _)))
  show wpAny _ _ (Builtin.List.listSubscript? (.int k t) >>= _) _ _ s
  refine wpAny_bind (wpAny_listSubscript_int (fitsIndex_of h0 hfit) ?_)
  clear hfit
  obtain ⟨j, rfl⟩ := Int.eq_ofNat_of_zero_le h0
  have hj : j < items.size := by lia
  have hx' : items[j]? = some items[j] := Array.getElem?_eq_getElem hj
  show wpAny _ _ ((seqItemAt l j >>= fun r => pure (r.map (j, ·))) >>= _) _ _ s
  refine wpAny_bind (wpAny_bind (wpAny_seqItemAt hl rfl (wpAny_pure ?_)))
  rw [hx']
  show wpAny _ _ (setSeqItemAt l j v >>= _) _ _ s
  refine wpAny_bind (wpAny_setSeqItemAt hl rfl ?_)
  first
    | exact wpAny_bind (wpAny_pure (wpAny_pure ⟨.none, rfl, wpAny_pure hQ⟩))
    | exact wpAny_pure ⟨.none, rfl, wpAny_pure hQ⟩

theorem VRs.set {h : Heap} {cvs : List Value} {vs : List AV} (x : VRs base h ι cvs vs) (j : Nat) {cv : Value} {v : AV} (hv : VR base h ι cv v) : VRs base h ι (cvs.set j cv) (vs.set j v) := by
  refine ⟨by rw [List.length_set, List.length_set, x.1], fun k c u e1 e2 => ?_⟩
  by_cases q : j = k
  · subst q
    have l1 := (List.getElem?_eq_some_iff.mp e1).1
    have l2 := (List.getElem?_eq_some_iff.mp e2).1
    rw [List.length_set] at l1 l2
    rw [List.getElem?_set_self l1] at e1
    rw [List.getElem?_set_self l2] at e2
    cases e1; cases e2; exact hv
  · rw [List.getElem?_set_ne q] at e1 e2
    exact x.2 k c u e1 e2

theorem set_item {o i v : AV} {co ci cv : Value} {H' : AH} {Q : Unit → Shared → Prop} (R : Rel cl base ι H s.heap) (e : setsubA H o i v = some H') (ho : VR base s.heap ι co o) (hi : VR base s.heap ι ci i) (hv : VR base s.heap ι cv v)
    (h : ∀ h' t', Rel cl base ι H' h' → Ext no ι s.heap ι h' → Q () { s with heap := h', toks := t' }) : wpAny (model prog w) A (setItem co ci cv) Q E s := by
  unfold setsubA at e
  split at e
  · rename_i i' k
    obtain ⟨a, rfl, hi'⟩ := ho.i_ref
    · skip
      obtain ⟨t, rfl⟩ := hi.i_int
      · skip
        split at e
        · rename_i vs hH
          split at e
          · rename_i hk0
            obtain ⟨cvs, n, ho, hvs⟩ := R.list hi' hH
            obtain ⟨j, hj, hx⟩ := Option.map_eq_some_iff.mp e
            subst hx
            obtain ⟨b1, b2, b3, b4, b5, b6, b7⟩ := idx_seq hj
            have := lim_lt
            obtain ⟨R', X⟩ := R.turnList (f := (·.setIfInBounds k.toNat cv)) (cvs' := cvs.set k.toNat cv) hi' hH ho (by simp) (hvs.set k.toNat hv)
            refine setItem_list' (n := n) ho hk0 (by lia) (by rw [List.size_toArray, hvs.1]; lia) (h _ s.toks ?_ X)
            rw [b6 hk0]; exact R'
          · cases e
        · rename_i kvs hH
          split at e
          · rename_i hz
            cases e
            obtain ⟨kc, hd, hvs⟩ := R.dict hi' hH
            have hlen : kc.length = kvs.length := by
              have := congrArg List.length (PRs.keys hvs); simpa using this
            have hm := hd prog w
            refine wpAny_setItem_pairs (intKind_is prog w k t) hm (fun h' hd' hs => ?_) (by have := lim_size; rw [hlen]; exact Nat.le_trans hz (by lia))
            have hd'' := DictI.of hd'
            obtain ⟨R', X⟩ := R.turn (own := no) (ao' := .dict (setD k v kvs)) hi' hH hs (by obtain ⟨o, _, _, ho, _⟩ := hd''.obj; exact ⟨o, ho⟩) fun mono =>
              .dict hd'' (forall2_imp (fun _ _ y => ⟨y.1, mono y.2⟩) (PRs.stored hvs hd.nodup k hv))
            exact h h' _ R' X
          · cases e
        · cases e
  · cases e

theorem slicePick_neg1 (items : Array Value) : slicePick items (some (-1)) none none = (items.toList.drop (items.size - 1)).toArray := by
  cases items with
  | mk l =>
    cases l with
    | nil => rfl
    | cons x r =>
      have e : slicePick ⟨x :: r⟩ (some (-1)) none none = slicePick ⟨x :: r⟩ (some ((r.length : Nat) : Int)) none none := by
        unfold slicePick
        have : sliceBounds (some (-1)) none none (⟨x :: r⟩ : Array Value).size = sliceBounds (some ((r.length : Nat) : Int)) none none (⟨x :: r⟩ : Array Value).size := by
          unfold sliceBounds
          simp only [List.size_toArray, List.length_cons]
          refine Prod.ext ?_ rfl
          simp only [Option.getD_none, show (1 : Int) > 0 by decide, if_true, show (-1 : Int) < 0 by decide]
          rw [if_neg (by lia : ¬ ((r.length : Nat) : Int) < 0)]
          congr 1
          lia
        rw [this]
      rw [e, slicePick_from _ _ (by simp)]
      simp

theorem extNew {h : Heap} {own : Addr → Prop} (o : Obj) : Ext own ι h (ι ++ [h.objs.size]) (h.push o) :=
  ⟨⟨_, rfl⟩, fun a m => by
    rcases List.mem_append.mp m with q | q
    · exact .inl q
    · right
      rw [List.mem_singleton.mp q]
      exact none_of_big (Nat.le_refl _), fun b o e _ _ => Heap.get?_push_of_some _ e, fun b o e _ => Heap.get?_push_of_some _ e, fun b o e => ⟨o, Heap.get?_push_of_some _ e⟩⟩
theorem Rel.allocList {xs : List AV} {cvs : List Value} {h : Heap} (R : Rel cl base ι H h) (hv : VRs base h ι cvs xs) :
    Rel cl base (ι ++ [h.objs.size]) (H ++ [.list xs]) (h.push { cls := .type "list", data := .seq cvs.toArray }) ∧ Ext no ι h (ι ++ [h.objs.size]) (h.push { cls := .type "list", data := .seq cvs.toArray }) :=
  R.alloc rfl (.list (cvs := cvs) (n := 0) (Heap.get?_push_size _ rfl) (VRs.ext hv (extNew (own := no) _)))
/-- a cut of a list -/
theorem slice_list {vs r : List AV} {cvs : List Value} {n : Nat} {a : Addr} {lo hi : Option Int} {cl' cu : Value} {value : Expr} {el eu : Option Expr} {p : Pos} {Q : Value → Shared → Prop} (R : Rel cl base ι H s.heap) (ho : s.heap.get? a = some (lstObj cvs n)) (hvs : VRs base s.heap ι cvs vs)
    (hz : vs.length ≤ lim) (e : sliceA vs lo hi = some r) (pl : partOf lo cl') (pu : partOf hi cu)
    (h : ∀ h', Rel cl base (ι ++ [h'.objs.size - 1]) (H ++ [.list r]) h' → Ext no ι s.heap (ι ++ [h'.objs.size - 1]) h' → Q (.ref (h'.objs.size - 1)) { s with heap := h' }) :
    wpAny (model prog w) A (newFields "slice" [cl', cu, .none]) (fun sl s₂ => wpAny (model prog w) A (subscriptTail value (.Slice el eu none p) (.ref a) sl) Q E s₂) E s := by
  have part : ∀ {o : Option Int} {c : Value}, partOf o c → IsPart c o := by
    intro o c p
    cases o with
    | none => have p : c = .none := p; rw [p]; exact .none
    | some i => obtain ⟨t, p⟩ := p; rw [p]; exact .int i t
  have hz' := lim_size
  have hl := hvs.1
  refine wpAny_newObj_type ?_ (by show _ ≤ _; simp [sizeLine_eq])
  refine tail_any (ops := [.ref s.heap.objs.size, .ref a]) (isList_of (Heap.get?_push_of_some _ ho)).typeIs slot_list_getitem.lookup ?_ rfl
  refine wpAny_getItem_list_slice (lo := lo) (hi := hi) (st := none) (isList_of (Heap.get?_push_of_some _ ho)) (Heap.IsSliceOf.new ..) (part pl) (part pu) .none (by simp) ?_ (by rw [List.size_toArray, hl]; lia)
  -- what is picked
  obtain ⟨rc, hr, hvr⟩ : ∃ rc : List Value, slicePick cvs.toArray lo hi none = rc.toArray ∧ VRs base s.heap ι rc r := by
    unfold sliceA at e
    split at e
    · rename_i b
      split at e
      · rename_i hb
        cases e
        obtain ⟨b, rfl⟩ := Int.eq_ofNat_of_zero_le hb.1
        refine ⟨cvs.take b, slicePick_upto _ _ (by rw [List.size_toArray, hl]; have := hb.2; lia), by rw [List.length_take, List.length_take, hl]; rfl, fun j cv v e1 e2 => ?_⟩
        rw [List.getElem?_take] at e1
        rw [show ((b : Nat) : Int).toNat = b from rfl, List.getElem?_take] at e2
        split at e1
        · rename_i q; rw [if_pos q] at e2; exact hvs.2 j cv v e1 e2
        · cases e1
      · cases e
    · rename_i a'
      have dropped : ∀ k, VRs base s.heap ι (cvs.drop k) (vs.drop k) := fun k => ⟨by rw [List.length_drop, List.length_drop, hl], fun j cv v e1 e2 => by
        rw [List.getElem?_drop] at e1 e2; exact hvs.2 _ cv v e1 e2⟩
      split at e
      · rename_i hb
        cases e
        obtain ⟨b, rfl⟩ := Int.eq_ofNat_of_zero_le hb.1
        exact ⟨cvs.drop b, slicePick_from _ _ (by rw [List.size_toArray, hl]; have := hb.2; lia), dropped b⟩
      · split at e
        · rename_i hb
          cases e
          subst hb
          exact ⟨cvs.drop (cvs.length - 1), by rw [slicePick_neg1]; simp, by rw [← hl]; exact dropped _⟩
        · cases e
    · cases e
  rw [hr]
  have R1 := R.push { cls := .type "slice", data := .fields #[cl', cu, .none] }
  have X1 : Ext no ι s.heap ι (s.heap.push { cls := .type "slice", data := .fields #[cl', cu, .none] }) := Ext.push _
  obtain ⟨R2, X2⟩ := R1.allocList (VRs.ext hvr X1)
  have := h _ (by rw [Heap.size_push, Nat.add_sub_cancel]; exact R2) (by rw [Heap.size_push, Nat.add_sub_cancel]; exact X1.trans X2)
  rw [Heap.size_push, Nat.add_sub_cancel] at this
  exact this
end
end Mine
end
section
open PySem PySem.W PySem.Calls PyProof.Rows
set_option maxRecDepth 100000
namespace Mine

theorem allInts_at {base h : Heap} {ι : List Addr} : ∀ {vs : List AV} {is : List Int} {cvs : List Value}, allInts vs = some is → VRs base h ι cvs vs →
    is.length = vs.length ∧ ∀ (j : Nat) (h1 : j < cvs.length) (h2 : j < is.length), ∃ t, cvs[j] = .int is[j] t
  | [], is, cvs, e, x => by
    cases e
    refine ⟨rfl, fun j h1 h2 => absurd h2 (Nat.not_lt_zero _)⟩
  | v :: vs, is, cvs, e, x => by
    cases v with
    | int i =>
      obtain ⟨js, hj, rfl⟩ := Option.map_eq_some_iff.mp e
      cases cvs with
      | nil => cases x.1
      | cons c cvs =>
        have x' : VRs base h ι cvs vs := ⟨by have := x.1; simpa using this, fun j cv v a b => x.2 (j + 1) cv v (by simpa using a) (by simpa using b)⟩
        obtain ⟨l, r⟩ := allInts_at hj x'
        refine ⟨by simp [l], fun j h1 h2 => ?_⟩
        cases j with
        | zero =>
          have := x.2 0 c (.int i) rfl rfl
          obtain ⟨t, rfl⟩ := this.i_int
          · exact ⟨t, rfl⟩
        | succ j => simpa using r j (by simpa using h1) (by simpa using h2)
    | _ => cases e
theorem allStrs_at {base h : Heap} {ι : List Addr} : ∀ {vs : List AV} {is : List String} {cvs : List Value}, allStrs vs = some is → VRs base h ι cvs vs →
    is.length = vs.length ∧ ∀ (j : Nat) (h1 : j < cvs.length) (h2 : j < is.length), ∃ t, cvs[j] = .str (Str.ofString is[j]) t
  | [], is, cvs, e, x => by
    cases e
    refine ⟨rfl, fun j h1 h2 => absurd h2 (Nat.not_lt_zero _)⟩
  | v :: vs, is, cvs, e, x => by
    cases v with
    | str i =>
      obtain ⟨js, hj, rfl⟩ := Option.map_eq_some_iff.mp e
      cases cvs with
      | nil => cases x.1
      | cons c cvs =>
        have x' : VRs base h ι cvs vs := ⟨by have := x.1; simpa using this, fun j cv v a b => x.2 (j + 1) cv v (by simpa using a) (by simpa using b)⟩
        obtain ⟨l, r⟩ := allStrs_at hj x'
        refine ⟨by simp [l], fun j h1 h2 => ?_⟩
        cases j with
        | zero =>
          have := x.2 0 c (.str i) rfl rfl
          obtain ⟨t, rfl⟩ := this.i_str
          · exact ⟨t, rfl⟩
        | succ j => simpa using r j (by simpa using h1) (by simpa using h2)
    | _ => cases e

noncomputable def isI (k : Int) : Value → Bool
  | .int i _ => i == k
  | _ => false
noncomputable def isS (k : String) : Value → Bool
  | .str i _ => i.cps.toList == (Str.ofString k).cps.toList
  | _ => false

theorem any_ints {cvs : List Value} {is : List Int} (k : Int) (hl : is.length = cvs.length) (hv : ∀ (j : Nat) (h1 : j < cvs.length) (h2 : j < is.length), ∃ t, cvs[j] = .int is[j] t) : cvs.any (isI k) = is.contains k := by
  induction cvs generalizing is with
  | nil => cases is with
    | nil => rfl
    | cons _ _ => cases hl
  | cons c r ih =>
    cases is with
    | nil => cases hl
    | cons i is =>
      obtain ⟨t, ht⟩ := hv 0 (by simp) (by simp)
      have ht : c = .int i t := ht
      rw [List.any_cons, List.contains_cons, ih (by simpa using hl) fun j h1 h2 => by exact hv (j + 1) (Nat.succ_lt_succ h1) (Nat.succ_lt_succ h2), ht]
      show (i == k || _) = (k == i || _)
      rw [Bool.beq_comm]
theorem str_eqB (a b : String) : ((Str.ofString a).cps.toList == (Str.ofString b).cps.toList) = (a == b) := by
  by_cases h : a = b
  · subst h; simp
  · have h1 : (a == b) = false := by simpa using h
    rw [h1]
    refine beq_eq_false_iff_ne.mpr fun e => h (ofString_inj ?_)
    have := congrArg Str.mk (Array.toList_inj.mp e)
    exact this
theorem any_strs {cvs : List Value} {is : List String} (k : String) (hl : is.length = cvs.length) (hv : ∀ (j : Nat) (h1 : j < cvs.length) (h2 : j < is.length), ∃ t, cvs[j] = .str (Str.ofString is[j]) t) : cvs.any (isS k) = is.contains k := by
  induction cvs generalizing is with
  | nil => cases is with
    | nil => rfl
    | cons _ _ => cases hl
  | cons c r ih =>
    cases is with
    | nil => cases hl
    | cons i is =>
      obtain ⟨t, ht⟩ := hv 0 (by simp) (by simp)
      have ht : c = .str (Str.ofString i) t := ht
      rw [List.any_cons, List.contains_cons, ih (by simpa using hl) fun j h1 h2 => by exact hv (j + 1) (Nat.succ_lt_succ h1) (Nat.succ_lt_succ h2), ht]
      show ((Str.ofString i).cps.toList == (Str.ofString k).cps.toList || _) = (k == i || _)
      rw [str_eqB, Bool.beq_comm]

section
variable {prog : Program} {w : World} {cl : String → Option Addr} {K : Frag} {base : Heap} {A : Around} {E : Value → Shared → Prop} {s : Shared} {ι : List Addr} {H : AH}

theorem VRs.append {h : Heap} {cvs cus : List Value} {vs us : List AV} (x : VRs base h ι cvs vs) (y : VRs base h ι cus us) : VRs base h ι (cvs ++ cus) (vs ++ us) := by
  refine ⟨by rw [List.length_append, List.length_append, x.1, y.1], fun j cv v e1 e2 => ?_⟩
  by_cases q : j < cvs.length
  · rw [List.getElem?_append_left q] at e1
    rw [List.getElem?_append_left (by rw [← x.1]; exact q)] at e2
    exact x.2 j cv v e1 e2
  · rw [List.getElem?_append_right (by lia)] at e1
    rw [List.getElem?_append_right (by rw [← x.1]; lia), ← x.1] at e2
    exact y.2 _ cv v e1 e2
theorem VRs.nil {h : Heap} : VRs base h ι [] [] := ⟨rfl, fun j cv v e _ => by cases e⟩
theorem VRs.cons {h : Heap} {cv : Value} {v : AV} {cvs : List Value} {vs : List AV} (x : VR base h ι cv v) (y : VRs base h ι cvs vs) : VRs base h ι (cv :: cvs) (v :: vs) := by
  refine ⟨by simp [y.1], fun j c u e1 e2 => ?_⟩
  cases j with
  | zero => cases e1; cases e2; exact x
  | succ j => exact y.2 j c u (by simpa using e1) (by simpa using e2)
theorem VRs.cons_inv {h : Heap} {cvs : List Value} {v : AV} {vs : List AV} (x : VRs base h ι cvs (v :: vs)) : ∃ cv r, cvs = cv :: r ∧ VR base h ι cv v ∧ VRs base h ι r vs := by
  cases cvs with
  | nil => cases x.1
  | cons c r => exact ⟨c, r, rfl, x.2 0 c v rfl rfl, by have := x.1; simpa using this, fun j cv u a b => x.2 (j + 1) cv u (by simpa using a) (by simpa using b)⟩
theorem VRs.nil_inv {h : Heap} {cvs : List Value} (x : VRs base h ι cvs []) : cvs = [] := by
  cases cvs with
  | nil => rfl
  | cons _ _ => cases x.1
theorem VRs.take {h : Heap} {cvs : List Value} {vs : List AV} (x : VRs base h ι cvs vs) (k : Nat) : VRs base h ι (cvs.take k) (vs.take k) := by
  refine ⟨by rw [List.length_take, List.length_take, x.1], fun j cv v e1 e2 => ?_⟩
  rw [List.getElem?_take] at e1 e2
  split at e1
  · rename_i q; rw [if_pos q] at e2; exact x.2 j cv v e1 e2
  · cases e1
theorem VRs.drop {h : Heap} {cvs : List Value} {vs : List AV} (x : VRs base h ι cvs vs) (k : Nat) : VRs base h ι (cvs.drop k) (vs.drop k) := by
  refine ⟨by rw [List.length_drop, List.length_drop, x.1], fun j cv v e1 e2 => ?_⟩
  rw [List.getElem?_drop] at e1 e2
  exact x.2 _ cv v e1 e2
theorem VRs.erase {h : Heap} {cvs : List Value} {vs : List AV} (x : VRs base h ι cvs vs) (k : Nat) : VRs base h ι (cvs.eraseIdx k) (vs.eraseIdx k) := by
  rw [List.eraseIdx_eq_take_drop_succ, List.eraseIdx_eq_take_drop_succ]
  exact (x.take k).append (x.drop (k + 1))

theorem idxOf_min (a : List Int) (k : Int) (j : Nat) (h : j < a.idxOf k) (hj : j < a.length) : (a[j] == k) = false := by
  have := List.not_of_lt_findIdx (p := (· == k)) (xs := a) h
  exact this

noncomputable def lid : String → String
  | "append" => "list.append" | "insert" => "list.insert" | "index" => "list.index" | "remove" => "list.remove" | _ => ""
theorem slot_lid {H : AH} {i : Nat} {f : String} {vs args : List AV} {r : AV × AH} (hH : H[i]? = some (.list vs)) (e : methA H i f args = some r) : Slot "list" (Str.ofString f) (lid f) ∧ typeOf (.builtin (lid f)) = pure (.type "method_descriptor") := by
  unfold methA at e
  rw [hH] at e
  dsimp only at e
  split at e
  · exact ⟨F.slot_list_append, F.type_list_append⟩
  · exact ⟨F.slot_list_insert, F.type_list_insert⟩
  · exact ⟨F.slot_list_index, F.type_list_index⟩
  · exact ⟨F.slot_list_remove, F.type_list_remove⟩
  · cases e
theorem get_of {H : AH} {i : Nat} {f : String} {kvs : List (Int × AV)} {args : List AV} {r : AV × AH} (hH : H[i]? = some (.dict kvs)) (e : methA H i f args = some r) : f = "get" := by
  unfold methA at e
  rw [hH] at e
  dsimp only at e
  split at e
  · rfl
  · cases e
theorem meth_list {i : Nat} {a : Addr} {f : String} {vs : List AV} {args : List AV} {cargs : List Value} {v : AV} {H' : AH} {Q : Value → Shared → Prop} (R : Rel cl base ι H s.heap) (hi : ι[i]? = some a) (hH : H[i]? = some (.list vs))
    (e : methA H i f args = some (v, H')) (ha : VRs base s.heap ι cargs args)
    (h : ∀ cv h' t', Rel cl base ι H' h' → Ext no ι s.heap ι h' → VR base h' ι cv v → Q cv { s with heap := h', toks := t' }) :
    wpAny (model prog w) A (call (.builtin (lid f)) (.ref a :: cargs)) Q E s := by
  obtain ⟨cvs, n, ho, hvs⟩ := R.list hi hH
  have hT : s.TypeIs (.ref a) "list" := ⟨_, ho, rfl⟩
  have hz := lim_size
  have hl := hvs.1
  unfold methA at e
  rw [hH] at e
  dsimp only at e
  split at e
  · -- append
    split at e
    · rename_i u hle
      cases e
      obtain ⟨cu, r, rfl, hu, hr⟩ := ha.cons_inv
      cases hr.nil_inv
      obtain ⟨R', X⟩ := R.turnList (f := fun xs => xs.push cu) (cvs' := cvs ++ [cu]) hi hH ho (by simp) (hvs.append (.cons hu .nil))
      exact call_meets F.slot_list_append hT F.entry_list_append (F.args_list_append_2 _ _) (list_append a cvs.toArray n cu (by rw [List.size_toArray]; lia)) ⟨ho, h .none _ s.toks R' X .none⟩
    · cases e
  · -- insert
    split at e
    · rename_i k u hle
      cases e
      obtain ⟨ck, r, rfl, hk, hr⟩ := ha.cons_inv
      obtain ⟨cu, r, rfl, hu, hr⟩ := hr.cons_inv
      cases hr.nil_inv
      obtain ⟨t, rfl⟩ := hk.i_int
      · skip
        obtain ⟨h1, h2, h3⟩ := hle
        have := lim_lt
        have hfit : Builtin.List.listFitsIndex k = true := fitsIndex_of h2 (by lia)
        have hnf : ¬(!Builtin.List.listFitsIndex k) = true := fun q => by rw [hfit] at q; cases q
        have hsz : cvs.toArray.size ≤ sizeLine := by rw [List.size_toArray]; lia
        obtain ⟨R', X⟩ := R.turnList (f := fun xs => have k := if k < 0 then (k + (xs.size : Int)).toNat else min k.toNat xs.size; (xs.extract 0 k).push cu ++ xs.extract k) (cvs' := cvs.take k.toNat ++ cu :: cvs.drop k.toNat) hi hH ho (by
          have hb : ¬ k < 0 := by lia
          have hm : min k.toNat cvs.toArray.size = k.toNat := by rw [List.size_toArray]; lia
          dsimp only
          rw [if_neg hb, hm]
          simp
          rw [List.take_of_length_le (by simp)]) ((hvs.take k.toNat).append (.cons hu (hvs.drop k.toNat)))
        have M := AutoSeq1.list_insert_list_int_val_1 a cvs.toArray n k t cu hnf hsz
        have Z := h .none _ s.toks R' X .none
        clear h R' X hnf hfit
        exact call_meets F.slot_list_insert hT F.entry_list_insert (F.args_list_insert_3 _ _ _) M ⟨ho, Z⟩
    · cases e
  · -- index
    split at e
    · rename_i k _ is his
      split at e
      · rename_i hle
        cases e
        obtain ⟨ck, r, rfl, hk, hr⟩ := ha.cons_inv
        cases hr.nil_inv
        obtain ⟨t, rfl⟩ := hk.i_int
        · skip
          obtain ⟨l1, l2⟩ := allInts_at his hvs
          have hj := List.idxOf_lt_length_of_mem hle.1
          have := lim_lt
          have hlen : is.length = cvs.length := by rw [l1, hl]
          refine call_meets F.slot_list_index hT F.entry_list_index (F.args_list_index_2 _ _)
            (MeetsSeq.list_index a cvs.toArray n (.int k t) (isI k) (fun y hy => ?_) (is.idxOf k) (by rw [List.size_toArray]; lia) (by lia) ?_ (fun m hm hlt => ?_))
            ⟨ho, h (.int (is.idxOf k : Nat) s.toks) s.heap (s.toks + 1) R .refl (.int _ _)⟩
          · obtain ⟨m, hm, rfl⟩ := List.mem_iff_getElem.mp (List.mem_toArray.mp hy)
            obtain ⟨u, hu⟩ := l2 m hm (by lia)
            rw [hu]; exact MeetsSeq.EqGives.int _ _ _ _
          · rw [List.getElem_toArray]
            obtain ⟨u, hu⟩ := l2 (is.idxOf k) (by lia) hj
            rw [hu, List.getElem_idxOf hj]
            show (k == k) = true
            simp
          · rw [List.getElem_toArray]
            rw [List.size_toArray] at hm
            obtain ⟨u, hu⟩ := l2 m hm (by lia)
            rw [hu]
            exact idxOf_min is k m hlt (by lia)
      · cases e
    · cases e
  · -- remove
    split at e
    · rename_i k _ is his
      split at e
      · rename_i hle
        cases e
        obtain ⟨ck, r, rfl, hk, hr⟩ := ha.cons_inv
        cases hr.nil_inv
        obtain ⟨t, rfl⟩ := hk.i_int
        · skip
          obtain ⟨l1, l2⟩ := allInts_at his hvs
          have hj := List.idxOf_lt_length_of_mem hle.1
          have := lim_lt
          have hlen : is.length = cvs.length := by rw [l1, hl]
          obtain ⟨R', X⟩ := R.turnList (f := fun xs => xs.eraseIdxIfInBounds (is.idxOf k)) (cvs' := cvs.eraseIdx (is.idxOf k)) hi hH ho (by
            unfold Array.eraseIdxIfInBounds
            rw [dif_pos (by rw [List.size_toArray]; lia)]
            simp) (hvs.erase _)
          refine call_meets F.slot_list_remove hT F.entry_list_remove (F.args_list_remove_2 _ _)
            (MeetsSeq.list_remove a cvs.toArray n (.int k t) (isI k) (fun y hy => ?_) (is.idxOf k) (by rw [List.size_toArray]; lia) ?_ (fun m hm hlt => ?_) (by rw [List.size_toArray]; lia))
            ⟨ho, h .none _ s.toks R' X .none⟩
          · obtain ⟨m, hm, rfl⟩ := List.mem_iff_getElem.mp (List.mem_toArray.mp hy)
            obtain ⟨u, hu⟩ := l2 m hm (by lia)
            rw [hu]; exact MeetsSeq.EqGives.int _ _ _ _
          · rw [List.getElem_toArray]
            obtain ⟨u, hu⟩ := l2 (is.idxOf k) (by lia) hj
            rw [hu, List.getElem_idxOf hj]
            show (k == k) = true
            simp
          · rw [List.getElem_toArray]
            rw [List.size_toArray] at hm
            obtain ⟨u, hu⟩ := l2 m hm (by lia)
            rw [hu]
            exact idxOf_min is k m hlt (by lia)
      · cases e
    · cases e
  · cases e

theorem meth_dict {i : Nat} {a : Addr} {f : String} {kvs : List (Int × AV)} {args : List AV} {cargs : List Value} {v : AV} {H' : AH} {Q : Value → Shared → Prop} (W : Wd cl K base) (R : Rel cl base ι H s.heap) (hi : ι[i]? = some a) (hH : H[i]? = some (.dict kvs))
    (e : methA H i f args = some (v, H')) (ha : VRs base s.heap ι cargs args)
    (h : ∀ cv h' t', Rel cl base ι H' h' → Ext no ι s.heap ι h' → VR base h' ι cv v → Q cv { s with heap := h', toks := t' }) :
    f = "get" ∧ wpAny (model prog w) A (call (.builtin "dict.get") (.ref a :: cargs)) Q E s := by
  obtain ⟨kc, hd, hv⟩ := R.dict hi hH
  have hm := (hd prog w).mapOf
  unfold methA at e
  rw [hH] at e
  dsimp only at e
  split at e
  · rename_i k u
    cases e
    obtain ⟨ck, r, rfl, hk, hr⟩ := ha.cons_inv
    obtain ⟨cu, r, rfl, hu, hr⟩ := hr.cons_inv
    cases hr.nil_inv
    obtain ⟨t, rfl⟩ := hk.i_int
    · skip
      refine ⟨rfl, call_meetsIn F.slot_dict_get hm.typeIs F.entry_dict_get (F.args_dict_get_3 _ _ _) (meets_dict_get_default (intKind prog w) a (intKind_is prog w k t) (R.notMods W hi) cu) ⟨_, hm, ?_⟩⟩
      refine h _ s.heap _ R .refl ?_
      cases q : kvs.lookup k with
      | none => rw [(PRs.value hv k).2 q]; exact hu
      | some x => obtain ⟨cx, hx, hr⟩ := (PRs.value hv k).1 x q; rw [hx]; exact hr
  · cases e

theorem truthy_of {v : AV} {cv : Value} {b : Bool} {Q : Bool → Shared → Prop} (R : Rel cl base ι H s.heap) (e : truthyA H v = some b) (hv : VR base s.heap ι cv v) (h : ∀ t', Q b { s with toks := t' }) : wpAny (model prog w) A (truthy cv) Q E s := by
  unfold truthyA at e
  split at e
  · cases e
    obtain rfl := hv.i_bool
    · exact wpAny_truthy_bool (h s.toks)
  · rename_i i
    split at e
    · rename_i xs hH
      split at e
      · rename_i hle
        cases e
        obtain ⟨a, rfl, hi⟩ := hv.i_ref
        · skip
          obtain ⟨cvs, n, ho, hvs⟩ := R.list hi hH
          have := lim_lt
          refine wpAny_truthy_list (isList_of ho) (by rw [List.size_toArray, hvs.1]; lia) ?_
          have q : (!cvs.toArray.isEmpty) = !xs.isEmpty := by
            have := hvs.1
            cases cvs with
            | nil => cases xs with
              | nil => rfl
              | cons _ _ => cases hvs.1
            | cons _ _ => cases xs with
              | nil => cases hvs.1
              | cons _ _ => rfl
          rw [q]; exact h _
      · cases e
    · cases e
  · cases e

theorem len_of {v : AV} {cv : Value} {k : Int} {Q : Value → Shared → Prop} (R : Rel cl base ι H s.heap) (e : lenA H v = some k) (hv : VR base s.heap ι cv v) (h : ∀ t t', Q (.int k t) { s with toks := t' }) : wpAny (model prog w) A (call (.builtin "len") [cv]) Q E s := by
  have := lim_lt
  unfold lenA at e
  split at e
  · rename_i xs
    split at e
    · rename_i hz
      cases e
      obtain ⟨a, cvs, rfl, hb, hI⟩ := hv.i_sl
      · skip
        have hL : s.heap.IsList a cvs.toArray := by obtain ⟨ob, hob, r⟩ := hb; exact ⟨ob, R.keep _ _ hob, r⟩
        have hlen := IntsAre.length hI
        refine Calls.call_len_list hL (by rw [List.size_toArray]; lia) ?_
        rw [List.size_toArray, hlen]; exact h _ _
    · cases e
  · rename_i i
    split at e
    · rename_i xs hH
      split at e
      · rename_i hle
        cases e
        obtain ⟨a, rfl, hi⟩ := hv.i_ref
        · skip
          obtain ⟨cvs, n, ho, hvs⟩ := R.list hi hH
          refine Calls.call_len_list (isList_of ho) (by rw [List.size_toArray, hvs.1]; lia) ?_
          rw [List.size_toArray, hvs.1]; exact h _ _
      · cases e
    · cases e
  · cases e
end
end Mine
end
section
open PySem PySem.W PySem.Calls PyProof.Rows PySem.SeqAt
set_option maxRecDepth 100000
namespace Mine

theorem aeqL_inv {eq : AV → AV → Option Bool} : ∀ {xs ys : List AV} {r : Bool}, aeqL eq xs ys = some r → ∃ es : List Bool, es.length = xs.length ∧ xs.length = ys.length ∧ r = es.all id ∧
    ∀ (j : Nat) (x y : AV), xs[j]? = some x → ys[j]? = some y → ∃ b, es[j]? = some b ∧ eq x y = some b
  | [], [], r, e => by
    cases e
    exact ⟨[], rfl, rfl, rfl, fun j x y h _ => by cases h⟩
  | x :: xs, y :: ys, r, e => by
    unfold aeqL at e
    split at e
    · rename_i a b ha hb
      cases e
      obtain ⟨es, h1, h2, h3, h4⟩ := aeqL_inv hb
      refine ⟨a :: es, by simp [h1], by simp [h2], by simp [h3], fun j u v hu hv => ?_⟩
      cases j with
      | zero => cases hu; cases hv; exact ⟨a, rfl, ha⟩
      | succ j => exact h4 j u v (by simpa using hu) (by simpa using hv)
    · cases e
  | [], _ :: _, r, e => by cases e
  | _ :: _, [], r, e => by cases e

theorem aeqL_refl {eq : AV → AV → Option Bool} (h : ∀ x r, eq x x = some r → r = true) : ∀ {xs : List AV} {r : Bool}, aeqL eq xs xs = some r → r = true
  | [], r, e => by cases e; rfl
  | x :: xs, r, e => by
    unfold aeqL at e
    split at e
    · rename_i a b ha hb
      cases e
      rw [h x a ha, aeqL_refl h hb]; rfl
    · cases e
theorem aeqD_true {eq : AV → AV → Option Bool} {l : List (Int × AV)} : ∀ {r : List (Int × AV)} {b : Bool}, aeqD eq l r = some b → b = true
  | [], b, e => by cases e; rfl
  | (k, v) :: r, b, e => by
    unfold aeqD at e
    split at e
    · split at e
      · cases e; rfl
      · cases e
    · cases e
theorem aeq_refl (H : AH) : ∀ (n : Nat) (x : AV) (r : Bool), aeq n H x x = some r → r = true
  | 0, x, r, e => by cases e
  | n + 1, x, r, e => by
    unfold aeq at e
    cases x with
    | int i => dsimp only at e; cases e; simp
    | str i => dsimp only at e; cases e; simp
    | tup xs =>
      dsimp only at e
      split at e
      · cases e; rfl
      · cases e
    | ref i =>
      dsimp only at e
      cases q : H[i]? with
      | none => rw [q] at e; cases e
      | some o =>
        rw [q] at e
        cases o with
        | list xs =>
          dsimp only at e
          rw [if_pos rfl] at e
          exact aeqL_refl (aeq_refl H n) e
        | dict xs =>
          dsimp only at e
          rw [if_pos rfl] at e
          exact aeqD_true e
        | _ => cases e
    | _ => cases e

section
variable {prog : Program} {w : World} {cl : String → Option Addr} {K : Frag} {base : Heap} {A : Around} {E : Value → Shared → Prop} {s : Shared} {ι : List Addr} {H : AH}

theorem all_es {es : List Bool} {n : Nat} (h : es.length = n) : (List.range n).all (fun j => (es[j]?).getD true) = es.all id := by
  subst h
  induction es with
  | nil => rfl
  | cons a es ih =>
    rw [List.length_cons, List.range_succ_eq_map, List.all_cons, List.all_map, List.all_cons, ← ih]
    simp [Function.comp_def]

theorem eq_sound (W : Wd cl K base) (R : Rel cl base ι H s.heap) : ∀ (n : Nat) (A : Around) (a b : AV) (ca cb : Value) (r : Bool), aeq n H a b = some r → VR base s.heap ι ca a → VR base s.heap ι cb b → A.units + n < cLine →
    RcAt A s ca cb r ∧ RcNeAt A s ca cb (!r) ∧ EqAt A s ca cb r
  | 0, _, _, _, _, _, _, e, _, _, _ => by cases e
  | n + 1, A, a, b, ca, cb, r, e, ha, hb, hu => by
    have e0 := e
    have hu0 : A.units < cLine := by omega
    have els : ∀ {xs ys : List AV} {cxs cys : List Value} {r : Bool}, aeqL (aeq n H) xs ys = some r → VRs base s.heap ι cxs xs → VRs base s.heap ι cys ys →
        ∃ es : List Bool, es.length = cxs.length ∧ cxs.length = cys.length ∧ r = es.all id ∧ ∀ j (h1 : j < cxs.toArray.size) (h2 : j < cys.toArray.size), EqAt A.in1 s cxs.toArray[j] cys.toArray[j] ((es[j]?).getD true) := by
      intro xs ys cxs cys r e hx hy
      obtain ⟨es, h1, h2, h3, h4⟩ := aeqL_inv e
      refine ⟨es, by rw [h1, hx.1], by rw [hx.1, hy.1, h2], h3, fun j l1 l2 => ?_⟩
      rw [List.size_toArray] at l1 l2
      have m1 : j < xs.length := by rw [← hx.1]; exact l1
      have m2 : j < ys.length := by rw [← hy.1]; exact l2
      obtain ⟨b, hb, he⟩ := h4 j xs[j] ys[j] (List.getElem?_eq_getElem m1) (List.getElem?_eq_getElem m2)
      rw [hb]
      exact (eq_sound W R n A.in1 xs[j] ys[j] _ _ b he (hx.2 j _ _ (by simp [l1]) (List.getElem?_eq_getElem m1)) (hy.2 j _ _ (by simp [l2]) (List.getElem?_eq_getElem m2)) (by show A.units + 1 + n < cLine; omega)).2.2
    unfold aeq at e
    split at e
    · rename_i x y
      cases e
      obtain ⟨t, rfl⟩ := ha.i_int; obtain ⟨u, rfl⟩ := hb.i_int
      refine ⟨fun prog w E Q h => P.eq_int ?_, RcNeAt.int_int x t y u, ?_⟩
      · exact h
      · exact (MeetsSeq.EqGives.int x y t u).at A s
    · rename_i x y
      cases e
      obtain ⟨t, rfl⟩ := ha.i_str; obtain ⟨u, rfl⟩ := hb.i_str
      have q : (Str.ofString x == Str.ofString y) = decide (x = y) := by
        by_cases z : x = y
        · subst z; simp
        · rw [decide_eq_false z]; exact beq_eq_false_iff_ne.mpr fun e => z (ofString_inj e)
      refine ⟨fun prog w E Q h => PyProof.Rows.eq_str (by rw [q]; exact h), ?_, ?_⟩
      · have := RcNeAt.str_str (A := A) (s := s) (Str.ofString x) t (Str.ofString y) u
        rw [q] at this; exact this
      · have := (SeqRoads2.EqGives.str (Str.ofString x) (Str.ofString y) t u).at A s
        rw [str_eqB] at this
        have z : (x == y) = decide (x = y) := by by_cases z : x = y <;> simp [z]
        rw [z] at this
        exact this
    · split at e
      · rename_i xs ys _ hL
        cases e
        obtain ⟨la, cxs, na, rfl, hoa, hla, hva⟩ := ha.i_tup; obtain ⟨lb, cys, nb, rfl, hob, hlb, hvb⟩ := hb.i_tup
        obtain ⟨es, h1, h2, h3, h4⟩ := els hL ⟨hla, hva⟩ ⟨hlb, hvb⟩
        have q : ((List.range (min cxs.toArray.size cys.toArray.size)).all (fun j => (es[j]?).getD true) && cxs.toArray.size == cys.toArray.size) = true := by
          rw [List.size_toArray, List.size_toArray, ← h2, Nat.min_self, all_es h1, ← h3]; simp
        have T1 : s.heap.IsTuple la cxs.toArray := isTup_of hoa
        have T2 : s.heap.IsTuple lb cys.toArray := isTup_of hob
        have r1 := RcAt.tuples T1 T2 hu0 h4
        have r2 := RcNeAt.tuples T1 T2 hu0 h4
        rw [q] at r1 r2
        refine ⟨r1, r2, ?_⟩
        by_cases z : la = lb
        · subst z; exact EqAt.same _
        · exact EqAt.of_refs z r1
      · cases e
    · rename_i i j
      obtain ⟨la, rfl, hia⟩ := ha.i_ref; obtain ⟨lb, rfl, hib⟩ := hb.i_ref
      have same : la = lb → r = true := fun z => by
        subst z
        obtain ⟨l1, e1⟩ := List.getElem?_eq_some_iff.mp hia
        obtain ⟨l2, e2⟩ := List.getElem?_eq_some_iff.mp hib
        have := nodup_inj R.nodup l1 l2 (e1.trans e2.symm)
        subst this
        exact aeq_refl H (n + 1) (.ref i) r e0
      have fin : RcAt A s (.ref la) (.ref lb) r → EqAt A s (.ref la) (.ref lb) r := fun r1 => by
        by_cases z : la = lb
        · rw [same z]; subst z; exact EqAt.same _
        · exact EqAt.of_refs z r1
      split at e
      · rename_i xs ys hx hy
        obtain ⟨cxs, nx, hox, hvx⟩ := R.list hia hx
        obtain ⟨cys, ny, hoy, hvy⟩ := R.list hib hy
        split at e
        · rename_i hl
          obtain ⟨es, h1, h2, h3, h4⟩ := els e hvx hvy
          have hsz : cxs.toArray.size = cys.toArray.size := by simpa using h2
          have r1 := RcAt.lists (isList_of hox) (isList_of hoy) hsz hu0 h4
          have r2 := RcNeAt.lists (isList_of hox) (isList_of hoy) hsz hu0 h4
          rw [List.size_toArray, all_es h1, ← h3] at r1 r2
          exact ⟨r1, r2, fin r1⟩
        · rename_i hl
          cases e
          have hsz : (cxs.toArray.size != cys.toArray.size) = true := by
            rw [List.size_toArray, List.size_toArray, hvx.1, hvy.1]; simpa using hl
          have r1 := RcAt.lists_lengths (isList_of hox) (isList_of hoy) hsz hu0
          exact ⟨r1, RcNeAt.lists_lengths (isList_of hox) (isList_of hoy) hsz hu0, fin r1⟩
      · rename_i xs ys hx hy
        split at e
        · rename_i hl
          obtain ⟨kx, hdx, hvx⟩ := R.dict hia hx
          obtain ⟨ky, hdy, hvy⟩ := R.dict hib hy
          have hits : ∀ {kx : List (Int × Value)} {xs : List (Int × AV)} {r : Bool}, All2 (PR base s.heap ι) kx xs → aeqD (aeq n H) ys xs = some r → KeqHits A.in1 s ky kx r := by
            intro kx xs r hv
            induction hv generalizing r with
            | nil => intro e; cases e; exact .nil
            | @cons c kv kx xs h t ih =>
              intro e
              obtain ⟨k, v⟩ := kv
              obtain ⟨k', cv⟩ := c
              obtain ⟨q1, q2⟩ := h
              dsimp only at q1 q2
              subst q1
              have inv : ∃ v', ys.lookup k' = some v' ∧ aeq n H v v' = some true ∧ aeqD (aeq n H) ys xs = some true ∧ r = true := by
                clear ih
                unfold aeqD at e
                split at e
                · rename_i v' hv'
                  split at e
                  · rename_i e1 e2
                    cases e
                    exact ⟨v', hv', e1, e2, rfl⟩
                  · cases e
                · cases e
              obtain ⟨v', hv', e1, e2, rfl⟩ := inv
              obtain ⟨cy, hcy, hvy'⟩ := (PRs.value hvy k').1 v' hv'
              exact .hit (e := true) (b := true) hcy (eq_sound W R n A.in1 v v' cv cy true e1 q2 hvy' (by show A.units + 1 + n < cLine; omega)).2.2 (ih e2)
          have H := hits hvx e
          have hlen : kx.length = ky.length := by
            have h1 := congrArg List.length (PRs.keys hvx)
            have h2 := congrArg List.length (PRs.keys hvy)
            simp only [List.length_map] at h1 h2
            rw [h1, h2, hl]
          have q : (kx.length == ky.length && r) = r := by rw [hlen]; simp
          have r1 : RcAt A s (.ref la) (.ref lb) r := fun prog w E Q h => keq_eq (knd := intKind prog w) (R.notMods W hia) (R.notMods W hib) (hdx prog w) (hdy prog w) hu0 (fun _ => H) (by rw [q]; exact h)
          refine ⟨r1, fun prog w E Q h => keq_ne (knd := intKind prog w) (R.notMods W hia) (R.notMods W hib) (hdx prog w) (hdy prog w) hu0 (fun _ => H) (by rw [q]; exact h), fin r1⟩
        · cases e
      · cases e
    · cases e

theorem VR.strs {cv : Value} {x : String} {h : Heap} (a : VR base h ι cv (.str x)) : ∃ t, cv = .str (Str.ofString x) t := by
  obtain ⟨t, rfl⟩ := a.i_str
  · exact ⟨t, rfl⟩

theorem in_at {a c : AV} {ca cc : Value} {r : Bool} (W : Wd cl K base) (R : Rel cl base ι H s.heap) (e : ainA H a c = some r) (ha : VR base s.heap ι ca a) (hc : VR base s.heap ι cc c) {Q Q' : Value → Shared → Prop} (h : ∀ t', Q (.bool r) { s with toks := t' }) (h' : ∀ t', Q' (.bool (!r)) { s with toks := t' }) :
    wpAny (model prog w) A (compareOp .In ca cc) Q E s ∧ wpAny (model prog w) A (compareOp .NotIn ca cc) Q' E s := by
  unfold ainA at e
  split at e
  · rename_i i vs
    obtain ⟨is, his, rfl⟩ := Option.map_eq_some_iff.mp e
    obtain ⟨t, rfl⟩ := ha.i_int; obtain ⟨l, cvs, n, rfl, ho, hl, hv⟩ := hc.i_tup
    obtain ⟨l1, l2⟩ := allInts_at his ⟨hl, hv⟩
    have T : s.heap.IsTuple l cvs.toArray := isTup_of ho
    have he : ∀ y, y ∈ cvs.toArray → EqAt A.in1 s y (.int i t) (isI i y) := fun y hy => by
      obtain ⟨m, hm, rfl⟩ := List.mem_iff_getElem.mp (List.mem_toArray.mp hy)
      obtain ⟨u, hu⟩ := l2 m hm (by rw [l1, ← hl]; exact hm)
      rw [hu]; exact (MeetsSeq.EqGives.int _ _ _ _).at _ _
    have q : cvs.toArray.any (isI i) = is.contains i := by rw [← any_ints i (by rw [l1, hl]) l2]; simp
    exact ⟨in_tupleAt _ T he (by rw [q]; exact h s.toks), notIn_tupleAt _ T he (by rw [q]; exact h' s.toks)⟩
  · rename_i i vs
    obtain ⟨is, his, rfl⟩ := Option.map_eq_some_iff.mp e
    obtain ⟨t, rfl⟩ := ha.i_str; obtain ⟨l, cvs, n, rfl, ho, hl, hv⟩ := hc.i_tup
    obtain ⟨l1, l2⟩ := allStrs_at his ⟨hl, hv⟩
    have T : s.heap.IsTuple l cvs.toArray := isTup_of ho
    have he : ∀ y, y ∈ cvs.toArray → EqAt A.in1 s y (.str (Str.ofString i) t) (isS i y) := fun y hy => by
      obtain ⟨m, hm, rfl⟩ := List.mem_iff_getElem.mp (List.mem_toArray.mp hy)
      obtain ⟨u, hu⟩ := l2 m hm (by rw [l1, ← hl]; exact hm)
      rw [hu]; exact (SeqRoads2.EqGives.str _ _ _ _).at _ _
    have q : cvs.toArray.any (isS i) = is.contains i := by rw [← any_strs i (by rw [l1, hl]) l2]; simp
    exact ⟨in_tupleAt _ T he (by rw [q]; exact h s.toks), notIn_tupleAt _ T he (by rw [q]; exact h' s.toks)⟩
  · rename_i i a
    obtain ⟨t, rfl⟩ := ha.i_int; obtain ⟨l, rfl, hi⟩ := hc.i_ref
    split at e
    · rename_i vs hH
      obtain ⟨is, his, rfl⟩ := Option.map_eq_some_iff.mp e
      obtain ⟨cvs, n, ho, hvs⟩ := R.list hi hH
      obtain ⟨l1, l2⟩ := allInts_at his hvs
      have he : ∀ y, y ∈ cvs.toArray → EqAt A.in1 s y (.int i t) (isI i y) := fun y hy => by
        obtain ⟨m, hm, rfl⟩ := List.mem_iff_getElem.mp (List.mem_toArray.mp hy)
        obtain ⟨u, hu⟩ := l2 m hm (by rw [l1, ← hvs.1]; exact hm)
        rw [hu]; exact (MeetsSeq.EqGives.int _ _ _ _).at _ _
      have q : cvs.toArray.any (isI i) = is.contains i := by rw [← any_ints i (by rw [l1, hvs.1]) l2]; simp
      exact ⟨in_listAt _ (isList_of ho) he (by rw [q]; exact h s.toks), notIn_listAt _ (isList_of ho) he (by rw [q]; exact h' s.toks)⟩
    · rename_i kvs hH
      cases e
      obtain ⟨kc, hd, hv⟩ := R.dict hi hH
      have hm := (hd prog w).mapOf
      have q : (valueAt kc i).isSome = kvs.any (·.1 == i) := by
        have z := PRs.value hv i
        cases y : kvs.lookup i with
        | none =>
          rw [z.2 y]
          have := List.lookup_eq_none_iff.mp y
          symm
          rw [Option.isSome_none, List.any_eq_false]
          intro p hp
          have := this p hp
          simpa using fun x : p.1 = i => by rw [x] at this; simp at this
        | some v =>
          obtain ⟨cv, e1, _⟩ := z.1 v y
          rw [e1]
          symm
          rw [Option.isSome_some, List.any_eq_true]
          obtain ⟨l1, l2, e2, _⟩ := List.lookup_eq_some_iff.mp y
          exact ⟨(i, v), by rw [e2]; simp, by simp⟩
      exact ⟨wpAny_in_of (intKind_is prog w i t) (R.notMods W hi) hm (by rw [q]; exact h _), wpAny_notIn_of (intKind_is prog w i t) (R.notMods W hi) hm (by rw [q]; exact h' _)⟩
    · cases e
  · cases e

theorem cmp_of {op : Cm} {a b : AV} {ca cb : Value} {r : Bool} {d : Nat} {Q : Value → Shared → Prop} (W : Wd cl K base) (C : Cx A d) (R : Rel cl base ι H s.heap) (e : cmpA H op a b = some r) (ha : VR base s.heap ι ca a) (hb : VR base s.heap ι cb b)
    (h : ∀ t', Q (.bool r) { s with toks := t' }) : wpAny (model prog w) A (compareOp (cmOf op) ca cb) Q E s := by
  have hu : A.units + 6 < cLine := by have := C.units; omega
  cases op with
  | Eq => exact (eq_sound W R 6 A a b ca cb r e ha hb hu).1 prog w E Q (h s.toks)
  | NotEq =>
    obtain ⟨r', hr, rfl⟩ := Option.map_eq_some_iff.mp e
    exact (eq_sound W R 6 A a b ca cb r' hr ha hb hu).2.1 prog w E Q (h s.toks)
  | Lt =>
    unfold cmpA at e
    dsimp only at e
    split at e
    · cases e
      obtain ⟨t, rfl⟩ := ha.i_int; obtain ⟨u, rfl⟩ := hb.i_int
      exact P.lt_int (h s.toks)
    · cases e
  | Gt =>
    unfold cmpA at e
    dsimp only at e
    split at e
    · cases e
      obtain ⟨t, rfl⟩ := ha.i_int; obtain ⟨u, rfl⟩ := hb.i_int
      exact P.gt_int (h s.toks)
    · cases e
  | In => exact (in_at (Q' := fun _ _ => True) W R e ha hb h fun _ => trivial).1
  | NotIn =>
    obtain ⟨r', hr, rfl⟩ := Option.map_eq_some_iff.mp e
    exact (in_at (Q := fun _ _ => True) W R hr ha hb (fun _ => trivial) h).2
end
end Mine
end
section
open PySem PySem.W PySem.Calls PyProof.Rows PySem.SeqAt
set_option maxRecDepth 100000
namespace Mine

section
variable {prog : Program} {w : World} {cl : String → Option Addr} {K : Frag} {base : Heap} {A : Around} {E : Value → Shared → Prop} {s : Shared} {ι : List Addr} {H : AH}

theorem Rel.newVR {h : Heap} (R : Rel cl base ι H h) {o : Obj} : VR base (h.push o) (ι ++ [h.objs.size]) (.ref h.objs.size) (.ref H.length) :=
  .ref (by rw [← R.len]; simp)

theorem foldl_arr (k : Nat) (acc x : Array Value) : (List.foldl (fun x1 x2 => x1 ++ x2) acc (List.replicate k x)) = (acc.toList ++ (List.replicate k x.toList).flatten).toArray := by
  induction k generalizing acc with
  | zero => simp
  | succ k ih => rw [List.replicate_succ, List.foldl_cons, ih, List.replicate_succ]; simp

theorem VRs.replicate {h : Heap} {cv : Value} {v : AV} (x : VR base h ι cv v) (k : Nat) : VRs base h ι (List.replicate k cv) (List.replicate k v) := by
  induction k with
  | zero => exact .nil
  | succ k ih => exact .cons x ih

theorem bin_of {op : Op} {a b v : AV} {H' : AH} {ca cb : Value} {Q : Value → Shared → Prop} (R : Rel cl base ι H s.heap) (e : binA H op a b = some (v, H')) (ha : VR base s.heap ι ca a) (hb : VR base s.heap ι cb b)
    (h : AftE cl base ι s H' v Q) : wpAny (model prog w) A (binaryOp (opOf op) ca cb) Q E s := by
  have hz := lim_size
  have hll := lim_lt
  unfold binA at e
  split at e
  · cases e
    obtain ⟨t, rfl⟩ := ha.i_int; obtain ⟨u, rfl⟩ := hb.i_int
    exact P.add_int (h _ s.heap _ ι R .refl (.int _ _))
  · rename_i x y
    split at e
    · rename_i hle
      cases e
      obtain ⟨t, rfl⟩ := ha.i_str; obtain ⟨u, rfl⟩ := hb.i_str
      refine PyProof.Rows.add_str (fun t' tk => ?_) ?_
      · rw [← ofString_cat]; exact h _ s.heap tk ι R .refl (.str _ _)
      · rw [PySem.ofString_length, PySem.ofString_length]; lia
    · cases e
  · rename_i i j
    obtain ⟨l, rfl, hi⟩ := ha.i_ref; obtain ⟨b, rfl, hj⟩ := hb.i_ref
    split at e
    · rename_i xs ys hx hy
      split at e
      · rename_i hle
        cases e
        obtain ⟨cxs, nx, hox, hvx⟩ := R.list hi hx
        obtain ⟨cys, ny, hoy, hvy⟩ := R.list hj hy
        refine P.add_list (n := nx) (n2 := ny) hox hoy ?_ (by rw [List.size_toArray, List.size_toArray, hvx.1, hvy.1]; lia)
        obtain ⟨R', X⟩ := R.allocList (hvx.append hvy)
        have e1 : cxs.toArray ++ cys.toArray = (cxs ++ cys).toArray := by simp
        rw [e1]
        exact h _ _ s.toks _ R' X (R.newVR)
      · cases e
    · cases e
  · cases e
    obtain ⟨t, rfl⟩ := ha.i_int; obtain ⟨u, rfl⟩ := hb.i_int
    exact P.sub_int (h _ s.heap _ ι R .refl (.int _ _))
  · rename_i x y
    split at e
    · rename_i hle
      cases e
      obtain ⟨t, rfl⟩ := ha.i_int; obtain ⟨u, rfl⟩ := hb.i_int
      exact P.mul_int (h _ s.heap _ ι R .refl (.int _ _)) (IntMulOk.of_right (intBits_le_64 (by lia) (by lia)))
    · cases e
  · rename_i i y
    obtain ⟨l, rfl, hi⟩ := ha.i_ref; obtain ⟨u, rfl⟩ := hb.i_int
    split at e
    · rename_i x hx
      split at e
      · rename_i hle
        cases e
        obtain ⟨cxs, nx, hox, hvx⟩ := R.list hi hx
        obtain ⟨cv, r, rfl, hv, hr⟩ := hvx.cons_inv
        cases hr.nil_inv
        have hfit : Builtin.List.listFitsIndex y = true := fitsIndex_of hle.1 (by lia)
        have hnf : ¬(!Builtin.List.listFitsIndex y) = true := fun q => by rw [hfit] at q; cases q
        have hlt : ¬Builtin.List.listTooLong ([cv].toArray.size * y.toNat) = true := by simp [Builtin.List.listTooLong, sizeLine]; have : lim = 1048576 := rfl; lia
        have hsz1 : ¬[cv].toArray.size * y.toNat > (2 ^ 63 - 1) / 8 := by simp; have : lim = 1048576 := rfl; lia
        have M := AutoListH.list___mul___list_int_3 l [cv].toArray nx y u hnf hsz1 hlt
        have e1 : List.foldl (fun x1 x2 => x1 ++ x2) #[] (List.replicate (if [cv].toArray.isEmpty = true then 0 else y.toNat) [cv].toArray) = (List.replicate y.toNat cv).toArray := by
          rw [foldl_arr]; simp
        rw [e1] at M
        obtain ⟨R', X⟩ := R.allocList (VRs.replicate hv y.toNat)
        have Z := h _ _ s.toks _ R' X (R.newVR)
        clear e1 hlt hsz1 hnf hfit
        exact wpAny_binaryOp_repeat_ref (T := "list") (U := "int") (by decide) ⟨_, hox, rfl⟩ (fun s' => typeIs_int s' y u) noFill_list_mul F.fills_int_mul F.slot_int_rmul repeat_list F.slot_int_index.lookup
          (call_meets F.slot_int_rmul (typeIs_int s y u) F.entry_int_rmul (F.args_int_rmul_2 _ _) (int___rmul___int_list y u l [cv].toArray nx)
            ⟨hox, rfl, ⟨_, hox, rfl⟩, call_meets F.slot_list_mul ⟨_, hox, rfl⟩ F.entry_list_mul (F.args_list_mul_2 _ _) M ⟨hox, Z⟩⟩)
      · cases e
    · cases e
  · rename_i x y
    split at e
    · rename_i hle
      cases e
      obtain ⟨t, rfl⟩ := ha.i_int; obtain ⟨u, rfl⟩ := hb.i_int
      exact PyProof.Rows.floordiv_int (by lia) (h _ s.heap _ ι R .refl (.int _ _)) (.inl (PyProof.noPylong_small (by have : lim = 1048576 := rfl; lia)))
    · cases e
  · rename_i x y
    split at e
    · rename_i hle
      cases e
      obtain ⟨t, rfl⟩ := ha.i_int; obtain ⟨u, rfl⟩ := hb.i_int
      exact PyProof.Rows.mod_int' (by lia) (h _ s.heap _ ι R .refl (.int _ _))
    · cases e
  · cases e
/-- what was made before is named now -/
theorem Rel.name {h h1 h' : Heap} {ι1 : List Addr} {H1 : AH} {o : Obj} {ao : AO} (R : Rel cl base ι H h) (X1 : Ext no ι (h.push o) ι1 h1) (R1 : Rel cl base ι1 H1 h1) (hf : o.isFreed = false) (hi : imm o = false)
    (hs : Heap.SameBut h.objs.size h1 h') (there : ∃ o', h'.get? h.objs.size = some o') (w : (∀ {cv : Value} {v : AV}, VR base h1 ι1 cv v → VR base h' (ι1 ++ [h.objs.size]) cv v) → OR cl base h' (ι1 ++ [h.objs.size]) h.objs.size ao) :
    Rel cl base (ι1 ++ [h.objs.size]) (H1 ++ [ao]) h' ∧ Ext no ι h (ι1 ++ [h.objs.size]) h' := by
  have fr : h.get? h.objs.size = none := none_of_big (Nat.le_refl _)
  have at0 : (h.push o).get? h.objs.size = some o := Heap.get?_push_size _ hf
  have n1 : h.objs.size ∉ ι1 := X1.notMem at0 R.offSize
  have at1 : h1.get? h.objs.size = some o := X1.keep _ _ at0 R.offSize id
  have sub : ∀ b ob, h1.get? b = some ob → imm ob = true → h'.get? b = some ob := fun b ob e im => by
    rw [hs.2 b fun q => by subst q; rw [at1] at e; cases e; rw [hi] at im; cases im]; exact e
  have th : ∀ b ob, h1.get? b = some ob → ∃ o', h'.get? b = some o' := fun b ob e => by
    by_cases q : b = h.objs.size
    · subst q; exact there
    · exact ⟨ob, (hs.2 b q).trans e⟩
  have get : ∀ (i : Nat) a, ι1[i]? = some a → (ι1 ++ [h.objs.size])[i]? = some a := fun i a e => by
    rw [List.getElem?_append_left (List.getElem?_eq_some_iff.mp e).1]; exact e
  have mono : ∀ {cv : Value} {v : AV}, VR base h1 ι1 cv v → VR base h' (ι1 ++ [h.objs.size]) cv v := fun x => x.mono sub get
  have E1 : Ext no ι1 h1 ι1 h' → True := fun _ => trivial
  have E : Ext no ι h (ι1 ++ [h.objs.size]) h' := by
    refine ⟨?_, fun a m => ?_, fun b ob e n _ => ?_, fun b ob e im => ?_, fun b ob e => ?_⟩
    · obtain ⟨t, rfl⟩ := X1.pre; exact ⟨t ++ [h.objs.size], by simp⟩
    · rcases List.mem_append.mp m with q | q
      · rcases X1.fresh a q with q | q
        · exact .inl q
        · right
          cases z : h.get? a with
          | none => rfl
          | some oa => rw [Heap.get?_push_of_some _ z] at q; cases q
      · rw [List.mem_singleton.mp q]; exact .inr fr
    · rw [hs.2 b fun q => by subst q; rw [fr] at e; cases e]
      exact X1.keep b ob (Heap.get?_push_of_some _ e) n id
    · exact sub b ob (X1.sub b ob (Heap.get?_push_of_some _ e) im) im
    · obtain ⟨o', e'⟩ := X1.there b ob (Heap.get?_push_of_some _ e)
      exact th b o' e'
  refine ⟨⟨fun b ob e => ?_, by simp [R1.len], ?_, fun a m => ?_, ?_, fun i a ao' e1 e2 => ?_⟩, E⟩
  · rw [hs.2 b fun q => by
      have := none_of_big (q ▸ R.size : base.objs.size ≤ b)
      rw [e] at this; cases this]
    exact R1.keep b ob e
  · refine List.nodup_append.mpr ⟨R1.nodup, by simp, fun a ha b hb => ?_⟩
    rw [List.mem_singleton.mp hb]
    rintro rfl
    exact n1 ha
  · rcases List.mem_append.mp m with q | q
    · exact R1.fresh a q
    · rw [List.mem_singleton.mp q]; exact R.size
  · obtain ⟨b, ob, h2, h3⟩ := R1.big
    obtain ⟨o', h4⟩ := th b ob h3
    exact ⟨b, o', h2, h4⟩
  · by_cases hi' : i < ι1.length
    · rw [List.getElem?_append_left hi'] at e1
      rw [List.getElem?_append_left (by rw [← R1.len]; exact hi')] at e2
      have na : a ≠ h.objs.size := fun q => n1 (q ▸ List.mem_of_getElem? e1)
      have k : ∀ ob, h1.get? a = some ob → h'.get? a = some ob := fun ob e => (hs.2 a na).trans e
      cases R1.obj i a ao' e1 e2 with
      | list ho hv => exact .list (k _ ho) ⟨hv.1, fun j cv v x y => mono (hv.2 j cv v x y)⟩
      | dict ho hv => exact .dict (ho.keep k) (forall2_imp (fun _ _ y => ⟨y.1, mono y.2⟩) hv)
      | fields ho hv => exact .fields (k _ ho) (forall2_imp (fun _ _ y => ⟨y.1, mono y.2⟩) hv)
      | inst ho hc hd => exact .inst (k _ ho) hc (get _ _ hd)
    · have : i = ι1.length := by
        have := (List.getElem?_eq_some_iff.mp e1).1
        rw [List.length_append, List.length_singleton] at this
        lia
      subst this
      rw [List.getElem?_append_right (Nat.le_refl _), Nat.sub_self] at e1
      rw [List.getElem?_append_right (by rw [R1.len]; exact Nat.le_refl _), R1.len, Nat.sub_self] at e2
      cases e1; cases e2
      exact w mono
end
end Mine
end
section
open PySem PySem.W PySem.Calls PyProof.Rows PySem.SeqAt
set_option maxRecDepth 100000
namespace Mine

theorem RE.star {sc : Scope} {m : ME} {e : Expr} (h : RE sc m e) (rest : List Expr) (env : Env) : starEach (e :: rest) env = (false, eval e env) :: starEach rest env := by cases h <;> rfl
theorem REs.noStar {sc : Scope} {ms : MEs} {l : List Expr} {env : Env} {pos : Pos} : REs sc ms l → (backTo pos (starEach l env)).any (·.1) = false
  | .nil => rfl
  | .cons h t => by
    rw [h.star]
    show (false || (backTo pos (starEach _ env)).any (·.1)) = false
    rw [t.noStar]; rfl
theorem REs.len {sc : Scope} {ms : MEs} {l : List Expr} {env : Env} {pos : Pos} : REs sc ms l → (backTo pos (starEach l env)).length = l.length
  | .nil => rfl
  | .cons h t => by
    rw [h.star]
    show (backTo pos (starEach _ env)).length + 1 = _
    rw [t.len]; rfl

theorem attrA_inv {H : AH} {v u : AV} {f : String} (h : attrA H v f = some u) : ∃ i c di fs, v = .ref i ∧ H[i]? = some (.inst c di) ∧ H[di]? = some (.fields fs) ∧ f ∈ attrsOf c ∧ fs.lookup f = some u := by
  unfold attrA at h
  split at h
  · split at h
    · split at h
      · split at h
        · exact ⟨_, _, _, _, rfl, by assumption, by assumption, by assumption, h⟩
        · cases h
      · cases h
    · cases h
  · cases h
theorem setattrA_inv {H H' : AH} {v u : AV} {f : String} (h : setattrA H v f u = some H') : ∃ i c di fs, v = .ref i ∧ H[i]? = some (.inst c di) ∧ H[di]? = some (.fields fs) ∧ fs.length ≤ 900 ∧ f ∈ attrsOf c ∧ H' = H.set di (.fields (setF f u fs)) := by
  unfold setattrA at h
  split at h
  · split at h
    · split at h
      · split at h
        · rename_i hc
          cases h
          exact ⟨_, _, _, _, rfl, by assumption, by assumption, hc.1, hc.2, rfl⟩
        · cases h
      · cases h
    · cases h
  · cases h
theorem sliceH_inv {H : AH} {a : Nat} {lo hi : Option Int} {r : AV × AH} (h : sliceH H (.ref a) lo hi = some r) : ∃ vs xs, H[a]? = some (.list vs) ∧ vs.length ≤ lim ∧ sliceA vs lo hi = some xs ∧ r = (.ref H.length, H ++ [.list xs]) := by
  unfold sliceH at h
  dsimp only at h
  split at h
  · split at h
    · obtain ⟨xs, hx, e⟩ := Option.map_eq_some_iff.mp h
      exact ⟨_, xs, by assumption, by assumption, hx, e.symm⟩
    · cases h
  · cases h
theorem intOf_inv {v : AV} {i : Int} (h : intOf v = some i) : v = .int i := by
  cases v <;> cases h; rfl
theorem refOf_inv {v : AV} {i : Nat} (h : refOf v = some i) : v = .ref i := by
  cases v <;> cases h; rfl
theorem tupOf_inv {v : AV} {i : List AV} (h : tupOf v = some i) : v = .tup i := by
  cases v <;> cases h; rfl

section
variable {prog : Program} {w : World} {cl : String → Option Addr} {K : Frag} {base : Heap}

theorem args_of {n d : Nat} {ρ : AE} {H : AH} {P : List AV → AH → Prop} {ms : MEs} {sc : Scope} {l : List Expr} {f : Value} {A : Around} {E : Value → Shared → Prop} {s : Shared} {ι : List Addr} {env : Env} {pos : Pos} {Q : Args → Shared → Prop}
    (I : Snd prog w cl K base d n) (hz : zEs ms < n) (he : wEs d ms ρ H P) (hr : REs sc ms l) (C : Cx A d) (KO : KindOk env sc) (R : Rel cl base ι H s.heap) (F : FrR base env ρ ι s.heap)
    (h : ∀ vs H', P vs H' → AftEs cl base ι s H' vs (fun cvs s' => Q ⟨cvs, []⟩ s')) : wpAny (model prog w) A (evalArgs f true (backTo pos (starEach l env)) []) Q E s := by
  have := I.es ms hz ρ H P he sc l hr A E s ι env pos _ C KO R F h
  cases hr with
  | nil => exact evalArgs_nil3 (h [] H he [] s.heap s.toks ι R .refl .nil)
  | cons h1 t =>
    rw [h1.star] at this ⊢
    exact evalArgs_plain this

/-- read a global of the text -/
theorem glob_name {h : Heap} {ρ : AE} {H : AH} {ι : List Addr} {env : Env} {A : Around} {E : Value → Shared → Prop} {s : Shared} {x : String} {v : Value} {pos : Pos} {sc : Scope} {Q : Value → Shared → Prop} (W : Wd cl K base) (R : Rel cl base ι H s.heap) (F : FrR base env ρ ι h)
    (KO : KindOk env sc) (hg : sc.names.lookup (Str.ofString x) = some .globalImplicit) (hd : notDebug x) (hn : nsIn K mainGlobals (Str.ofString x) = some (some v)) (q : Q v s) : wpAny (model prog w) A (eval (.Name (Str.ofString x) pos) env) Q E s := by
  obtain ⟨p, loose, mg, mb, T⟩ := W.top
  have T' := T.keeps R.keep
  exact Name_function_global F.kind (KO _ _ hg (by decide)) (loadGlobal_global (mg := mg) (by rw [F.glob]; exact T'.g) (mg_of (W.X R) T'.g hn) q) hd
theorem blt_name {h : Heap} {ρ : AE} {H : AH} {ι : List Addr} {env : Env} {A : Around} {E : Value → Shared → Prop} {s : Shared} {x : String} {v : Value} {pos : Pos} {sc : Scope} {Q : Value → Shared → Prop} (W : Wd cl K base) (R : Rel cl base ι H s.heap) (F : FrR base env ρ ι h)
    (KO : KindOk env sc) (hg : sc.names.lookup (Str.ofString x) = some .globalImplicit) (hd : notDebug x) (hn : nsIn K mainGlobals (Str.ofString x) = some none) (hb : bootBuiltins (Str.ofString x) = some v) (hx : Str.ofString x ≠ "__name__") (q : Q v s) : wpAny (model prog w) A (eval (.Name (Str.ofString x) pos) env) Q E s := by
  obtain ⟨p, loose, mg, mb, T⟩ := W.top
  have T' := T.keeps R.keep
  exact Name_function_global F.kind (KO _ _ hg (by decide)) (loadGlobal_builtin (mg := mg) (mb := mb) (by rw [F.glob]; exact T'.g) (mg_none_of (W.X R) T'.g hn) (by rw [F.blt]; exact T'.b) ((T'.builtins _ hx).trans hb) q) hd

theorem snd_e1 {d n : Nat} (W : Wd cl K base) (I : Snd prog w cl K base d n) {m : ME} (hz : zE m < n + 1) (nc : ∀ f a, m ≠ .call f a) (nm : ∀ o f a, m ≠ .meth o f a) (ncp : ∀ a b c d e, m ≠ .comp a b c d e) : SE prog w cl base d m := by
  intro ρ H P0 he sc e hr A E s ι env Q C KO R F hQ
  have hzl := lim_size
  cases hr with
  | int => exact wpAny_Constant_int (hQ _ _ he _ s.heap _ ι R .refl (.int _ _))
  | str => exact wpAny_Constant_str (hQ _ _ he _ s.heap _ ι R .refl (.str _ _))
  | bool => exact wpAny_Constant_bool (hQ _ _ he _ s.heap s.toks ι R .refl (.bool _))
  | var hd =>
    obtain ⟨v', hv, he⟩ := opt_elim he
    exact wpAny_Name (load_var F hv fun cv hv => hQ _ _ he cv s.heap s.toks ι R .refl hv) hd
  | attr h hb =>
    refine Attribute_any_ ?_ (by rw [arm_eval_Attribute, hb])
    refine I.e _ (z1 hz) ρ H _ he sc _ h A E s ι env _ C KO R F fun v H1 hP cv h' t' ι' R' X' hv => ?_
    obtain ⟨u, hu, hP'⟩ := opt_elim hP
    obtain ⟨i, c, di, fs, rfl, e1, e2, hf, hv'⟩ := attrA_inv hu
    obtain ⟨_, rfl, hi⟩ := hv.i_ref
    · exact get_attr W R' hi e1 e2 hf hv' fun cv hv => hQ _ _ hP' cv h' _ ι' R' X' hv
  | sub h hi =>
    refine Subscript_ (I.e _ (z2a hz) ρ H _ he sc _ h A E s ι env _ C KO R F fun o H1 hP co h1' t1 ι1 R1 X1 ho => ?_)
    refine I.e _ (z2b hz) ρ H1 _ hP sc _ hi A E _ ι1 env _ C KO R1 (F.ext X1) fun i H2 hP ci h2' t2 ι2 R2 X2 hi' => ?_
    obtain ⟨v', hv', hP⟩ := opt_elim hP
    exact sub_item R2 hi.noSlice hv' (ho.ext X2) hi' fun cv t hv => hQ _ _ hP cv h2' t ι2 R2 (X1.trans X2) hv
  | slice h hl hu =>
    refine Subscript_ (I.e _ (z3a hz) ρ H _ he sc _ h A E s ι env _ C KO R F fun o H1 hP1 co h1' t1 ι1 R1 X1 ho => ?_)
    obtain ⟨a, ha, hP2⟩ := opt_elim hP1
    cases refOf_inv ha
    rw [arm_eval_Slice]
    refine wpAny_bind (I.o _ (z3b hz) ρ H1 _ hP2 sc _ hl A E _ ι1 env _ C KO R1 (F.ext X1) fun lo H2 hP3 cl' h2' t2 ι2 R2 X2 hpl => ?_)
    refine wpAny_bind (wpAny_holding (I.o _ (z2b hz) ρ H2 _ hP3 sc _ hu A E _ ι2 env _ C KO R2 ((F.ext X1).ext X2) fun hi H3 hP4 cu h3' t3 ι3 R3 X3 hpu => ?_))
    refine wpAny_bind (wpAny_holding (wpAny_pure ?_))
    obtain ⟨r, hr0, hP5⟩ := opt_elim hP4
    obtain ⟨vs, xs, hH, hle, hr, rfl⟩ := sliceH_inv hr0
    have ho' := (ho.ext X2).ext X3
    obtain ⟨la, rfl, hia⟩ := ho'.i_ref
    · skip
      obtain ⟨cvs, n', hoL, hvs⟩ := R3.list hia hH
      exact slice_list R3 hoL hvs hle hr hpl hpu (fun h' R' X' => hQ _ _ hP5 (.ref (h'.objs.size - 1)) h' t3 _ R' (X1.trans (X2.trans (X3.trans X'))) (.ref (by rw [← R3.len]; simp)))
  | bin h h' =>
    refine wpAny_BinOp (I.e _ (z2a hz) ρ H _ he sc _ h A E s ι env _ C KO R F fun o H1 hP co h1' t1 ι1 R1 X1 ho => ?_)
    refine I.e _ (z2b hz) ρ H1 _ hP sc _ h' A E _ ι1 env _ C KO R1 (F.ext X1) fun i H2 hP ci h2' t2 ι2 R2 X2 hi' => ?_
    obtain ⟨r, hr, hP⟩ := opt_elim hP
    exact bin_of R2 hr (ho.ext X2) hi' fun cv h3 t3 ι3 R3 X3 hv => hQ _ _ hP cv h3 t3 ι3 R3 (X1.trans (X2.trans X3)) hv
  | neg h =>
    refine wpAny_UnaryOp (I.e _ (z1 hz) ρ H _ he sc _ h A E s ι env _ C KO R F fun o H1 hP co h1' t1 ι1 R1 X1 ho => ?_)
    obtain ⟨i, hi, hP⟩ := opt_elim hP
    cases intOf_inv hi
    obtain ⟨t, rfl⟩ := ho.i_int
    · exact P.neg_int (hQ _ _ hP _ h1' _ ι1 R1 X1 (.int _ _))
  | not h =>
    refine wpAny_UnaryOp (I.e _ (z1 hz) ρ H _ he sc _ h A E s ι env _ C KO R F fun o H1 hP co h1' t1 ι1 R1 X1 ho => ?_)
    obtain ⟨b, hb, hP⟩ := opt_elim hP
    exact not_value (truthy_of R1 hb ho fun t => hQ _ _ hP _ h1' t ι1 R1 X1 (.bool _))
  | cmp h h' hm =>
    refine wpAny_Compare1 (I.e _ (z2a hz) ρ H _ he sc _ h A E s ι env _ C KO R F fun o H1 hP co h1' t1 ι1 R1 X1 ho => ?_) hm
    refine I.e _ (z2b hz) ρ H1 _ hP sc _ h' A E _ ι1 env _ C KO R1 (F.ext X1) fun i H2 hP ci h2' t2 ι2 R2 X2 hi' => ?_
    obtain ⟨b, hb, hP⟩ := opt_elim hP
    exact cmp_of W C R2 hb (ho.ext X2) hi' fun t => hQ _ _ hP _ h2' t ι2 R2 (X1.trans X2) (.bool _)
  | and h =>
    rw [arm_eval_BoolOp]
    exact I.b _ (z1 hz) true ρ H P0 he sc _ h A E s ι env _ Q C KO R F hQ
  | or h =>
    rw [arm_eval_BoolOp]
    exact I.b _ (z1 hz) false ρ H P0 he sc _ h A E s ι env _ Q C KO R F hQ
  | ite ht ha hb =>
    refine wpAny_IfExp (I.t _ (z3a hz) ρ H _ he sc _ ht A E s ι env _ C KO R F fun r H1 hP h1' t1 ι1 R1 X1 => ?_)
    cases r with
    | true =>
      rw [if_pos rfl]
      exact I.e _ (z3b hz) ρ H1 _ (hP.1 rfl) sc _ ha A E _ ι1 env _ C KO R1 (F.ext X1) fun v H2 hP ci h2' t2 ι2 R2 X2 hi' => hQ v H2 hP ci h2' t2 ι2 R2 (X1.trans X2) hi'
    | false =>
      rw [if_neg (by decide)]
      exact I.e _ (z2b hz) ρ H1 _ (hP.2 rfl) sc _ hb A E _ ι1 env _ C KO R1 (F.ext X1) fun v H2 hP ci h2' t2 ι2 R2 X2 hi' => hQ v H2 hP ci h2' t2 ι2 R2 (X1.trans X2) hi'
  | tup h =>
    refine wpAny_Tuple (I.es _ (z1 hz) ρ H _ he sc _ h A E s ι env _ _ C KO R F fun vs H1 hP cvs h1' t1 ι1 R1 X1 ho => ?_)
    have hl := ho.1
    refine ⟨by have := hP.1; lia, ?_⟩
    have X2 : Ext no ι1 h1' ι1 (h1'.push { cls := .type "tuple", data := .seq cvs.toArray }) := Ext.push _
    exact hQ _ _ hP.2 _ _ t1 ι1 (R1.push _) (X1.trans X2) (.tup (n := 0) (Heap.get?_push_size _ rfl) hl (VRs.ext ho X2).2)
  | lst h =>
    refine wpAny_List (I.es _ (z1 hz) ρ H _ he sc _ h A E s ι env _ _ C KO R F fun vs H1 hP cvs h1' t1 ι1 R1 X1 ho => ?_)
    have hl := ho.1
    refine ⟨by have := hP.1; lia, ?_⟩
    obtain ⟨R2, X2⟩ := R1.allocList ho
    exact hQ _ _ hP.2 _ _ t1 _ R2 (X1.trans X2) R1.newVR
  | dict0 =>
    refine wpAny_Dict_empty ?_
    obtain ⟨R2, X2⟩ := R.alloc (own := no) (o := { cls := .type "dict", data := .dict #[] }) (ao := .dict []) rfl (.dict (fun prog w => Heap.DictOf.new s.heap) .nil)
    exact hQ _ _ he _ _ s.toks _ R2 X2 R.newVR
  | @dict1 _ _ _ ek ev pos hk hv =>
    have hi0 : imm ({ cls := .type "dict", data := .dict #[] } : Obj) = false := rfl
    have R0 := R.push { cls := .type "dict", data := .dict #[] }
    have X0 : Ext no ι s.heap ι (s.heap.push { cls := .type "dict", data := .dict #[] }) := Ext.push _
    refine wpAny_Dict_pairs (knd := intKind prog w) (pairs := [(eval ek env, do let x ← eval ev env; standAt pos; pure x)]) rfl (by simp) (by simp) ?_
    refine evalPairs_cons (I.e _ (z2a hz) ρ H _ he sc _ hk A E _ ι env _ C KO R0 (F.ext X0) fun kv H1 hQ1 ck h1' t1 ι1 R1 X1 hvk => ?_)
    obtain ⟨k, hk1, hQ2⟩ := opt_elim hQ1
    cases intOf_inv hk1
    refine wpAny_bind (I.e _ (z2b hz) ρ H1 _ hQ2 sc _ hv A E _ ι1 env _ C KO R1 ((F.ext X0).ext X1) fun v' H2 hQ3 cv h2' t2 ι2 R2 X2 hvv => ?_)
    refine wpAny_bind (wpAny_standAt (wpAny_pure (evalPairs_nil ?_)))
    obtain ⟨t, rfl⟩ := hvk.i_int
    · skip
      have at0 : (s.heap.push { cls := .type "dict", data := .dict #[] }).get? s.heap.objs.size = some { cls := .type "dict", data := .dict #[] } := Heap.get?_push_size _ rfl
      have X12 := X1.trans X2
      refine ⟨[(k, cv)], ⟨intKind_is prog w k t, rfl, trivial⟩, ?_, fun h' hd' hs => ?_⟩
      · obtain ⟨o, es, ep, ho, r⟩ := Heap.DictOf.new (knd := intKind prog w) s.heap
        exact ⟨o, es, ep, X12.keep _ _ ho R.offSize id, r⟩
      · have hd'' : DictI h' s.heap.objs.size [(k, cv)] := DictI.of hd'
        obtain ⟨R3, X3⟩ := R.name (ao := .dict [(k, v')]) X12 R2 rfl hi0 hs (by obtain ⟨o, _, _, ho, _⟩ := hd''.obj; exact ⟨o, ho⟩) fun mono => .dict hd'' (.cons ⟨rfl, mono hvv⟩ .nil)
        exact hQ _ _ hQ3 _ h' _ _ R3 X3 (.ref (by rw [← R2.len]; simp))
  | call => exact absurd rfl (nc _ _)
  | meth => exact absurd rfl (nm _ _ _)
  | comp => exact absurd rfl (ncp _ _ _ _ _)
end
end Mine
end
section
open PySem PySem.W PySem.Calls PyProof.Rows PySem.SeqAt
set_option maxRecDepth 100000
namespace Mine

section
variable {prog : Program} {w : World} {cl : String → Option Addr} {K : Frag} {base : Heap}

/-- what is there is named now -/
theorem Rel.add {h : Heap} {ι : List Addr} {H : AH} {a : Addr} {ao : AO} (R : Rel cl base ι H h) (n1 : a ∉ ι) (hb : base.objs.size ≤ a) (w : OR cl base h (ι ++ [a]) a ao) : Rel cl base (ι ++ [a]) (H ++ [ao]) h := by
  have get : ∀ (i : Nat) b, ι[i]? = some b → (ι ++ [a])[i]? = some b := fun i b e => by
    rw [List.getElem?_append_left (List.getElem?_eq_some_iff.mp e).1]; exact e
  have mono : ∀ {cv : Value} {v : AV}, VR base h ι cv v → VR base h (ι ++ [a]) cv v := fun x => x.mono (fun _ _ e _ => e) get
  refine ⟨R.keep, by simp [R.len], ?_, fun b m => ?_, R.big, fun i b ao' e1 e2 => ?_⟩
  · refine List.nodup_append.mpr ⟨R.nodup, by simp, fun x hx b hb => ?_⟩
    rw [List.mem_singleton.mp hb]
    rintro rfl
    exact n1 hx
  · rcases List.mem_append.mp m with q | q
    · exact R.fresh b q
    · rw [List.mem_singleton.mp q]; exact hb
  · by_cases hi' : i < ι.length
    · rw [List.getElem?_append_left hi'] at e1
      rw [List.getElem?_append_left (by rw [← R.len]; exact hi')] at e2
      cases R.obj i b ao' e1 e2 with
      | list ho hv => exact .list ho ⟨hv.1, fun j cv v x y => mono (hv.2 j cv v x y)⟩
      | dict ho hv => exact .dict ho (forall2_imp (fun _ _ y => ⟨y.1, mono y.2⟩) hv)
      | fields ho hv => exact .fields ho (forall2_imp (fun _ _ y => ⟨y.1, mono y.2⟩) hv)
      | inst ho hc hd => exact .inst ho hc (get _ _ hd)
    · have : i = ι.length := by
        have := (List.getElem?_eq_some_iff.mp e1).1
        rw [List.length_append, List.length_singleton] at this
        lia
      subst this
      rw [List.getElem?_append_right (Nat.le_refl _), Nat.sub_self] at e1
      rw [List.getElem?_append_right (by rw [R.len]; exact Nat.le_refl _), R.len, Nat.sub_self] at e2
      cases e1; cases e2
      exact w
theorem Ext.addNew {h h' : Heap} {ι : List Addr} {a : Addr} {own : Addr → Prop} (k : ∀ b o, h.get? b = some o → h'.get? b = some o) (fr : h.get? a = none) : Ext own ι h (ι ++ [a]) h' :=
  ⟨⟨_, rfl⟩, fun b m => by
    rcases List.mem_append.mp m with q | q
    · exact .inl q
    · rw [List.mem_singleton.mp q]; exact .inr fr, fun b o e _ _ => k b o e, fun b o e _ => k b o e, fun b o e => ⟨o, k b o e⟩⟩

theorem list_of {A : Around} {E : Value → Shared → Prop} {s : Shared} {ι : List Addr} {H : AH} {T : String} {a : Addr} {o : Obj} {cvs : List Value} {n : Nat} {xs : List AV} {Q : Value → Shared → Prop} (R : Rel cl base ι H s.heap) (hT : T = "list" ∨ T = "tuple") (ho : s.heap.get? a = some o) (hc : o.cls = .type T)
    (hd : o.data = .seq cvs.toArray n) (hv : VRs base s.heap ι cvs xs) (hz : xs.length ≤ lim) (h : AftE cl base ι s (H ++ [.list xs]) (.ref H.length) Q) : wpAny (model prog w) A (call (.type "list") [.ref a]) Q E s := by
  have := lim_size
  have hl := hv.1
  refine call_list_seq a hT ho hc hd (fun h' c' k ho' => ?_) (by rw [List.size_toArray]; lia)
  have R1 := R.of_keep k
  have n1 := R.offSize
  have X : Ext no ι s.heap (ι ++ [s.heap.objs.size]) h' := Ext.addNew k (none_of_big (Nat.le_refl _))
  exact h _ h' s.toks _ (R1.add n1 R.size (.list ho' (VRs.ext hv X))) X (.ref (by rw [← R.len]; simp))

theorem plain_keeper {M : Model} {f : Value} (hf : ∀ a, f ≠ .ref a) : ∀ h : Heap, True → ∃ k, (k = Keeper.frame ∨ k = Keeper.machine ∨ k = Keeper.boundFrame) ∧ Looks M h (keeperOf f) k := fun h _ =>
  ⟨.machine, .inr (.inl rfl), Looks.of_pure (by cases f <;> first | rfl | exact absurd rfl (hf _))⟩

theorem callRef {A : Around} {E : Value → Shared → Prop} {s : Shared} {ι : List Addr} {P : AV → AH → Prop} {a : Addr} {cvs : List Value} {Q : Value → Shared → Prop}
    (h : ∀ R, (∀ v H', P v H' → AftC cl base ι s H' v R) → codeAny (model prog w) A (.call (.ref a) ⟨cvs, []⟩) R s) (hQ : ∀ v H', P v H' → AftE cl base ι s H' v Q) : wpAny (model prog w) A (call (.ref a) cvs []) Q E s :=
  wpAny_call (h _ fun v H' hp cv h' t' ι' R' X' hv => hQ v H' hp cv h' t' ι' R' X' hv)

theorem kindA_inv {H : AH} {v : AV} {f : String} {k : MK} (h : kindA H v f = some k) : ∃ a, v = .ref a ∧ ((∃ c di fs, H[a]? = some (.inst c di) ∧ H[di]? = some (.fields fs) ∧ (fs.lookup f).isNone = true ∧ k = .inst a c) ∨ (∃ xs, H[a]? = some (.list xs) ∧ k = .list a) ∨ (∃ xs, H[a]? = some (.dict xs) ∧ k = .dict a)) := by
  unfold kindA at h
  split at h
  · split at h
    · split at h
      · split at h
        · cases h; exact ⟨_, rfl, .inl ⟨_, _, _, by assumption, by assumption, by assumption, rfl⟩⟩
        · cases h
      · cases h
    · cases h; exact ⟨_, rfl, .inr (.inl ⟨_, by assumption, rfl⟩)⟩
    · cases h; exact ⟨_, rfl, .inr (.inr ⟨_, by assumption, rfl⟩)⟩
    · cases h
  · cases h
theorem methL_inv {H : AH} {a : Nat} {f : String} {vs : List AV} {r : AV × AH} (h : methL H a f vs = some r) : ∃ xs, H[a]? = some (.list xs) ∧ methA H a f vs = some r := by
  unfold methL at h
  split at h
  · exact ⟨_, by assumption, h⟩
  · cases h
theorem methD_inv {H : AH} {a : Nat} {f : String} {vs : List AV} {r : AV × AH} (h : methD H a f vs = some r) : ∃ xs, H[a]? = some (.dict xs) ∧ methA H a f vs = some r := by
  unfold methD at h
  split at h
  · exact ⟨_, by assumption, h⟩
  · cases h

theorem slot_list {f : String} (h : knownL f = true) : Slot "list" (Str.ofString f) (lid f) ∧ typeOf (.builtin (lid f)) = pure (.type "method_descriptor") := by
  unfold knownL at h
  simp only [Bool.or_eq_true, beq_iff_eq] at h
  rcases h with ((rfl | rfl) | rfl) | rfl
  · exact ⟨F.slot_list_append, F.type_list_append⟩
  · exact ⟨F.slot_list_insert, F.type_list_insert⟩
  · exact ⟨F.slot_list_index, F.type_list_index⟩
  · exact ⟨F.slot_list_remove, F.type_list_remove⟩
theorem snd_call {d n : Nat} (W : Wd cl K base) (I : Snd prog w cl K base d n) {f : String} {as : MEs} (hz : zE (.call f as) < n + 1) : SE prog w cl base d (.call f as) := by
  intro ρ H P0 he sc e hr A E s ι env Q C KO R F hQ
  have hzl := lim_size
  have hll := lim_lt
  have hza : zEs as < n := z1 hz
  cases hr with
  | @call _ _ _ l p pos hg hd hkn hs =>
    show wpAny (model prog w) A (eval (.Name (Str.ofString f) p) env >>= fun fv => callWith pos fv [] (backTo pos (starEach l env)) []) Q E s
    have hns : ((backTo pos (starEach l env)).any (·.1) || ([] : List (Option Str × Sem Value)).any (·.1.isNone)) = false := by rw [hs.noStar]; rfl
    have he' : wEs d as ρ H fun vs H => wCall d f vs H P0 := he
    unfold wCall qCall at he'
    by_cases hf : f = "len"
    · simp only [if_pos hf] at he'
      subst hf
      refine wpAny_bind (blt_name W R F KO hg hd (W.blt "len" (.inl rfl)) (v := .builtin "len") rfl (by decide) ?_)
      refine callWith_of (P := fun _ => True) hns (plain_keeper fun a => by intro q; cases q) (args_of I hza he' hs C KO R F fun vs H1 hP cvs h1' t1 ι1 R1 X1 hv => ⟨trivial, ?_⟩)
      split at hP
      · obtain ⟨k, hk, hP⟩ := opt_elim hP
        obtain ⟨cv, r, rfl, hc, hr⟩ := hv.cons_inv
        cases hr.nil_inv
        exact len_of R1 hk hc fun t t' => hQ _ _ hP _ h1' t' ι1 R1 X1 (.int _ _)
      · exact hP.elim
    · simp only [if_neg hf] at he'
      by_cases hf2 : f = "range"
      · simp only [if_pos hf2] at he'
        subst hf2
        refine wpAny_bind (blt_name W R F KO hg hd (W.blt "range" (.inr (.inl rfl))) (v := .type "range") rfl (by decide) ?_)
        refine callWith_of (P := fun _ => True) hns (plain_keeper fun a => by intro q; cases q) (args_of I hza he' hs C KO R F fun vs H1 hP cvs h1' t1 ι1 R1 X1 hv => ⟨trivial, ?_⟩)
        split at hP
        · obtain ⟨hk1, hk2, hP⟩ := hP
          obtain ⟨cv, r, rfl, hc, hr⟩ := hv.cons_inv
          cases hr.nil_inv
          obtain ⟨t, rfl⟩ := hc.i_int
          · skip
            refine call_range_1 ?_
            exact hQ _ _ hP _ _ _ ι1 (R1.push _) (X1.trans (Ext.push _)) (.rng (t := t1) (u := t) (v := t1 + 1) (Heap.get?_push_size _ rfl))
        · exact hP.elim
      · simp only [if_neg hf2] at he'
        by_cases hf3 : f = "list"
        · simp only [if_pos hf3] at he'
          subst hf3
          refine wpAny_bind (blt_name W R F KO hg hd (W.blt "list" (.inr (.inr rfl))) (v := .type "list") rfl (by decide) ?_)
          refine callWith_of (P := fun _ => True) hns (plain_keeper fun a => by intro q; cases q) (args_of I hza he' hs C KO R F fun vs H1 hP cvs h1' t1 ι1 R1 X1 hv => ⟨trivial, ?_⟩)
          obtain ⟨rr, hl0, hP⟩ := opt_elim hP
          unfold listOf at hl0
          split at hl0
          · split at hl0
            · rename_i hle
              cases hl0
              obtain ⟨cv, r, rfl, hc, hr⟩ := hv.cons_inv
              cases hr.nil_inv
              obtain ⟨a, cxs, m, rfl, ho, hl, hvv⟩ := hc.i_tup
              · skip
                exact list_of R1 (.inr rfl) ho rfl rfl ⟨hl, hvv⟩ hle fun cv h2 t2 ι2 R2 X2 hv => hQ _ _ hP cv h2 t2 ι2 R2 (X1.trans X2) hv
            · cases hl0
          · split at hl0
            · rename_i hH
              split at hl0
              · rename_i hle
                cases hl0
                obtain ⟨cv, r, rfl, hc, hr⟩ := hv.cons_inv
                cases hr.nil_inv
                obtain ⟨a, rfl, hi⟩ := hc.i_ref
                · skip
                  obtain ⟨cxs, m, ho, hvv⟩ := R1.list hi hH
                  exact list_of R1 (.inl rfl) ho rfl rfl hvv hle fun cv h2 t2 ι2 R2 X2 hv => hQ _ _ hP cv h2 t2 ι2 R2 (X1.trans X2) hv
              · cases hl0
            · cases hl0
          · cases hl0
        · simp only [if_neg hf3] at he'
          cases hfn : fnsM f "__init__" with
          | some fn =>
            simp only [hfn] at he'
            obtain ⟨Cc, hc, hn, hk, hm, fI, hfi, hfI, L⟩ := W.cls f fn hfn
            refine wpAny_bind (glob_name W R F KO hg hd hn ?_)
            refine callWith_of (P := K.In) hns (keeps_K hk) (args_of I hza he' hs C KO R F fun vs H1 hP cvs h1' t1 ι1 R1 X1 hv => ⟨W.X (s := { s with heap := h1', toks := t1 }) R1, ?_⟩)
            have X := W.X (s := { s with heap := h1', toks := t1 }) R1
            refine wpAny_call (make_core (h := h1') (makes_of X hm) (looks_findIn X hfi) (fun self => bind_fn X self (beq_iff_eq.mp hfI)) (.inl rfl) ?_)
            obtain ⟨R2, X2⟩ := R1.alloc (own := no) (o := emptyDict) (ao := .fields []) rfl (.fields (es := []) (n := 0) (Heap.get?_push_size _ rfl) .nil)
            have e1 : (h1'.push emptyDict).objs.size = h1'.objs.size + 1 := Heap.size_push ..
            obtain ⟨R3, X3⟩ := R2.alloc (own := no) (o := instObj Cc h1'.objs.size) (ao := .inst f H1.length) rfl (.inst (Heap.get?_push_size _ rfl) hc (by rw [← R1.len]; simp))
            rw [e1] at R3 X3
            have CC : CxC (A.under (.builtin "type.__call__" ⟨[Value.ref Cc] ++ cvs, []⟩)) d := ⟨C.handled, by
              have := C.depth
              show A.depth + 1 + 4 * d + 5 < recursionLimit
              lia, by
              have := C.units
              show A.units + 1 + 16 * d + 20 < cLine
              lia⟩
            have hself : VR base ((h1'.push emptyDict).push (instObj Cc h1'.objs.size)) (ι1 ++ [h1'.objs.size] ++ [h1'.objs.size + 1]) (.ref (h1'.objs.size + 1)) (.ref (H1.length + 1)) := .ref (by
              rw [List.getElem?_append_right (by simp [R1.len])]; simp [R1.len])
            refine I.c fn _ _ _ hP fI _ L _ _ { s with heap := (h1'.push emptyDict).push (instObj Cc h1'.objs.size), toks := t1 } _ CC R3 (.cons hself (VRs.ext (VRs.ext hv X2) X3)) fun v3 H3 hp3 cv h' t' ι' R' X' hcv => ?_
            obtain ⟨rfl, hp3⟩ := hp3
            cases hcv
            refine ⟨rfl, ?_⟩
            exact hQ _ _ hp3 _ h' t' ι' R' (X1.trans (X2.trans (X3.trans X'))) (hself.ext X')
          | none =>
            simp only [hfn] at he'
            cases hfg : fnsG f with
            | some fn =>
              simp only [hfg] at he'
              obtain ⟨a, hn, hk, L⟩ := W.glb f fn hfg
              refine wpAny_bind (glob_name W R F KO hg hd hn ?_)
              refine callWith_of (P := K.In) hns (keeps_K hk) (args_of I hza he' hs C KO R F fun vs H1 hP cvs h1' t1 ι1 R1 X1 hv => ⟨W.X (s := { s with heap := h1', toks := t1 }) R1, ?_⟩)
              exact callRef (fun R' q => I.c fn vs H1 P0 hP a cvs L A R' _ ι1 C.call R1 hv q) fun v H2 hp cv h2 t2 ι2 R2 X2 hv => hQ v H2 hp cv h2 t2 ι2 R2 (X1.trans X2) hv
            | none =>
              unfold knownF at hkn
              rw [hfn, hfg, beq_eq_false_iff_ne.mpr hf, beq_eq_false_iff_ne.mpr hf2, beq_eq_false_iff_ne.mpr hf3] at hkn
              cases hkn

theorem snd_meth {d n : Nat} (W : Wd cl K base) (I : Snd prog w cl K base d n) {o : ME} {f : String} {as : MEs} (hz : zE (.meth o f as) < n + 1) : SE prog w cl base d (.meth o f as) := by
  intro ρ H P0 he sc e hr A E s ι env Q C KO R F hQ
  have hzo : zE o < n := z2a hz
  have hza : zEs as < n := z2b hz
  cases hr with
  | @meth _ _ _ _ eo l p pos h hb hs hn hp =>
    rw [arm_eval_Call, hb]
    have hns : ((backTo pos (starEach l env)).any (·.1) || ([] : List (Option Str × Sem Value)).any (·.1.isNone)) = false := by rw [hs.noStar]; rfl
    have hform : methodCallForm (l.length + ([] : List Keyword).length) (backTo pos (starEach l env)) (backToKw pos (keywordEach [] env)) = true := by
      unfold methodCallForm
      have h1 : (backTo pos (starEach l env)).all (fun x => !x.1) = true := by
        have := hs.noStar (env := env) (pos := pos)
        rw [List.all_eq_true]
        rw [List.any_eq_false] at this
        intro x hx
        simpa using this x hx
      have h2 : decide (l.length + 0 + 0 < 30) = true := decide_eq_true (by lia)
      rw [h1]
      exact h2
    have key : ∀ {s₁ : Shared} {a : Addr} {fv : Value} {P : Value → Shared → Prop}, (∀ pl, ∀ Q' : Value × List Value → Shared → Prop, Q' (fv, [.ref a]) s₁ → wpAny (model prog w) A (getMethod (.ref a) (Str.ofString f) pl) Q' E s₁) →
        wpAny (model prog w) A (callWith pos fv [.ref a] (backTo pos (starEach l env)) []) P E s₁ →
        wpAny (model prog w) A (methodCall eo (Str.ofString f) p pos env (.ref a) (l.length + ([] : List Keyword).length) (backTo pos (starEach l env)) (backToKw pos (keywordEach [] env))) P E s₁ := by
      intro s₁ a fv P hg hc
      unfold methodCall
      rw [hform]
      refine wpAny_bind (wpAny_holding ?_)
      unfold calleeOf
      rw [if_pos rfl]
      refine hg _ _ ?_
      dsimp only
      refine wpAny_bind ?_
      unfold methodCallPos
      rw [if_pos (by rw [hp]; rfl)]
      exact wpAny_pure hc
    refine wpAny_bind (I.e _ hzo ρ H _ he sc _ h A E s ι env _ C KO R F fun v H1 hq cv h1' t1 ι1 R1 X1 hv => ?_)
    refine wpAny_bind (wpAny_standAt ?_)
    obtain ⟨k, hk, hP⟩ := opt_elim hq
    obtain ⟨ai, rfl, hcase⟩ := kindA_inv hk
    obtain ⟨a, rfl, hi⟩ := hv.i_ref
    · skip
      rcases hcase with ⟨Cn, di, fs, e1, e2, hnone, rfl⟩ | ⟨xs, e1, rfl⟩ | ⟨xs, e1, rfl⟩
      · obtain ⟨Cc, dd, es, m, hc, hd, ho, ho2, hF, IA⟩ := R1.inst hi e1 e2
        have X := W.X (s := { s with heap := h1', toks := t1 }) R1
        have pg := plainGet_of ((W.gen Cn Cc hc).1 (Str.ofString f))
        obtain ⟨fn, hfn, hP'⟩ := opt_elim hP
        obtain ⟨fa, g1, g2, g3, L⟩ := W.mth Cn f fn Cc hc hfn
        refine key (fun pl Q' q => method_fn X IA pg.1 pg.2 g1 (beq_iff_eq.mp g2) ?_ q) ?_
        · show Option.map _ (lookIn (Str.ofString f) (dictOf es m)) = _
          rw [lookIn_dict, (hF.get f).2 (by simpa using hnone)]; rfl
        · refine callWith_of (P := K.In) hns (keeps_K g3) (args_of I hza hP' hs C KO R1 (F.ext X1) fun vs H2 hp cvs h2' t2 ι2 R2 X2 hv => ⟨W.X (s := { s with heap := h2', toks := t2 }) R2, ?_⟩)
          exact callRef (fun R' q => I.c fn _ H2 P0 hp fa _ L A R' _ ι2 C.call R2 (.cons (.ref (X2.get hi)) hv) q) fun v H3 hp cv h3 t3 ι3 R3 X3 hv => hQ v H3 hp cv h3 t3 ι3 R3 (X1.trans (X2.trans X3)) hv
      · obtain ⟨cxs, m, ho, hvv⟩ := R1.list hi e1
        obtain ⟨hsl, hP⟩ := hP
        obtain ⟨sl1, sl2⟩ := slot_list hsl
        refine key (fun pl Q' q => getMethod_builtin (T := "list") ⟨_, ho, rfl⟩ PySem.F.plainAttrs_list sl1 sl2 (fun b e => by cases e; exact ⟨_, ho, rfl⟩) q) ?_
        refine callWith_of (P := fun _ => True) hns (plain_keeper fun a => by intro q; cases q) (args_of I hza hP hs C KO R1 (F.ext X1) fun vs H2 hp cvs h2' t2 ι2 R2 X2 hv => ⟨trivial, ?_⟩)
        obtain ⟨r, hr, hp⟩ := opt_elim hp
        obtain ⟨ys, e2, hr⟩ := methL_inv hr
        exact meth_list R2 (X2.get hi) e2 hr hv fun cv h3 t3 R3 X3 hv => hQ _ _ hp cv h3 t3 ι2 R3 (X1.trans (X2.trans X3)) hv
      · obtain ⟨kc, hd, hvv⟩ := R1.dict hi e1
        have hm := (hd prog w).mapOf
        obtain ⟨rfl, hP⟩ := hP
        refine key (fun pl Q' q => getMethod_builtin (T := "dict") hm.typeIs PySem.F.plainAttrs_dict PySem.F.slot_dict_get PySem.F.type_dict_get hm.noDict q) ?_
        refine callWith_of (P := fun _ => True) hns (plain_keeper fun a => by intro q; cases q) (args_of I hza hP hs C KO R1 (F.ext X1) fun vs H2 hp cvs h2' t2 ι2 R2 X2 hv => ⟨trivial, ?_⟩)
        obtain ⟨r, hr, hp⟩ := opt_elim hp
        obtain ⟨ys, e2, hr⟩ := methD_inv hr
        exact (meth_dict (s := { s with heap := h2', toks := t2 }) W R2 (X2.get hi) e2 hr hv fun cv h3 t3 R3 X3 hv => hQ _ _ hp cv h3 t3 ι2 R3 (X1.trans (X2.trans X3)) hv).2
end
end Mine
end
section
open PySem PySem.W PySem.Calls PyProof.Rows PySem.SeqAt
set_option maxRecDepth 100000
namespace Mine

section
variable {prog : Program} {w : World} {cl : String → Option Addr} {K : Frag} {base : Heap}

theorem wO_e {d : Nat} {m : ME} {ρ : AE} {H : AH} {P : Option Int → AH → Prop} (h : wO d m ρ H P) (hm : m ≠ .absent) : wE d m ρ H fun v H => opt (intOf v) fun i => P (some i) H := by
  cases m <;> first | (exact absurd rfl hm) | exact h | exact h.elim

theorem snd_o {d n : Nat} {m : ME} (E1 : SE prog w cl base d m) : SO prog w cl base d m := by
  intro ρ H P he sc e hr A E s ι env Q C KO R F hQ
  cases hr with
  | absent => exact wpAny_pure (hQ _ _ he .none s.heap s.toks ι R .refl rfl)
  | @some _ _ e h =>
    have hm : m ≠ .absent := by rintro rfl; cases h
    show wpAny (model prog w) A (eval e env) Q E s
    refine E1 ρ H _ (wO_e he hm) sc e h A E s ι env Q C KO R F fun v H' hp cv h' t' ι' R' X' hv => ?_
    obtain ⟨i, hi, hp⟩ := opt_elim hp
    cases intOf_inv hi
    obtain ⟨t, rfl⟩ := hv.i_int
    · exact hQ _ _ hp _ h' t' ι' R' X' ⟨t, rfl⟩

theorem snd_es {d n : Nat} (I : Snd prog w cl K base d n) {m : MEs} (hz : zEs m < n + 1) : SEs prog w cl base d m := by
  intro ρ H P he sc l hr A E s ι env pos Q C KO R F hQ
  cases hr with
  | nil => exact wpAny_items_nil (hQ _ _ he [] s.heap s.toks ι R .refl .nil)
  | cons h t =>
    refine wpAny_items_cons (I.e _ (z2a hz) ρ H _ he sc _ h A E s ι env _ C KO R F fun v1 H1 hp cv h1' t1 ι1 R1 X1 hv => ?_) (h.star _ _)
    exact I.es _ (z2b hz) ρ H1 _ hp sc _ t A E _ ι1 env pos _ C KO R1 (F.ext X1) fun vs H2 hp cvs h2' t2 ι2 R2 X2 hvs => hQ _ _ hp _ h2' t2 ι2 R2 (X1.trans X2) (.cons (hv.ext X2) hvs)

theorem snd_b {d n : Nat} (I : Snd prog w cl K base d n) {m : MEs} (hz : zEs m < n + 1) : SB prog w cl base d m := by
  intro k ρ H P he sc l hr A E s ι env pos Q C KO R F hQ
  cases hr with
  | nil => exact he.elim
  | @cons _ m1 ms e l h t =>
    cases t with
    | nil => exact I.e _ (z2a hz) ρ H P he sc _ h A E s ι env Q C KO R F hQ
    | @cons _ m2 ms e2 l2 h2 t2 =>
      show wpAny (model prog w) A (eval e env >>= fun v => standAt pos >>= fun _ => holding [v] (truthy v) >>= fun t => match (if k then .And else .Or : BoolOp), t with
        | .And, false | .Or, true => pure v
        | _, _ => boolOp pos (if k then .And else .Or) (evalEach (e2 :: l2) env)) Q E s
      refine wpAny_bind (I.e _ (z2a hz) ρ H _ he sc _ h A E s ι env _ C KO R F fun v1 H1 hp cv h1' t1 ι1 R1 X1 hv => ?_)
      obtain ⟨b, hb, hp1, hp2⟩ := opt_elim hp
      refine wpAny_bind (wpAny_standAt (wpAny_bind (wpAny_holding (truthy_of R1 hb hv fun t => ?_))))
      by_cases hbk : b = k
      · subst hbk
        have := I.b _ (z2b hz) b ρ H1 P (hp1 rfl) sc _ (.cons h2 t2) A E { s with heap := h1', toks := t } ι1 env pos Q C KO R1 (F.ext X1) fun v H2 hp cv h2' t2 ι2 R2 X2 hvs => hQ v H2 hp _ h2' t2 ι2 R2 (X1.trans X2) hvs
        cases b <;> exact this
      · have hb2 : b = !k := by cases b <;> cases k <;> first | rfl | exact absurd rfl hbk
        have := hQ _ _ (hp2 hb2) cv h1' t ι1 R1 X1 hv
        cases b <;> cases k <;> first | exact absurd rfl hbk | exact wpAny_pure this

theorem snd_t {d n : Nat} (W : Wd cl K base) (I : Snd prog w cl K base d n) {m : ME} (hz : zE m < n + 1) (E1 : SE prog w cl base d m) : ST prog w cl base d m := by
  intro ρ H P he sc e hr A E s ι env Q C KO R F hQ
  have val : wE d m ρ H (fun v H => opt (truthyA H v) fun b => P b H) → wpAny (model prog w) A (eval e env) (fun cv s₁ => wpAny (model prog w) A (truthy cv) Q E s₁) E s := by
    intro h
    refine E1 ρ H _ h sc e hr A E s ι env _ C KO R F fun v H1 hp cv h1' t1 ι1 R1 X1 hv => ?_
    obtain ⟨b, hb, hp⟩ := opt_elim hp
    exact truthy_of R1 hb hv fun t => hQ _ _ hp h1' t ι1 R1 X1
  cases hr with
  | not h => exact wpAny_isTrue_Not (I.t _ (z1 hz) ρ H _ he sc _ h A E s ι env _ C KO R F fun b H1 hp h1' t1 ι1 R1 X1 => hQ _ _ hp h1' t1 ι1 R1 X1)
  | and h => exact wpAny_isTrue_BoolOp (I.ts _ (z1 hz) true ρ H P he sc _ h A E s ι env Q C KO R F hQ)
  | or h => exact wpAny_isTrue_BoolOp (I.ts _ (z1 hz) false ρ H P he sc _ h A E s ι env Q C KO R F hQ)
  | cmp h h' hm =>
    refine wpAny_isTrue_Compare1 (I.e _ (z2a hz) ρ H _ he sc _ h A E s ι env _ C KO R F fun o H1 hp co h1' t1 ι1 R1 X1 ho => ?_) hm
    refine I.e _ (z2b hz) ρ H1 _ hp sc _ h' A E _ ι1 env _ C KO R1 (F.ext X1) fun i H2 hp ci h2' t2 ι2 R2 X2 hi' => ?_
    obtain ⟨b, hb, hp⟩ := opt_elim hp
    exact cmp_of W C R2 hb (ho.ext X2) hi' fun t => wpAny_truthy_bool (hQ _ _ hp h2' t ι2 R2 (X1.trans X2))
  | _ => first | exact wpAny_isTrue_value (val he) (by rfl) | exact he.elim

theorem snd_ts {d n : Nat} (I : Snd prog w cl K base d n) {m : MEs} (hz : zEs m < n + 1) : STs prog w cl base d m := by
  intro k ρ H P he sc l hr A E s ι env Q C KO R F hQ
  cases hr with
  | nil =>
    have := hQ _ _ he s.heap s.toks ι R .refl
    cases k
    · exact wpAny_allTrue_Or_nil this
    · exact wpAny_allTrue_And_nil this
  | @cons _ m1 ms e l h t =>
    have step : ∀ b H1, ((b = k → wTs d k ms ρ H1 P) ∧ (b = !k → P b H1)) → ∀ h1' t1 ι1, Rel cl base ι1 H1 h1' → Ext no ι s.heap ι1 h1' → if b = k then wpAny (model prog w) A (allTrue (if k then .And else .Or) l env) Q E { s with heap := h1', toks := t1 } else Q b { s with heap := h1', toks := t1 } := by
      intro b H1 hp h1' t1 ι1 R1 X1
      by_cases hbk : b = k
      · rw [if_pos hbk]
        exact I.ts _ (z2b hz) k ρ H1 P (hp.1 hbk) sc _ t A E _ ι1 env Q C KO R1 (F.ext X1) fun b2 H2 hp2 h2' t2 ι2 R2 X2 => hQ _ _ hp2 h2' t2 ι2 R2 (X1.trans X2)
      · rw [if_neg hbk]
        exact hQ _ _ (hp.2 (by cases b <;> cases k <;> first | rfl | exact absurd rfl hbk)) h1' t1 ι1 R1 X1
    cases k with
    | true =>
      refine wpAny_allTrue_And_cons (I.t _ (z2a hz) ρ H _ he sc _ h A E s ι env _ C KO R F fun b H1 hp h1' t1 ι1 R1 X1 => ?_)
      have := step b H1 hp h1' t1 ι1 R1 X1
      cases b <;> exact this
    | false =>
      refine wpAny_allTrue_Or_cons (I.t _ (z2a hz) ρ H _ he sc _ h A E s ι env _ C KO R F fun b H1 hp h1' t1 ι1 R1 X1 => ?_)
      have := step b H1 hp h1' t1 ι1 R1 X1
      cases b <;> exact this
end
end Mine
end
section
open PySem PySem.W PySem.Calls PyProof.Rows PySem.SeqAt
set_option maxRecDepth 100000
namespace Mine

section
variable {prog : Program} {w : World} {A : Around} {E : Value → Shared → Prop} {R : Result → Shared → Prop} {s : Shared}

theorem while_turn {test body env}
    (h : wpAny (model prog w) A (isTrue test env (eval test env)) (fun b s₂ =>
        if b = true then wpAny (model prog w) A (execs body env) (fun f s₃ => match f with
            | .next | .cont => codeAny (model prog w) A (.whileLoop test body [] env) R s₃
            | .brk => R (.ok .next) s₃
            | .ret v => R (.ok (.ret v)) s₃) (notedBy (model prog w) A env fun e s' => R (.error e) s') s₂
        else R (.ok .next) s₂)
        (notedBy (model prog w) A env fun e s' => R (.error e) s') s) : codeAny (model prog w) A (.whileLoop test body [] env) R s := by
  refine codeAny_of_tree ?_
  rw [Around.under_of_weight (c := .whileLoop test body [] env) rfl]
  show wpAny _ A ((whileTurn test body [] env).onRaise (fun x => do noteFrame x env; theTreesLotGoes x)) _ _ s
  refine wpAny_noted ?_
  simp only [whileTurn]
  refine wpAny_bind (wpAny_mono h (fun b s₂ h₂ => ?_) fun _ _ h' => h')
  cases b with
  | false =>
    simp only [Bool.false_eq_true, if_false] at h₂ ⊢
    exact wpAny_bind (wpAny_execs_nil (wpAny_pure h₂))
  | true =>
    simp only [if_true] at h₂ ⊢
    refine wpAny_bind (wpAny_mono h₂ (fun f s₃ h₃ => ?_) fun _ _ h' => h')
    cases f with
    | next => exact wpAny_pure ⟨rfl, h₃⟩
    | cont => exact wpAny_pure ⟨rfl, h₃⟩
    | brk => exact wpAny_pure h₃
    | ret v => exact wpAny_pure h₃

theorem for_turn {x : Str} {px : Pos} {it : Value} {body env}
    (h : wpAny (model prog w) A (pyNext it) (fun r s₁ => match r with
      | none => R (.ok .next) s₁
      | some v => wpAny (model prog w) A (storeName env x v) (fun _ s₂ => wpAny (model prog w) A (execs body env) (fun f s₃ => match f with
          | .next | .cont => codeAny (model prog w) A (.forLoop (.Name x px) it body [] env) R s₃
          | .brk => R (.ok .next) s₃
          | .ret v => R (.ok (.ret v)) s₃) (notedBy (model prog w) A env fun e s' => R (.error e) s') s₂) (notedBy (model prog w) A env fun e s' => R (.error e) s') s₁) (notedBy (model prog w) A env fun e s' => R (.error e) s') s) :
    codeAny (model prog w) A (.forLoop (.Name x px) it body [] env) R s := by
  refine codeAny_of_tree ?_
  rw [Around.under_of_weight (c := .forLoop (.Name x px) it body [] env) rfl]
  show wpAny _ _ ((forTurn (.Name x px) it body [] env).onRaise (fun x => do noteFrame x env; theTreesLotGoes x)) _ _ s
  refine wpAny_noted ?_
  simp only [forTurn]
  refine wpAny_bind (wpAny_standAt (wpAny_bind (wpAny_onRaise (wpAny_mono h (fun r s₁ h₁ => ?_) fun _ _ h' => wpAny_standAt h'))))
  cases r with
  | none => exact wpAny_pure ⟨rfl, codeAny_block (wpAny_execs_nil h₁)⟩
  | some v =>
    refine wpAny_bind (wpAny_of_eq (show letOwnedTupleGo (.Name x px) it v = pure () from rfl) ?_)
    refine wpAny_bind (wpAny_assign_Name (wpAny_mono h₁ (fun _ s₂ h₂ => wpAny_bind (wpAny_mono h₂ (fun f s₃ h₃ => ?_) fun _ _ h' => h')) fun _ _ h' => h'))
    cases f with
    | next => exact wpAny_pure ⟨rfl, h₃⟩
    | cont => exact wpAny_pure ⟨rfl, h₃⟩
    | brk => exact wpAny_pure h₃
    | ret v => exact wpAny_pure h₃

theorem comp_turn {elt iter : Expr} {x : Str} {px : Pos} {ifs : List Expr} {scope : Scope} {pos : Pos} {it acc : Value} {env : Env}
    (h : wpAny (model prog w) A (pyNext it) (fun r s₁ => match r with
      | none => R (.ok .next) s₁
      | some v => wpAny (model prog w) A (storeName env x v) (fun _ s₂ =>
          wpAny (model prog w) A (compTest ifs env) (fun ok s₃ =>
            if ok = true then wpAny (model prog w) A (eval elt env) (fun y s₄ =>
              wpAny (model prog w) A (call (.builtin "list.append") [acc, y]) (fun _ s₅ => codeAny (model prog w) A (.compLoop (.ListComp elt [⟨.Name x px, iter, ifs, 0⟩] scope pos) 0 it acc env) R s₅) (notedBy (model prog w) A env fun e s' => R (.error e) s') s₄) (notedBy (model prog w) A env fun e s' => R (.error e) s') s₃
            else codeAny (model prog w) A (.compLoop (.ListComp elt [⟨.Name x px, iter, ifs, 0⟩] scope pos) 0 it acc env) R s₃) (notedBy (model prog w) A env fun e s' => R (.error e) s') s₂) (notedBy (model prog w) A env fun e s' => R (.error e) s') s₁) (notedBy (model prog w) A env fun e s' => R (.error e) s') s) :
    codeAny (model prog w) A (.compLoop (.ListComp elt [⟨.Name x px, iter, ifs, 0⟩] scope pos) 0 it acc env) R s := by
  refine codeAny_of_tree ?_
  rw [Around.under_of_weight (c := .compLoop (.ListComp elt [⟨.Name x px, iter, ifs, 0⟩] scope pos) 0 it acc env) rfl]
  show wpAny _ A ((compTurn (.ListComp elt [⟨.Name x px, iter, ifs, 0⟩] scope pos) 0 it acc env).onRaise (fun x => do noteFrame x env; theTreesLotGoes x)) _ _ s
  refine wpAny_noted ?_
  rw [compTurn_list]
  refine wpAny_bind (wpAny_standAt (wpAny_bind (wpAny_mono h (fun r s₁ h₁ => ?_) fun _ _ h' => h')))
  cases r with
  | none => exact wpAny_pure h₁
  | some v =>
    refine wpAny_bind (wpAny_of_eq (show letOwnedTupleGo (.Name x px) it v = pure () from rfl) ?_)
    refine wpAny_bind (wpAny_assign_Name (wpAny_mono h₁ (fun _ s₂ h₂ => wpAny_bind (wpAny_mono h₂ (fun ok s₃ h₃ => ?_) fun _ _ h' => h')) fun _ _ h' => h'))
    cases ok with
    | false => exact wpAny_pure ⟨rfl, h₃⟩
    | true =>
      exact wpAny_bind (wpAny_bind (wpAny_mono h₃ (fun x s₄ h₄ => wpAny_bind (wpAny_mono h₄ (fun _ s₅ h₅ => wpAny_pure (wpAny_pure ⟨rfl, h₅⟩)) fun _ _ h' => h')) fun _ _ h' => h'))
end

section
variable {prog : Program} {w : World} {cl : String → Option Addr} {K : Frag} {base : Heap}

theorem it_turn {env : Env} {ρ : AE} {ι : List Addr} {H : AH} {h h' : Heap} {it : Addr} (R : Rel cl base ι H h) (F : FrR base env ρ ι h) (O : Off base env ι h it) (hs : Heap.ExtBut it h h') :
    Rel cl base ι H h' ∧ FrR base env ρ ι h' ∧ (∀ cv v, VR base h ι cv v → VR base h' ι cv v) := by
  have sub : ∀ b o, h.get? b = some o → imm o = true → h'.get? b = some o := fun b o e im => hs b o (fun q => by
    obtain ⟨o', e', im'⟩ := O.live
    subst q; rw [e'] at e; cases e; rw [im'] at im; cases im) e
  have mono : ∀ {cv v}, VR base h ι cv v → VR base h' ι cv v := fun x => x.mono sub fun _ _ e => e
  have neL : env.locals ≠ it := fun q => O.nl (.inl q.symm)
  have neC : ∀ n c, (n, c) ∈ env.cells → c ≠ it := fun n c hm q => O.nl (.inr ⟨n, q ▸ hm⟩)
  refine ⟨⟨fun b o e => hs b o (fun q => by have := none_of_big O.nb; rw [← q, e] at this; cases this) (R.keep b o e), R.len, R.nodup, R.fresh, ?_, fun i a ao e1 e2 => ?_⟩, ?_, fun _ _ => mono⟩
  · obtain ⟨o, ho⟩ := F.live
    exact ⟨env.locals, o, F.newL, hs _ _ neL ho⟩
  · have na : a ≠ it := fun q => O.ni (q ▸ List.mem_of_getElem? e1)
    have k : ∀ ob, h.get? a = some ob → h'.get? a = some ob := fun ob e => hs a ob na e
    cases R.obj i a ao e1 e2 with
    | list ho hv => exact .list (k _ ho) ⟨hv.1, fun j cv v x y => mono (hv.2 j cv v x y)⟩
    | dict ho hv => exact .dict (ho.keep k) (forall2_imp (fun _ _ y => ⟨y.1, mono y.2⟩) hv)
    | fields ho hv => exact .fields (k _ ho) (forall2_imp (fun _ _ y => ⟨y.1, mono y.2⟩) hv)
    | inst ho hc hd => exact .inst (k _ ho) hc hd
  · obtain ⟨m, ⟨o, es, ep, ho, r⟩, hm⟩ := F.ns
    refine ⟨F.kind, F.glob, F.blt, ⟨m, ⟨o, es, ep, hs _ _ neL ho, r⟩, fun x v q => ?_⟩, fun n c hm => ?_, F.apart, F.offL, F.newL, F.have_⟩
    · rcases hm x v q with ⟨k, cv, e1, e2⟩ | ⟨k, c, cv, e1, ⟨o, ho, hd⟩, e2⟩
      · exact .inl ⟨k, cv, e1, mono e2⟩
      · exact .inr ⟨k, c, cv, e1, ⟨o, hs _ _ (neC _ _ (mem_of_lookup e1)) ho, hd⟩, mono e2⟩
    · obtain ⟨⟨v, o, ho, hd⟩, q⟩ := F.cells n c hm
      exact ⟨⟨v, o, hs _ _ (neC _ _ hm) ho, hd⟩, q⟩

theorem Ext.anch {own : Addr → Prop} {ι₀ ι : List Addr} {h₀ h h' : Heap} {it : Addr} (X : Ext own ι₀ h₀ ι h) (hn : h₀.get? it = none) (hs : Heap.ExtBut it h h') : Ext own ι₀ h₀ ι h' := by
  have ne : ∀ b o, h₀.get? b = some o → b ≠ it := fun b o e q => by rw [q, hn] at e; cases e
  refine ⟨X.pre, X.fresh, fun b o e n no => hs b o (ne b o e) (X.keep b o e n no), fun b o e im => hs b o (ne b o e) (X.sub b o e im), fun b o e => ?_⟩
  obtain ⟨o', e'⟩ := X.there b o e
  exact ⟨o', hs b o' (ne b o e) e'⟩

theorem FrR.weaken {env : Env} {ρ ρ' : AE} {ι : List Addr} {h : Heap} (F : FrR base env ρ ι h) (k : ∀ y v, ρ'.lookup y = some v → ρ.lookup y = some v) : FrR base env ρ' ι h := by
  obtain ⟨m, hn, hm⟩ := F.ns
  exact ⟨F.kind, F.glob, F.blt, ⟨m, hn, fun x v q => hm x v (k x v q)⟩, F.cells, F.apart, F.offL, F.newL, F.have_⟩

/-- an iterator is left alone -/
theorem Off.ext {env : Env} {ι ι' : List Addr} {h h' : Heap} {it : Addr} (O : Off base env ι h it) (X : ExtS env ι h ι' h') : Off base env ι' h' it ∧ ∀ o, h.get? it = some o → h'.get? it = some o := by
  obtain ⟨o, ho, hi⟩ := O.live
  have k := X.keep it o ho O.ni O.nl
  exact ⟨⟨X.notMem ho O.ni, O.nl, O.nb, o, k, hi⟩, fun o' e => by rw [ho] at e; cases e; exact k⟩
theorem ItV.ext {env : Env} {ι ι' : List Addr} {h h' : Heap} {it : Addr} {vs : List AV} (I : ItV base h ι it vs) (O : Off base env ι h it) (X : ExtS env ι h ι' h') : ItV base h' ι' it vs := by
  have k := (O.ext X).2
  cases I with
  | tup hi ht hv =>
    obtain ⟨o, ho, r⟩ := hi
    exact .tup ⟨o, k o ho, r⟩ (X.sub _ _ ht rfl) (VRs.ext hv X)
  | rng hi => exact .rng (k _ hi)

/-- what a step of an iterator gives -/
theorem it_next {A : Around} {E : Value → Shared → Prop} {s : Shared} {env : Env} {ρ : AE} {ι : List Addr} {H : AH} {it : Addr} {vs : List AV} {Q : Option Value → Shared → Prop} (hh : A.handled = none) (R : Rel cl base ι H s.heap) (F : FrR base env ρ ι s.heap) (O : Off base env ι s.heap it) (I : ItV base s.heap ι it vs)
    (hnil : vs = [] → ∀ h' t', Rel cl base ι H h' → FrR base env ρ ι h' → Heap.ExtBut it s.heap h' → Q none { s with heap := h', toks := t' })
    (hcons : ∀ v r, vs = v :: r → ∀ cv h' t', Rel cl base ι H h' → FrR base env ρ ι h' → Heap.ExtBut it s.heap h' → VR base h' ι cv v → Off base env ι h' it → ItV base h' ι it r → Q (some cv) { s with heap := h', toks := t' }) :
    wpAny (model prog w) A (pyNext (.ref it)) Q E s := by
  have off : ∀ {h' : Heap}, (∃ o, h'.get? it = some o ∧ imm o = false) → Off base env ι h' it := fun l => ⟨O.ni, O.nl, O.nb, l⟩
  cases I with
  | @tup t items n i vs hi ht hv =>
    have T : s.heap.IsTuple t items.toArray := isTup_of ht
    have hne : t ≠ it := fun q => by
      obtain ⟨o, ho, im⟩ := O.live
      rw [q, ho] at ht; cases ht; cases im
    cases q : items[i]? with
    | none =>
      have : vs = [] := by
        have h1 : items.drop i = [] := List.drop_eq_nil_of_le (List.getElem?_eq_none_iff.mp q)
        rw [h1] at hv
        cases vs with
        | nil => rfl
        | cons _ _ => cases hv.1
      refine wpAny_pyNext_tuple_end hh hi T (by simpa using q) fun h' hs => ?_
      obtain ⟨R', F', _⟩ := it_turn R F O hs
      exact hnil this h' s.toks R' F' hs
    | some x =>
      have hlt := (List.getElem?_eq_some_iff.mp q).1
      have hd : items.drop i = x :: items.drop (i + 1) := by rw [List.drop_eq_getElem_cons hlt, (List.getElem?_eq_some_iff.mp q).2]
      rw [hd] at hv
      cases vs with
      | nil => cases hv.1
      | cons v r =>
        have hx : VR base s.heap ι x v := hv.2 0 x v rfl rfl
        have hr : VRs base s.heap ι (items.drop (i + 1)) r := ⟨by have := hv.1; simpa using this, fun j cv u a b => hv.2 (j + 1) cv u (by simpa using a) (by simpa using b)⟩
        refine wpAny_pyNext_tuple_item hi T (by simpa using q) fun h' hi' hs => ?_
        obtain ⟨R', F', m⟩ := it_turn R F O hs.extBut
        refine hcons v r rfl x h' s.toks R' F' hs.extBut (m _ _ hx) (off ?_) (.tup hi' ((hs.2 t hne).trans ht) ⟨hr.1, fun j cv u a b => m _ _ (hr.2 j cv u a b)⟩)
        obtain ⟨o, ho, hc, hd⟩ := hi'
        refine ⟨o, ho, ?_⟩
        unfold imm
        rw [hd, hc]; rfl
  | @rng x k hi =>
    cases k with
    | zero =>
      refine wpAny_pyNext_range_end hh hi (by decide) fun h' hs => ?_
      obtain ⟨R', F', _⟩ := it_turn R F O hs
      exact hnil rfl h' s.toks R' F' hs
    | succ k =>
      refine wpAny_pyNext_range_item hi (by lia) fun h' hi' hs => ?_
      obtain ⟨R', F', m⟩ := it_turn R F O hs.extBut
      have e1 : (List.range (k + 1)).map (fun (j : Nat) => AV.int (x + j)) = AV.int x :: (List.range k).map (fun (j : Nat) => AV.int (x + 1 + j)) := by
        rw [List.range_succ_eq_map, List.map_cons, List.map_map]
        congr 1
        · simp
        · refine List.map_congr_left fun j _ => ?_
          show AV.int (x + ((j + 1 : Nat) : Int)) = _
          congr 1; push_cast; lia
      have e2 : ((k + 1 : Nat) : Int) - 1 = ((k : Nat) : Int) := by push_cast; lia
      rw [e2] at hi'
      exact hcons _ _ e1 _ h' _ R' F' hs.extBut (.int _ _) (off ⟨_, hi', rfl⟩) (.rng hi')
end
end Mine
end
section
open PySem PySem.W PySem.Calls PyProof.Rows PySem.SeqAt
set_option maxRecDepth 100000
namespace Mine

theorem storeOk.kind {sc : Scope} {x : String} {env : Env} (h : storeOk sc x) (KO : KindOk env sc) : env.kindOf (Str.ofString x) = some .local ∨ env.kindOf (Str.ofString x) = some .cell := by
  rcases h with h | h
  · exact .inl (KO _ _ h (by decide))
  · exact .inr (KO _ _ h (by decide))

section
variable {prog : Program} {w : World} {cl : String → Option Addr} {K : Frag} {base : Heap}

theorem snd_wh {d : Nat} {t : ME} {m : MSs} (T1 : ST prog w cl base d t) (S1 : SXs prog w cl base d m) {sc : Scope} {et : Expr} {st : List Stmt} (ht : RE sc t et) (hm : RSs sc m st) {A : Around} {R : Result → Shared → Prop} {env : Env} (C : Cx A d) (KO : KindOk env sc) : ∀ n ρ H P, XWh d t m n ρ H P → ∀ s ι, Rel cl base ι H s.heap → FrR base env ρ ι s.heap →
    (∀ f ρ' H', P f ρ' H' → AftX cl base env ι s ρ' H' f (fun fl s' => R (.ok fl) s')) → codeAny (model prog w) A (.whileLoop et st [] env) R s := by
  intro n
  induction n with
  | zero => exact fun ρ H P he => he.elim
  | succ n ih =>
    intro ρ H P he s ι Re F hQ
    refine while_turn (T1 ρ H _ he sc et ht A _ s ι env _ C KO Re F fun b H1 hp h1' t1 ι1 R1 X1 => ?_)
    cases b with
    | true =>
      rw [if_pos rfl]
      refine S1 ρ H1 _ (hp.1 rfl) sc st hm A _ _ ι1 env _ C KO R1 (F.ext X1) fun f ρ2 H2 hp2 fl h2' t2 ι2 R2 X2 F2 hf => ?_
      cases f with
      | next =>
        cases hf
        exact ih ρ2 H2 P hp2 _ ι2 R2 F2 fun f ρ' H' hp3 fl h3 t3 ι3 R3 X3 F3 hf => hQ f ρ' H' hp3 fl h3 t3 ι3 R3 (X1.of_no.trans (X2.trans X3)) F3 hf
      | ret v =>
        obtain ⟨cv, rfl, hv⟩ := hf
        exact hQ _ _ _ hp2 _ h2' t2 ι2 R2 (X1.of_no.trans X2) F2 ⟨cv, rfl, hv⟩
    | false =>
      rw [if_neg (by decide)]
      exact hQ _ _ _ (hp.2 rfl) .next h1' t1 ι1 R1 X1.of_no (F.ext X1) rfl

theorem snd_fv {d : Nat} {x : String} {m : MSs} (S1 : SXs prog w cl base d m) {sc : Scope} {st : List Stmt} {px : Pos} {it : Addr} (hx : storeOk sc x) (hm : RSs sc m st) {A : Around} {R : Result → Shared → Prop} {env : Env} {ι₀ : List Addr} {h₀ : Heap} (C : Cx A d) (KO : KindOk env sc) (hn : h₀.get? it = none) : ∀ vs ρ H P, XFv d x vs m ρ H P → ∀ s ι, Rel cl base ι H s.heap → FrR base env ρ ι s.heap →
    ExtS env ι₀ h₀ ι s.heap → ItV base s.heap ι it vs → Off base env ι s.heap it → (∀ f ρ' H', P f ρ' H' → AftL cl base env ι₀ h₀ s ρ' H' f R) → codeAny (model prog w) A (.forLoop (.Name (Str.ofString x) px) (.ref it) st [] env) R s := by
  intro vs
  induction vs with
  | nil =>
    intro ρ H P he s ι Re F X0 IT O hQ
    exact for_turn (it_next C.handled Re F O IT (fun _ h' t' R' F' hs => hQ _ _ _ he .next h' t' ι R' (X0.anch hn hs) F' rfl) fun v r e => by cases e)
  | cons v r ih =>
    intro ρ H P he s ι Re F X0 IT O hQ
    refine for_turn (it_next C.handled Re F O IT (fun e => by cases e) fun v0 r0 e cv h1' t1 R1 F1 hs hv O1 IT1 => ?_)
    cases e
    refine store_var (s := { s with heap := h1', toks := t1 }) R1 F1 (hx.kind KO) hv fun h2' t2 R2 X2 F2 => ?_
    have O2 := O1.ext X2
    have IT2 := IT1.ext O1 X2
    have X02 := (X0.anch hn hs).trans X2
    refine S1 _ H _ he sc st hm A _ _ ι env _ C KO R2 F2 fun f ρ3 H3 hp fl h3' t3 ι3 R3 X3 F3 hf => ?_
    cases f with
    | next =>
      cases hf
      exact ih ρ3 H3 P hp _ ι3 R3 F3 (X02.trans X3) (IT2.ext O2.1 X3) (O2.1.ext X3).1 hQ
    | ret v' =>
      obtain ⟨cv', rfl, hv'⟩ := hf
      exact hQ _ _ _ hp _ h3' t3 ι3 R3 (X02.trans X3) F3 ⟨cv', rfl, hv'⟩

theorem listIter_imm {h : Heap} {it l : Addr} {i : Nat} (x : h.IsListIter it l i) : ∃ o, h.get? it = some o ∧ imm o = false := by
  obtain ⟨o, ho, hc, hd⟩ := x
  refine ⟨o, ho, ?_⟩
  unfold imm
  rw [hd, hc]; rfl

theorem XFl_inv {d n : Nat} {x : String} {a i : Nat} {b : MSs} {ρ : AE} {H : AH} {Q : KS} (h : XFl d x a (n + 1) i b ρ H Q) : ∃ vs, H[a]? = some (.list vs) ∧ ((vs[i]? = Option.none ∧ Q .next ρ H) ∨ ∃ v, vs[i]? = some v ∧ wSs d b (setE x v ρ) H (next1 (fun ρ H => XFl d x a n (i + 1) b ρ H Q) Q)) := by
  unfold XFl flL at h
  split at h
  · rename_i vs hH
    split at h
    · rename_i hv; exact ⟨vs, hH, .inl ⟨hv, h⟩⟩
    · rename_i v hv; exact ⟨vs, hH, .inr ⟨v, hv, h⟩⟩
  · exact h.elim

theorem snd_fl {d : Nat} {x : String} {a : Nat} {m : MSs} (S1 : SXs prog w cl base d m) {sc : Scope} {st : List Stmt} {px : Pos} {it l : Addr} (hx : storeOk sc x) (hm : RSs sc m st) {A : Around} {R : Result → Shared → Prop} {env : Env} {ι₀ : List Addr} {h₀ : Heap} (C : Cx A d) (KO : KindOk env sc) (hn : h₀.get? it = none) : ∀ n i ρ H P, XFl d x a n i m ρ H P → ∀ s ι, Rel cl base ι H s.heap → FrR base env ρ ι s.heap →
    ExtS env ι₀ h₀ ι s.heap → ι[a]? = some l → s.heap.IsListIter it l i → Off base env ι s.heap it → (∀ f ρ' H', P f ρ' H' → AftL cl base env ι₀ h₀ s ρ' H' f R) → codeAny (model prog w) A (.forLoop (.Name (Str.ofString x) px) (.ref it) st [] env) R s := by
  intro n
  induction n with
  | zero => exact fun i ρ H P he => he.elim
  | succ n ih =>
    intro i ρ H P he s ι Re F X0 hl IT O hQ
    obtain ⟨vs, hH, he⟩ := XFl_inv he
    obtain ⟨cvs, nn, ho, hvs⟩ := Re.list hl hH
    rcases he with ⟨hv, he⟩ | ⟨v, hv, he⟩
    · refine for_turn (wpAny_pyNext_list_end C.handled IT (isList_of ho) (by
        have := List.getElem?_eq_none_iff.mp hv
        simp [hvs.1]; lia) fun h' hs => ?_)
      obtain ⟨R', F', _⟩ := it_turn Re F O hs
      exact hQ _ _ _ he .next h' s.toks ι R' (X0.anch hn hs) F' rfl
    · obtain ⟨cv, hc, hvv⟩ := hvs.at hv
      refine for_turn (wpAny_pyNext_list_item IT (isList_of ho) (x := cv) (by simpa using hc) fun h1' IT1 hs => ?_)
      obtain ⟨R1, F1, mono⟩ := it_turn Re F O hs.extBut
      have O1 : Off base env ι h1' it := ⟨O.ni, O.nl, O.nb, listIter_imm IT1⟩
      dsimp only
      refine store_var (s := { s with heap := h1' }) R1 F1 (hx.kind KO) (mono _ _ hvv) fun h2' t2 R2 X2 F2 => ?_
      have O2 := O1.ext X2
      have IT2 : h2'.IsListIter it l (i + 1) := by obtain ⟨o, e, r⟩ := IT1; exact ⟨o, O2.2 o e, r⟩
      have X02 := (X0.anch hn hs.extBut).trans X2
      refine S1 _ H _ he sc st hm A _ _ ι env _ C KO R2 F2 fun f ρ3 H3 hp fl h3' t3 ι3 R3 X3 F3 hf => ?_
      cases f with
      | next =>
        cases hf
        have O3 := O2.1.ext X3
        exact ih (i + 1) ρ3 H3 P hp _ ι3 R3 F3 (X02.trans X3) (X3.get hl) (by obtain ⟨o, e, r⟩ := IT2; exact ⟨o, O3.2 o e, r⟩) O3.1 hQ
      | ret v' =>
        obtain ⟨cv', rfl, hv'⟩ := hf
        exact hQ _ _ _ hp _ h3' t3 ι3 R3 (X02.trans X3) F3 ⟨cv', rfl, hv'⟩

theorem wI_t {d : Nat} {m : ME} {ρ : AE} {H : AH} {P : Bool → AH → Prop} (h : wI d m ρ H P) (hm : m ≠ .absent) : wT d m ρ H P := by
  cases m <;> first | (exact absurd rfl hm) | exact h | exact h.elim

theorem snd_ct {d : Nat} {elt cond : ME} (E1 : SE prog w cl base d elt) (T1 : ST prog w cl base d cond) : ∀ ρ acc H Kp, XCt d ρ elt cond acc H Kp → ∀ sc elt' ifs la, RE sc elt elt' → RI sc cond ifs → ∀ A (E : Value → Shared → Prop) (s : Shared) ι env (Q : Shared → Prop), Cx A d → KindOk env sc → Rel cl base ι H s.heap → FrR base env ρ ι s.heap → ι[acc]? = some la →
    (∀ H', Kp H' → ∀ h' t' ι', Rel cl base ι' H' h' → Ext no ι s.heap ι' h' → Q { s with heap := h', toks := t' }) →
    wpAny (model prog w) A (compTest ifs env) (fun ok s₃ => if ok = true then wpAny (model prog w) A (eval elt' env) (fun x s₄ => wpAny (model prog w) A (call (.builtin "list.append") [.ref la, x]) (fun _ s₅ => Q s₅) E s₄) E s₃ else Q s₃) E s := by
  intro ρ acc H Kp he sc elt' ifs la hr hi A E s ι env Q C KO R F hla hQ
  have emit : ∀ H1, (wE d elt ρ H1 fun w H'' => opt (methA H'' acc "append" [w]) fun r => Kp r.2) → ∀ h1' t1 ι1, Rel cl base ι1 H1 h1' → Ext no ι s.heap ι1 h1' →
      wpAny (model prog w) A (eval elt' env) (fun x s₄ => wpAny (model prog w) A (call (.builtin "list.append") [.ref la, x]) (fun _ s₅ => Q s₅) E s₄) E { s with heap := h1', toks := t1 } := by
    intro H1 h2 h1' t1 ι1 R1 X1
    refine E1 ρ H1 _ h2 sc elt' hr A E _ ι1 env _ C KO R1 (F.ext X1) fun w' H2 hp cv h2' t2 ι2 R2 X2 hv => ?_
    obtain ⟨r, h4, hk⟩ := opt_elim hp
    have hl2 : ι2[acc]? = some la := X2.get (X1.get hla)
    cases q : H2[acc]? with
    | none => unfold methA at h4; rw [q] at h4; cases h4
    | some ao =>
      cases ao with
      | list vs =>
        exact meth_list (s := { s with heap := h2', toks := t2 }) R2 hl2 q h4 (.cons hv .nil) fun cv h3 t3 R3 X3 _ => hQ _ hk h3 t3 ι2 R3 (X1.trans (X2.trans X3))
      | _ => unfold methA at h4; rw [q] at h4; cases h4
  cases hi with
  | absent =>
    refine wpAny_tests_nil ?_
    rw [if_pos rfl]
    exact emit H (he.1 rfl) s.heap s.toks ι R .refl
  | @one _ m e h =>
    have hm : cond ≠ .absent := by rintro rfl; cases h
    refine wpAny_tests_one (T1 ρ H _ (wI_t he hm) sc e h A E s ι env _ C KO R F fun b H1 hp h1' t1 ι1 R1 X1 => ?_)
    cases b with
    | true =>
      rw [if_pos rfl]
      exact emit H1 (hp.1 rfl) h1' t1 ι1 R1 X1
    | false =>
      rw [if_neg (by decide)]
      exact hQ _ (hp.2 rfl) h1' t1 ι1 R1 X1

theorem FrR.in_comp {env : Env} {ρ ρ₁ : AE} {ι : List Addr} {h : Heap} {x : String} {v : AV} (F : FrR base env (setE x v ρ₁) ι h) (hx : ρ.lookup x = none) (k : ∀ y v, ρ.lookup y = some v → ρ₁.lookup y = some v) : FrR base env ((x, v) :: ρ) ι h := by
  refine F.weaken fun y u q => ?_
  rw [lookup_setE]
  rw [List.lookup_cons] at q
  by_cases z : y = x
  · subst z
    simp at q
    subst q
    simp
  · have z' : (y == x) = false := by simpa using z
    rw [z'] at q
    rw [if_neg z]
    exact k y u q

theorem store_local {M : Model} {A : Around} {E : Value → Shared → Prop} {s : Shared} {env : Env} {ρ : AE} {ι : List Addr} {H : AH} {x : String} {v : AV} {cv : Value} {Q : Unit → Shared → Prop} (R : Rel cl base ι H s.heap) (F : FrR base env ρ ι s.heap)
    (k : env.kindOf (Str.ofString x) = some .local) (hv : VR base s.heap ι cv v)
    (h : ∀ h' t', Rel cl base ι H h' → Heap.SameBut env.locals s.heap h' → ExtS env ι s.heap ι h' → FrR base env (setE x v ρ) ι h' → Q () { s with heap := h', toks := t' }) : wpAny M A (storeName env (Str.ofString x) cv) Q E s := by
  obtain ⟨m, hn, hm⟩ := F.ns
  refine wpAny_storeName_local k hn (fun h' hn' hs => ?_) (by rw [F.kind]; rfl)
  obtain ⟨R', X⟩ := own_turn R F (.inl rfl) hs (by obtain ⟨o, _, _, ho, _⟩ := hn'; exact ⟨o, ho⟩)
  have kc : ∀ k c, (k, c) ∈ env.cells → ∀ o, s.heap.get? c = some o → h'.get? c = some o := fun k c q o e => (hs.2 c (F.cells k c q).2.1).trans e
  refine h h' _ R' hs X ⟨F.kind, F.glob, F.blt, ⟨_, hn', fun y u q => ?_⟩, fun n c q => ?_, F.apart, F.offL, F.newL, F.have_⟩
  · rw [lookup_setE] at q
    by_cases z : y = x
    · rw [if_pos z] at q; cases q; subst z
      exact .inl ⟨k, cv, by simp, hv.ext X⟩
    · rw [if_neg z] at q
      rcases (hm y u q).ext X kc with ⟨ky, cy, hy, hr⟩ | r
      · refine .inl ⟨ky, cy, ?_, hr⟩
        show (if Str.ofString y = Str.ofString x then some cv else m (Str.ofString y)) = _
        rw [if_neg fun w => z (ofString_inj w)]; exact hy
      · exact .inr r
  · obtain ⟨⟨u, oc, hoc, hd⟩, r⟩ := F.cells n c q
    exact ⟨⟨u, oc, kc n c q oc hoc, hd⟩, r⟩

/-- what stays the same around a comprehension's turns -/
theorem sub_set {ρ ρ₁ : AE} {x : String} {v : AV} (hρ : ρ.lookup x = none) (hsub : ∀ y v, ρ.lookup y = some v → ρ₁.lookup y = some v) : ∀ y u, ρ.lookup y = some u → (setE x v ρ₁).lookup y = some u := fun y u q => by
  rw [lookup_setE, if_neg (fun z => by rw [z, hρ] at q; cases q)]
  exact hsub y u q

theorem snd_cv {d : Nat} {elt cond : ME} (E1 : SE prog w cl base d elt) (T1 : ST prog w cl base d cond) {ρ : AE} {x : String} {acc : Nat} {P : KE} (hρ : ρ.lookup x = none) {sc : Scope} {elt' : Expr} {ifs : List Expr} {px : Pos} {src' : Expr} {pos : Pos} {it la : Addr} (hr : RE sc elt elt') (hi : RI sc cond ifs) (hx : sc.names.lookup (Str.ofString x) = some .local)
    {A : Around} {R : Result → Shared → Prop} {env : Env} {ι₀ : List Addr} {h₀ : Heap} (C : Cx A d) (KO : KindOk env sc) (hn : h₀.get? it = none) (hL : h₀.get? env.locals = none) : ∀ vs H, XCv d ρ elt x cond acc vs H P → ∀ s ι, Rel cl base ι H s.heap → (∃ ρ₁, FrR base env ρ₁ ι s.heap ∧ ∀ y v, ρ.lookup y = some v → ρ₁.lookup y = some v) →
    Ext no ι₀ h₀ ι s.heap → ι[acc]? = some la → ItV base s.heap ι it vs → Off base env ι s.heap it → (∀ H', P (.ref acc) H' → AftM cl base env ι₀ h₀ s ρ H' acc la R) →
    codeAny (model prog w) A (.compLoop (.ListComp elt' [⟨.Name (Str.ofString x) px, src', ifs, 0⟩] sc pos) 0 (.ref it) (.ref la) env) R s := by
  intro vs
  induction vs with
  | nil =>
    intro H he s ι Re ⟨ρ₁, F, hsub⟩ X0 hla IT O hQ
    exact comp_turn (it_next C.handled Re F O IT (fun _ h' t' R' F' hs => hQ _ he h' t' ι ρ₁ hla R' (X0.anch hn hs) F' hsub) fun v r e => by cases e)
  | cons v vs ih =>
    intro H he s ι Re ⟨ρ₁, F, hsub⟩ X0 hla IT O hQ
    have hk : env.kindOf (Str.ofString x) = some .local := KO _ _ hx (by decide)
    refine comp_turn (it_next C.handled Re F O IT (fun e => by cases e) fun v0 r0 e cv h1' t1 R1 F1 hs hv O1 IT1 => ?_)
    cases e
    refine store_local (s := { s with heap := h1', toks := t1 }) R1 F1 hk hv fun h2' t2 R2 hs2 X2 F2 => ?_
    have X02 := (X0.anch hn hs).anch hL hs2.extBut
    refine snd_ct E1 T1 ((x, v) :: ρ) acc H (fun H => XCv d ρ elt x cond acc vs H P) he sc elt' ifs la hr hi A _ { s with heap := h2', toks := t2 } ι env _ C KO R2 (F2.in_comp hρ hsub) hla fun H1 hp h3' t3 ι3 R3 X3 => ?_
    have O2 := O1.ext X2
    have X3' : ExtS env ι h2' ι3 h3' := X3.of_no
    exact ih H1 hp { s with heap := h3', toks := t3 } ι3 R3 ⟨_, F2.ext X3, sub_set hρ hsub⟩ (X02.trans X3) (X3.get hla) ((IT1.ext O1 X2).ext O2.1 X3') (O2.1.ext X3').1 hQ

theorem XCl_inv {d n : Nat} {ρ : AE} {elt : ME} {x : String} {cond : ME} {acc a i : Nat} {H : AH} {Q : KE} (h : XCl d ρ elt x cond acc a (n + 1) i H Q) : ∃ vs, H[a]? = some (.list vs) ∧ ((vs[i]? = Option.none ∧ Q (.ref acc) H) ∨ ∃ v, vs[i]? = some v ∧ XCt d ((x, v) :: ρ) elt cond acc H fun H => XCl d ρ elt x cond acc a n (i + 1) H Q) := by
  unfold XCl clL at h
  split at h
  · rename_i vs hH
    split at h
    · rename_i hv; exact ⟨vs, hH, .inl ⟨hv, h⟩⟩
    · rename_i v hv; exact ⟨vs, hH, .inr ⟨v, hv, h⟩⟩
  · exact h.elim

theorem snd_cl {d : Nat} {elt cond : ME} (E1 : SE prog w cl base d elt) (T1 : ST prog w cl base d cond) {ρ : AE} {x : String} {acc a : Nat} {P : KE} (hρ : ρ.lookup x = none) {sc : Scope} {elt' : Expr} {ifs : List Expr} {px : Pos} {src' : Expr} {pos : Pos} {it la l : Addr} (hr : RE sc elt elt') (hi : RI sc cond ifs) (hx : sc.names.lookup (Str.ofString x) = some .local)
    {A : Around} {R : Result → Shared → Prop} {env : Env} {ι₀ : List Addr} {h₀ : Heap} (C : Cx A d) (KO : KindOk env sc) (hn : h₀.get? it = none) (hL : h₀.get? env.locals = none) : ∀ n i H, XCl d ρ elt x cond acc a n i H P → ∀ s ι, Rel cl base ι H s.heap → (∃ ρ₁, FrR base env ρ₁ ι s.heap ∧ ∀ y v, ρ.lookup y = some v → ρ₁.lookup y = some v) →
    Ext no ι₀ h₀ ι s.heap → ι[acc]? = some la → ι[a]? = some l → s.heap.IsListIter it l i → Off base env ι s.heap it → (∀ H', P (.ref acc) H' → AftM cl base env ι₀ h₀ s ρ H' acc la R) →
    codeAny (model prog w) A (.compLoop (.ListComp elt' [⟨.Name (Str.ofString x) px, src', ifs, 0⟩] sc pos) 0 (.ref it) (.ref la) env) R s := by
  intro n
  induction n with
  | zero => exact fun i H he => he.elim
  | succ n ih =>
    intro i H he s ι Re ⟨ρ₁, F, hsub⟩ X0 hla hl IT O hQ
    obtain ⟨vs, hH, he⟩ := XCl_inv he
    obtain ⟨cvs, nn, ho, hvs⟩ := Re.list hl hH
    rcases he with ⟨hv, he⟩ | ⟨v, hv, he⟩
    · refine comp_turn (wpAny_pyNext_list_end C.handled IT (isList_of ho) (by
        have := List.getElem?_eq_none_iff.mp hv
        simp [hvs.1]; lia) fun h' hs => ?_)
      obtain ⟨R', F', _⟩ := it_turn Re F O hs
      exact hQ _ he h' s.toks ι ρ₁ hla R' (X0.anch hn hs) F' hsub
    · have hk : env.kindOf (Str.ofString x) = some .local := KO _ _ hx (by decide)
      obtain ⟨cv, hc, hvv⟩ := hvs.at hv
      refine comp_turn (wpAny_pyNext_list_item IT (isList_of ho) (x := cv) (by simpa using hc) fun h1' IT1 hs => ?_)
      obtain ⟨R1, F1, mono⟩ := it_turn Re F O hs.extBut
      have O1 : Off base env ι h1' it := ⟨O.ni, O.nl, O.nb, listIter_imm IT1⟩
      dsimp only
      refine store_local (s := { s with heap := h1' }) R1 F1 hk (mono _ _ hvv) fun h2' t2 R2 hs2 X2 F2 => ?_
      have X02 := (X0.anch hn hs.extBut).anch hL hs2.extBut
      have O2 := O1.ext X2
      have IT2 : h2'.IsListIter it l (i + 1) := by obtain ⟨o, e, r⟩ := IT1; exact ⟨o, O2.2 o e, r⟩
      refine snd_ct E1 T1 _ acc H _ he sc elt' ifs la hr hi A _ { s with heap := h2', toks := t2 } ι env _ C KO R2 (F2.in_comp hρ hsub) hla fun H1 hp h3' t3 ι3 R3 X3 => ?_
      have O3 := O2.1.ext (X3.of_no (own := ownF env))
      exact ih (i + 1) H1 hp { s with heap := h3', toks := t3 } ι3 R3 ⟨_, F2.ext X3, sub_set hρ hsub⟩ (X02.trans X3) (X3.get hla) (X3.get hl)
        (by obtain ⟨o, e, r⟩ := IT2; exact ⟨o, O3.2 o e, r⟩) O3.1 hQ
end
end Mine
end
section
open PySem PySem.W PySem.Calls PyProof.Rows PySem.SeqAt
set_option maxRecDepth 100000
namespace Mine

noncomputable def clos (env : Env) (names : List (Str × NameKind)) : List (Str × Addr) := ((names.filter fun y => y.2 == .free).map fun y => (y.1, (env.cells.lookup y.1).getD 0)).reverse

noncomputable def closStep (env : Env) (x : Str × NameKind) (cs : List (Str × Addr)) : Sem (ForInStep (List (Str × Addr))) :=
  if (x.2 == NameKind.free) = true then do
    let c ← cellOf env x.1
    pure (ForInStep.yield ((x.1, c) :: cs)) else pure (ForInStep.yield cs)
theorem closureFor_of {scope : Scope} {env : Env} (h : ∀ n, (n, NameKind.free) ∈ scope.names → (env.cells.lookup n).isSome = true) : closureFor scope env = pure (clos env scope.names) := by
  have key : ∀ (names : List (Str × NameKind)) (acc : List (Str × Addr)), (∀ n, (n, NameKind.free) ∈ names → (env.cells.lookup n).isSome = true) →
      (forIn names acc (closStep env) : Sem (List (Str × Addr))) = pure (clos env names ++ acc) := by
    intro names
    induction names with
    | nil => intro acc _; rfl
    | cons y r ih =>
      intro acc hy
      obtain ⟨n, k⟩ := y
      rw [List.forIn_cons]
      have ih' := fun acc => ih acc fun m hm => hy m (List.mem_cons_of_mem _ hm)
      by_cases hk : k = .free
      · subst hk
        obtain ⟨c, hc⟩ := Option.isSome_iff_exists.mp (hy n List.mem_cons_self)
        have e : cellOf env n = pure c := by unfold cellOf; rw [hc]
        have e1 : closStep env (n, .free) acc = pure (ForInStep.yield ((n, c) :: acc)) := by
          show (cellOf env n >>= fun c => pure (ForInStep.yield ((n, c) :: acc))) = _
          rw [e]; rfl
        rw [e1]
        have e2 : clos env ((n, .free) :: r) = clos env r ++ [(n, c)] := by
          unfold clos
          rw [List.filter_cons, if_pos (by rfl), List.map_cons, List.reverse_cons, hc]; rfl
        rw [e2, List.append_assoc]
        exact ih' ((n, c) :: acc)
      · have hk' : (k == NameKind.free) = false := by simpa using hk
        have e1 : closStep env (n, k) acc = pure (ForInStep.yield acc) := by
          unfold closStep
          rw [hk']; rfl
        rw [e1]
        have e2 : clos env ((n, k) :: r) = clos env r := by
          unfold clos
          rw [List.filter_cons, if_neg (by rw [hk']; decide)]
        rw [e2]
        exact ih' acc
  have := key scope.names [] h
  rw [List.append_nil] at this
  show ((forIn scope.names [] (closStep env) : Sem (List (Str × Addr))) >>= fun cs => pure cs) = _
  rw [this]
  rfl

theorem clos_mem {env : Env} {names : List (Str × NameKind)} {n : Str} {c : Addr} (h : (n, c) ∈ clos env names) : (n, NameKind.free) ∈ names ∧ c = (env.cells.lookup n).getD 0 := by
  unfold clos at h
  rw [List.mem_reverse] at h
  obtain ⟨y, hy, e⟩ := List.mem_map.mp h
  cases e
  obtain ⟨h1, h2⟩ := List.mem_filter.mp hy
  obtain ⟨a, k⟩ := y
  have : k = .free := by simpa using h2
  subst this
  exact ⟨h1, rfl⟩
theorem clos_lookup {env : Env} {names : List (Str × NameKind)} {n : Str} {c : Addr} (h : (n, NameKind.free) ∈ names) (hc : env.cells.lookup n = some c) : (clos env names).lookup n = some c := by
  have hm : (n, c) ∈ clos env names := by
    unfold clos
    rw [List.mem_reverse]
    exact List.mem_map.mpr ⟨(n, .free), List.mem_filter.mpr ⟨h, rfl⟩, by rw [hc]; rfl⟩
  cases q : (clos env names).lookup n with
  | none =>
    have := List.lookup_eq_none_iff.mp q (n, c) hm
    simp at this
  | some c' =>
    obtain ⟨_, e⟩ := clos_mem (mem_of_lookup q)
    rw [hc] at e
    rw [e]; rfl

theorem relabel_lookup {env : Env} (names : List (Str × NameKind)) (x : Str) :
    (names.map fun (y : Str × NameKind) => match y with | (n, k) => if (k == NameKind.free && env.scope.kind == .function && env.kindOf n == some .cell) then (n, NameKind.cell) else (n, k)).lookup x =
      (names.lookup x).map fun k => if (k == NameKind.free && env.scope.kind == .function && env.kindOf x == some .cell) then NameKind.cell else k := by
  induction names with
  | nil => rfl
  | cons y r ih =>
    obtain ⟨n, k⟩ := y
    rw [List.map_cons]
    by_cases hx : x = n
    · subst hx
      show List.lookup x ((if (k == NameKind.free && env.scope.kind == .function && env.kindOf x == some .cell) = true then (x, NameKind.cell) else (x, k)) :: _) = _
      rw [show List.lookup x ((x, k) :: r) = some k by simp [List.lookup_cons], Option.map_some]
      by_cases hc : (k == NameKind.free && env.scope.kind == .function && env.kindOf x == some .cell) = true
      · rw [if_pos hc, if_pos hc]; simp [List.lookup_cons]
      · rw [if_neg hc, if_neg hc]; simp [List.lookup_cons]
    · have hx' : (x == n) = false := by simpa using hx
      show List.lookup x ((if (k == NameKind.free && env.scope.kind == .function && env.kindOf n == some .cell) = true then (n, NameKind.cell) else (n, k)) :: _) = _
      by_cases hc : (k == NameKind.free && env.scope.kind == .function && env.kindOf n == some .cell) = true
      · rw [if_pos hc]; simp only [List.lookup_cons, hx']; exact ih
      · rw [if_neg hc]; simp only [List.lookup_cons, hx']; exact ih

theorem lookup_filter {p : String → Bool} : ∀ {ρ : AE} {y : String}, (ρ.filter fun q => p q.1).lookup y = if p y = true then ρ.lookup y else none
  | [], y => by simp
  | (k, v) :: r, y => by
    have ih := @lookup_filter p r y
    rw [List.filter_cons, List.lookup_cons]
    by_cases hy : y = k
    · subst hy
      by_cases hp : p y = true
      · rw [if_pos hp, if_pos hp]; simp [List.lookup_cons]
      · rw [if_neg hp, if_neg hp, ih, if_neg hp]
    · have hy' : (y == k) = false := by simpa using hy
      rw [hy']
      split
      · rw [List.lookup_cons, hy']; exact ih
      · exact ih

theorem range_size (k : Int) (h0 : 0 ≤ k) : Builtin.Range.rangeSize 0 k 1 = k := by
  unfold Builtin.Range.rangeSize
  rw [if_pos (by decide)]
  split
  · simp
  · lia
theorem range_small (k : Int) (h0 : 0 ≤ k) (h1 : k ≤ lim) : Builtin.Range.small 0 k 1 = true := by
  have hl : (lim : Int) = 1048576 := rfl
  unfold Builtin.Range.small
  rw [range_size k h0]
  simp [Builtin.Range.rangeFitsLong]
  lia

section
variable {prog : Program} {w : World} {cl : String → Option Addr} {K : Frag} {base : Heap}

/-- the frame of a comprehension -/
theorem comp_frame {sc sc' : Scope} {env : Env} {ρ : AE} {frees : List String} {ι : List Addr} {h h' : Heap} {C : Addr} {Lq : Str} (KO : KindOk env sc) (F : FrR base env ρ ι h) (hk : sc'.kind = .function)
    (hf : ∀ y ∈ frees, sc'.names.lookup (Str.ofString y) = some .free ∧ sc.names.lookup (Str.ofString y) = some .cell)
    (hn : ∀ y ∈ sc'.names, (y.2 = .free ∧ sc.names.lookup y.1 = some .cell) ∨ y.2 = .local ∨ y.2 = .globalImplicit) (hnd : (sc'.names.map (·.1)).Nodup)
    (keep : ∀ b o, h.get? b = some o → h'.get? b = some o) (hC : h.get? C = none) (hb : base.objs.size ≤ C) (hι : C ∉ ι) (hns : ∃ m, h'.Ns C m) (hoff : ∀ n c, (n, c) ∈ env.cells → c ∉ ι) :
    FrR base (compEnvC sc' (clos env sc'.names) C env) (ρ.filter fun p => frees.contains p.1) ι h' ∧ KindOk (compEnvC sc' (clos env sc'.names) C env) sc' ∧ closureFor sc' env = pure (clos env sc'.names) := by
  have fcell : ∀ n, (n, NameKind.free) ∈ sc'.names → env.kindOf n = some .cell ∧ (env.cells.lookup n).isSome = true := fun n hm => by
    rcases hn _ hm with ⟨_, q⟩ | q | q
    · exact ⟨KO _ _ q (by decide), F.have_ _ (KO _ _ q (by decide))⟩
    · cases q
    · cases q
  have kind : ∀ x, (compEnvC sc' (clos env sc'.names) C env).kindOf x = (sc'.names.lookup x).map fun k => if (k == NameKind.free && env.scope.kind == .function && env.kindOf x == some .cell) then NameKind.cell else k := fun x => relabel_lookup sc'.names x
  have memC : ∀ n c, (n, c) ∈ clos env sc'.names → (n, c) ∈ env.cells := fun n c hm => by
    obtain ⟨h1, h2⟩ := clos_mem hm
    obtain ⟨c', hc'⟩ := Option.isSome_iff_exists.mp (fcell n h1).2
    rw [hc'] at h2
    have h2 : c = c' := h2
    subst h2
    exact mem_of_lookup hc'
  obtain ⟨m0, hm0⟩ := hns
  refine ⟨⟨by show (relabel sc' env).kind = _; exact hk, F.glob, F.blt, ⟨m0, hm0, fun x v q => ?_⟩, fun n c hm => ?_, ?_, hι, hb, fun n q => ?_⟩, fun x k q nk => ?_, closureFor_of fun n hm => (fcell n hm).2⟩
  · rw [lookup_filter] at q
    split at q
    · rename_i hc
      obtain ⟨h1, h2⟩ := hf x (by simpa using hc)
      obtain ⟨m, _, hm⟩ := F.ns
      have kc := KO _ _ h2 (by decide)
      rcases hm x v q with ⟨k, _⟩ | ⟨_, c, cv, e1, ⟨o, ho, hd⟩, e2⟩
      · rw [kc] at k; cases k
      · refine .inr ⟨.inl ?_, c, cv, clos_lookup (mem_of_lookup h1) e1, ⟨o, keep _ _ ho, hd⟩, e2.mono (fun b o e _ => keep b o e) fun _ _ e => e⟩
        rw [kind, h1, kc, F.kind]; rfl
    · cases q
  · obtain ⟨⟨v, o, ho, hd⟩, h2, h3, h4⟩ := F.cells n c (memC n c hm)
    exact ⟨⟨v, o, keep _ _ ho, hd⟩, (fun q => by
      have q : c = C := q
      rw [q, hC] at ho; cases ho), h3, h4⟩
  · show (clos env sc'.names).Pairwise _
    have nd : ((clos env sc'.names).map (·.1)).Nodup := by
      unfold clos
      rw [List.map_reverse, List.map_map]
      have h1 : (((sc'.names.filter fun y => y.2 == .free)).map (·.1)).Nodup := List.Nodup.sublist (List.Sublist.map _ List.filter_sublist) hnd
      unfold List.Nodup
      rw [List.pairwise_reverse]
      exact List.Pairwise.imp (fun h => Ne.symm h) h1
    have : (clos env sc'.names).Pairwise fun x y => x.1 ≠ y.1 := List.pairwise_map.mp nd
    refine List.Pairwise.imp_of_mem (fun {x y} hx hy ne e => ne ?_) this
    obtain ⟨a, b⟩ := x
    obtain ⟨a', b'⟩ := y
    dsimp only at e
    subst e
    exact name_of_addr F.apart (memC _ _ hx) (memC _ _ hy)
  · rw [kind] at q
    cases e : sc'.names.lookup n with
    | none => rw [e] at q; cases q
    | some k =>
      rw [e] at q
      have hm := mem_of_lookup e
      rcases hn _ hm with ⟨h1, h2⟩ | h1 | h1
      · dsimp only at h1
        subst h1
        obtain ⟨c, hc⟩ := Option.isSome_iff_exists.mp (fcell n hm).2
        show ((clos env sc'.names).lookup n).isSome = true
        rw [clos_lookup hm hc]; rfl
      · dsimp only at h1; subst h1; cases q
      · dsimp only at h1; subst h1; cases q
  · rw [kind, q]
    have : (k == NameKind.free) = false := by simpa using nk
    show some (if _ then _ else _) = _
    rw [this]; rfl

theorem comp_core {sc sc' : Scope} {env : Env} {ρ : AE} {ι : List Addr} {H : AH} {P : KE} {s : Shared} {A : Around} {E : Value → Shared → Prop} {d : Nat} {elt : ME} {x : String} {src cond : ME} {frees : List String} {elt' : Expr} {px : Pos} {src' : Expr} {ifs : List Expr} {pos : Pos} {RR : Value → Addr → Result → Shared → Prop}
    (E1 : SE prog w cl base d src) (E2 : SE prog w cl base d elt) (T1 : ST prog w cl base d cond) (he : wE d (.comp elt x src cond frees) ρ H P) (C : Cx A d) (KO : KindOk env sc) (R : Rel cl base ι H s.heap) (F : FrR base env ρ ι s.heap)
    (hsrc : RE sc src src') (helt : RE sc' elt elt') (hc : RI sc' cond ifs)
    (hk : sc'.kind = .function) (hx : sc'.names.lookup (Str.ofString x) = some .local) (hf : ∀ y ∈ frees, sc'.names.lookup (Str.ofString y) = some .free ∧ sc.names.lookup (Str.ofString y) = some .cell)
    (hn : ∀ y ∈ sc'.names, (y.2 = .free ∧ sc.names.lookup y.1 = some .cell) ∨ y.2 = .local ∨ y.2 = .globalImplicit) (hnd : (sc'.names.map (·.1)).Nodup) (hxf : x ∉ frees)
    (hRR : ∀ v H', P v H' → ∀ cv Cx' h' t' ι', Rel cl base ι' H' h' → Ext no ι s.heap ι' h' → VR base h' ι' cv v → (∃ m, h'.Ns Cx' m) → Off base env ι' h' Cx' → s.heap.get? Cx' = none → RR cv Cx' (.ok .next) { s with heap := h', toks := t' }) :
    wpAny (model prog w) A (eval src' env) (fun x' s₁ => wpAny (model prog w) A (pyIter x') (fun it s₂ => wpAny (model prog w) A (newList []) (fun acc s₃ =>
      wpAny (model prog w) A (newFunctionEnv sc' env.globals (clos env sc'.names) [] env.qual none .none (some env)) (fun cenv s₄ =>
        codeAny (model prog w) A (.compStart (.ListComp elt' [⟨.Name (Str.ofString x) px, src', ifs, 0⟩] sc' pos) 0 it acc { cenv with scope := relabel sc' env }) (RR acc cenv.locals) s₄) E s₃) E s₂) E s₁) E s := by
  rw [wE_comp] at he
  · refine E1 ρ H _ he sc src' hsrc A E s ι env _ C KO R F fun vs H1 hp cx h1' t1 ι1 R1 X1 hvs => ?_
    have F1 := F.ext X1
    -- all from the iterator on
    have rest : ∀ (io : Obj) (hio : imm io = false) (hfr : io.isFreed = false),
        (∀ (h₄ : Heap) (A' : Around) (E' : Value → Shared → Prop) (t : Nat) (Q' : Value → Shared → Prop), h₄.get? h1'.objs.size = some io → Q' (.ref h1'.objs.size) { s with heap := h₄, toks := t } → wpAny (model prog w) A' (pyIter (.ref h1'.objs.size)) Q' E' { s with heap := h₄, toks := t }) →
        (∀ (h₄ : Heap) (cenv : Env) (R' : Result → Shared → Prop) (t : Nat) (ι4 : List Addr), ι4 = ι1 ++ [h1'.objs.size + 1] → Rel cl base ι4 (H1 ++ [.list []]) h₄ → FrR base cenv (ρ.filter fun p => frees.contains p.1) ι4 h₄ → KindOk cenv sc' → Ext no ι1 h1' ι4 h₄ → h₄.get? h1'.objs.size = some io →
          cenv.locals = h1'.objs.size + 2 → (∀ b, ownF cenv b → b ≠ h1'.objs.size) → (∀ H', P (.ref H1.length) H' → AftM cl base cenv ι1 h1' { s with heap := h₄, toks := t } (ρ.filter fun p => frees.contains p.1) H' H1.length (h1'.objs.size + 1) R') →
          codeAny (model prog w) A (.compLoop (.ListComp elt' [⟨.Name (Str.ofString x) px, src', ifs, 0⟩] sc' pos) 0 (.ref h1'.objs.size) (.ref (h1'.objs.size + 1)) cenv) R' { s with heap := h₄, toks := t }) →
        wpAny (model prog w) A (newList []) (fun acc s₃ => wpAny (model prog w) A (newFunctionEnv sc' env.globals (clos env sc'.names) [] env.qual none .none (some env)) (fun cenv s₄ =>
          codeAny (model prog w) A (.compStart (.ListComp elt' [⟨.Name (Str.ofString x) px, src', ifs, 0⟩] sc' pos) 0 (.ref h1'.objs.size) acc { cenv with scope := relabel sc' env }) (RR acc cenv.locals) s₄) E s₃) E { s with heap := h1'.push io, toks := t1 } := by
      intro io hio hfr hpy hloop
      have at0 : (h1'.push io).get? h1'.objs.size = some io := Heap.get?_push_size _ hfr
      have R2 := R1.push io
      have X2 : Ext no ι1 h1' ι1 (h1'.push io) := Ext.push _
      refine wpAny_newObj_type ?_
      obtain ⟨R3, X3⟩ := R2.allocList (xs := []) (cvs := []) .nil
      have e1 : (h1'.push io).objs.size = h1'.objs.size + 1 := Heap.size_push ..
      rw [e1] at R3 X3
      show wpAny _ _ _ _ _ { s with heap := (h1'.push io).push { cls := .type "list", data := .seq ([] : List Value).toArray }, toks := t1 }
      generalize hH3 : (h1'.push io).push { cls := .type "list", data := .seq ([] : List Value).toArray } = h3 at R3 X3
      have e3 : h3.objs.size = h1'.objs.size + 2 := by rw [← hH3, Heap.size_push, e1]
      have at3 : h3.get? h1'.objs.size = some io := by rw [← hH3]; exact Heap.get?_push_of_some _ at0
      refine wpAny_newFunctionEnv (fun y hy q => ?_) (fun y hy => by cases hy) (fun h4 hns hsb => ?_) hk
      · rcases hn y hy with ⟨e, _⟩ | e | e <;> rw [q] at e <;> cases e
      · dsimp only at hns hsb ⊢
        have k34 : ∀ b o, h3.get? b = some o → h4.get? b = some o := fun b o e => by
          rw [hsb.2 b (Nat.ne_of_lt (Heap.lt_size e))]; exact Heap.get?_push_of_some _ e
        have R4 := R3.of_keep k34
        have X4 : Ext no (ι1 ++ [h1'.objs.size + 1]) h3 (ι1 ++ [h1'.objs.size + 1]) h4 := Ext.of_keep k34
        have X14 : Ext no ι1 h1' (ι1 ++ [h1'.objs.size + 1]) h4 := X2.trans (X3.trans X4)
        have F3 : FrR base env ρ (ι1 ++ [h1'.objs.size + 1]) h3 := (F1.ext X2).ext X3
        have hC : h3.get? h3.objs.size = none := none_of_big (Nat.le_refl _)
        obtain ⟨F4, KO4, _⟩ := comp_frame (Lq := "") KO F3 hk hf hn hnd k34 hC R3.size R3.offSize ⟨_, hns⟩ (fun n c hm => (F3.cells n c hm).2.2.1)
        have main : codeAny (model prog w) A (.compLoop (.ListComp elt' [⟨.Name (Str.ofString x) px, src', ifs, 0⟩] sc' pos) 0 (.ref h1'.objs.size) (.ref (h1'.objs.size + 1)) (compEnvC sc' (clos env sc'.names) h3.objs.size env)) (RR (.ref (h1'.objs.size + 1)) h3.objs.size) { s with heap := h4, toks := t1 } := by
          refine hloop h4 (compEnvC sc' (clos env sc'.names) h3.objs.size env) _ t1 _ rfl R4 F4 KO4 X14 (k34 _ _ at3) e3 (fun b q e => ?_) fun H' hp2 h' t' ι' ρ' hla R' X' F' _ => ?_
          · subst e
            rcases q with q | ⟨nm, q⟩
            · have q : h1'.objs.size = h3.objs.size := q
              lia
            · have q2 := F4.cells nm _ q
              obtain ⟨⟨u, o, ho, hd⟩, _⟩ := F1.cells nm h1'.objs.size (by
                obtain ⟨z1, z2⟩ := clos_mem q
                rcases hn _ z1 with ⟨_, z3⟩ | z3 | z3
                · obtain ⟨c', hc'⟩ := Option.isSome_iff_exists.mp (F.have_ _ (KO _ _ z3 (by decide)))
                  rw [hc'] at z2
                  have z2 : h1'.objs.size = c' := z2
                  rw [z2]; exact mem_of_lookup hc'
                · cases z3
                · cases z3)
              exact Nat.lt_irrefl _ (Heap.lt_size ho)
          · have X0' := X1.trans X'
            have hCs : s.heap.get? h3.objs.size = none := by
              cases q : s.heap.get? h3.objs.size with
              | none => rfl
              | some o =>
                obtain ⟨o', e'⟩ := X1.there _ _ q
                have z : (h3.objs.size : Nat) < h1'.objs.size := Heap.lt_size e'
                rw [e3] at z
                exact absurd z (by lia)
            refine hRR _ _ hp2 (.ref (h1'.objs.size + 1)) h3.objs.size h' t' ι' R' X0' (.ref hla) ?_ ⟨F'.offL, fun q => ?_, F'.newL, ?_⟩ hCs
            · obtain ⟨m, hm, _⟩ := F'.ns; exact ⟨m, hm⟩
            · rcases q with q | ⟨nm, q⟩
              · obtain ⟨o, ho⟩ := F.live
                rw [q, ho] at hCs; cases hCs
              · obtain ⟨⟨u, o, ho, hd⟩, _⟩ := F.cells nm _ q
                rw [ho] at hCs; cases hCs
            · obtain ⟨m, ⟨o, es, ep, ho, hd, _⟩, _⟩ := F'.ns
              exact ⟨o, ho, by unfold imm; rw [hd]⟩
        show codeAny (model prog w) A (.compStart _ 0 (.ref h1'.objs.size) (.ref (h1'.push io).objs.size) (compEnvC sc' (clos env sc'.names) h3.objs.size env)) (RR (.ref (h1'.push io).objs.size) h3.objs.size) { s with heap := h4, toks := t1 }
        rw [e1]
        exact codeAny_compStart_list main (hpy h4 _ _ t1 _ (k34 _ _ at3) main)
    have hnone : h1'.get? h1'.objs.size = none := none_of_big (Nat.le_refl _)
    have hnone2 : h1'.get? (h1'.objs.size + 2) = none := none_of_big (by lia)
    have hacc : (ι1 ++ [h1'.objs.size + 1])[H1.length]? = some (h1'.objs.size + 1) := by rw [← R1.len]; simp
    have hit : h1'.objs.size ∉ ι1 ++ [h1'.objs.size + 1] := fun q => by
      rcases List.mem_append.mp q with q | q
      · exact R1.offSize q
      · have : h1'.objs.size = h1'.objs.size + 1 := List.mem_singleton.mp q
        lia
    have hρx : (ρ.filter fun p => frees.contains p.1).lookup x = none := by
      rw [lookup_filter, if_neg (by simpa using hxf)]
    cases vs with
    | rng k =>
      obtain ⟨hk0, hk1, hp⟩ := hp
      obtain ⟨a, t, u, v', rfl, ho⟩ := hvs.i_rng
      · skip
        refine wpAny_pyIter_range ho (range_small k hk0 hk1) ?_
        rw [range_size k hk0]
        refine rest _ rfl rfl (fun h₄ A' E' t Q' e q => wpAny_pyIter_rangeiter (x := 0) (left := k) (step := 1) e q) (fun h₄ cenv R' t ι4 e4 R4 F4 KO4 X4 at4 hL hown hA => ?_)
        subst e4
        obtain ⟨kn, rfl⟩ := Int.eq_ofNat_of_zero_le hk0
        have IT : ItV base h₄ (ι1 ++ [h1'.objs.size + 1]) h1'.objs.size ((List.range kn).map fun (j : Nat) => AV.int (0 + j)) := .rng at4
        have e5 : ((List.range kn).map fun (j : Nat) => AV.int (0 + j)) = (List.range ((kn : Nat) : Int).toNat).map fun (j : Nat) => AV.int j := by simp
        rw [e5] at IT
        exact snd_cv E2 T1 hρx helt hc hx C KO4 hnone (by rw [hL]; exact hnone2) _ _ hp { s with heap := h₄, toks := t } _ R4 ⟨_, F4, fun _ _ q => q⟩ X4 hacc IT
          ⟨hit, fun q => hown _ q rfl, R1.size, _, at4, rfl⟩ hA
    | ref a =>
      obtain ⟨n, hp⟩ := hp
      obtain ⟨l, rfl, hi⟩ := hvs.i_ref
      · skip
        have hz : ∃ vs, H1[a]? = some (.list vs) := by
          cases n with
          | zero => exact False.elim hp
          | succ n =>
            obtain ⟨vs, hH, _⟩ := XCl_inv hp
            have hlt : a < H1.length := by rw [← R1.len]; exact (List.getElem?_eq_some_iff.mp hi).1
            rw [List.getElem?_append_left hlt] at hH
            exact ⟨vs, hH⟩
        obtain ⟨vs, hH⟩ := hz
        obtain ⟨cvs, nn, ho, hvv⟩ := R1.list hi hH
        refine wpAny_pyIter_list (isList_of ho) ?_
        refine rest _ rfl rfl (fun h₄ A' E' t Q' e q => wpAny_pyIter_listiter (l := l) (i := 0) ⟨_, e, rfl, rfl⟩ q) (fun h₄ cenv R' t ι4 e4 R4 F4 KO4 X4 at4 hL hown hA => ?_)
        subst e4
        exact snd_cl E2 T1 hρx helt hc hx C KO4 hnone (by rw [hL]; exact hnone2) n 0 _ hp { s with heap := h₄, toks := t } _ R4 ⟨_, F4, fun _ _ q => q⟩ X4 hacc (X4.get hi)
          ⟨_, at4, rfl, rfl⟩ ⟨hit, fun q => hown _ q rfl, R1.size, _, at4, rfl⟩ hA
    | _ => exact False.elim hp
end
end Mine
end
section
open PySem PySem.W PySem.Calls PyProof.Rows PySem.SeqAt
set_option maxRecDepth 100000
namespace Mine

theorem RE.noSet {sc : Scope} {m : ME} {e : Expr} {env : Env} (h : RE sc m e) (x : Value) : foldedSetIterable e env x = pure x := by cases h <;> rfl
theorem lookup_nodup {α : Type} : ∀ {l : List (Str × α)} {n : Str} {k : α}, (l.map (·.1)).Nodup → (n, k) ∈ l → l.lookup n = some k
  | [], _, _, _, h => by cases h
  | (a, b) :: r, n, k, nd, h => by
    rw [List.map_cons, List.nodup_cons] at nd
    rcases List.mem_cons.mp h with e | e
    · cases e; simp [List.lookup_cons]
    · have : n ≠ a := fun q => nd.1 (q ▸ List.mem_map_of_mem (f := (·.1)) e)
      have q : (n == a) = false := by simpa using this
      rw [List.lookup_cons, q]
      exact lookup_nodup nd.2 e

section
variable {prog : Program} {w : World} {cl : String → Option Addr} {K : Frag} {base : Heap}

theorem comp_clos {sc sc' : Scope} {env : Env} {ρ : AE} {ι : List Addr} {h : Heap} (KO : KindOk env sc) (F : FrR base env ρ ι h)
    (hn : ∀ y ∈ sc'.names, (y.2 = .free ∧ sc.names.lookup y.1 = some .cell) ∨ y.2 = .local ∨ y.2 = .globalImplicit) : closureFor sc' env = pure (clos env sc'.names) :=
  closureFor_of fun n hm => by
    rcases hn _ hm with ⟨_, q⟩ | q | q
    · exact F.have_ _ (KO _ _ q (by decide))
    · cases q
    · cases q

theorem snd_comp {d : Nat} {elt : ME} {x : String} {src cond : ME} {frees : List String} (E1 : SE prog w cl base d src) (E2 : SE prog w cl base d elt) (T1 : ST prog w cl base d cond) : SE prog w cl base d (.comp elt x src cond frees) := by
  intro ρ H P he sc e hr A E s ι env Q C KO R F hQ
  cases hr with
  | @comp _ sc' _ _ _ _ _ elt' px src' ifs pos hsrc helt hc hk hx hf hn hnd hxf =>
    rw [eval_ListComp]
    refine wpAny_comprehension_free (use := none) (Q := Q) rfl hsrc.noSet (comp_clos KO F hn) hk (fun y hy hl => lookup_nodup hnd (by obtain ⟨a, b⟩ := y; dsimp only at hl; subst hl; exact hy)) ?_
    refine comp_core (RR := fun acc C => compPost (model prog w) A E none Q acc C) E1 E2 T1 he C KO R F hsrc helt hc hk hx hf hn hnd hxf fun v H' hp cv C' h' t' ι' R' X' hv hns O hno => ?_
    obtain ⟨m, hm⟩ := hns
    refine ⟨m, hm, fun h'' hs => ?_⟩
    obtain ⟨R'', _, mono⟩ := it_turn R' (F.ext X') O hs.extBut
    exact hQ v H' hp cv h'' t' ι' R'' (X'.anch hno hs.extBut) (mono _ _ hv)

theorem snd_e {d n : Nat} (W : Wd cl K base) (I : Snd prog w cl K base d n) {m : ME} (hz : zE m < n + 1) : SE prog w cl base d m := by
  cases m with
  | call f a => exact snd_call W I hz
  | meth o f a => exact snd_meth W I hz
  | comp a b c d' e => exact snd_comp (I.e _ (by unfold zE at hz; lia)) (I.e _ (by unfold zE at hz; lia)) (I.t _ (by unfold zE at hz; lia))
  | _ => exact snd_e1 W I hz (fun _ _ q => by cases q) (fun _ _ _ q => by cases q) (fun _ _ _ _ _ q => by cases q)

theorem RN.each : ∀ {xs : List String} {ts : List Expr} {env : Env}, RN xs ts → (assignEach ts env).length = xs.length ∧ (assignEach ts env).findIdx? (·.1) = none
  | _, _, _, .nil => ⟨rfl, rfl⟩
  | _, _, env, .cons (p := p) (l := l) t => by
    obtain ⟨h1, h2⟩ := RN.each (env := env) t
    refine ⟨by show (assignEach l env).length + 1 = _; rw [h1]; rfl, ?_⟩
    show List.findIdx? _ ((false, assign _ env) :: assignEach l env) = none
    rw [List.findIdx?_cons, h2]; rfl

theorem assign_names {A : Around} {E : Value → Shared → Prop} {sc : Scope} {env : Env} {ι : List Addr} {H : AH} (KO : KindOk env sc) : ∀ {xs : List String} {ts : List Expr} {vs : List AV} {cvs : List Value} {ρ : AE} {s : Shared} {Q : Unit → Shared → Prop}, RN xs ts → vs.length = xs.length → (∀ x ∈ xs, storeOk sc x) → Rel cl base ι H s.heap → FrR base env ρ ι s.heap → VRs base s.heap ι cvs vs →
    (∀ h' t', Rel cl base ι H h' → ExtS env ι s.heap ι h' → FrR base env ((xs.zip vs).reverse ++ ρ) ι h' → Q () { s with heap := h', toks := t' }) → wpAny (model prog w) A (assignInOrder ((assignEach ts env).map (·.2)) cvs) Q E s
  | _, _, vs, cvs, ρ, s, Q, .nil, hl, _, R, F, hv, hQ => by
    cases vs with
    | cons _ _ => cases hl
    | nil =>
      cases hv.nil_inv
      exact wpAny_assignInOrder_none (hQ s.heap s.toks R .refl F)
  | _, _, vs, cvs, ρ, s, Q, .cons (x := x) (xs := xs) (p := p) (l := l) t, hl, hx, R, F, hv, hQ => by
    cases vs with
    | nil => cases hl
    | cons v vs =>
      obtain ⟨cv, r, rfl, h1, h2⟩ := hv.cons_inv
      show wpAny (model prog w) A (assignInOrder (assign (.Name (Str.ofString x) p) env :: (assignEach l env).map (·.2)) (cv :: r)) Q E s
      refine wpAny_assignInOrder_more (wpAny_assign_Name (store_var R F ((hx x List.mem_cons_self).kind KO) h1 fun h' t' R' X' F' => ?_))
      refine assign_names (s := { s with heap := h', toks := t' }) KO t (by simpa using hl) (fun y hy => hx y (List.mem_cons_of_mem _ hy)) R' F' (VRs.ext h2 X') fun h'' t'' R'' X'' F'' => hQ h'' t'' R'' (X'.trans X'') ?_
      have e : ((x :: xs).zip (v :: vs)).reverse ++ ρ = (xs.zip vs).reverse ++ setE x v ρ := by
        show ((x, v) :: xs.zip vs).reverse ++ ρ = _
        rw [List.reverse_cons, List.append_assoc]; rfl
      rw [e]; exact F''

theorem snd_x {d n : Nat} (W : Wd cl K base) (Ee : ∀ m, SE prog w cl base d m) (Te : ∀ m, ST prog w cl base d m) (B : ∀ m, zSs m < n → SXs prog w cl base d m) {m : MS} (hz : zS m < n + 1) : SX prog w cl base d m := by
  intro ρ H P0 he sc st hr A E s ι env Q C KO R F hQ
  cases hr with
  | assign h hx hs =>
    rw [wS_assign] at he
    refine wpAny_Assign_Name (Ee _ ρ H _ he sc _ h A E s ι env _ C KO R F fun v H1 hp cv h1' t1 ι1 R1 X1 hv => ?_) (hs _ _ _)
    exact store_var (s := { s with heap := h1', toks := t1 }) R1 (F.ext X1) (hx.kind KO) hv fun h2' t2 R2 X2 F2 => hQ _ _ _ hp _ h2' t2 ι1 R2 (X1.of_no.trans X2) F2 rfl
  | @compAssign _ x m e p pos h hx hs =>
    obtain ⟨ce, cg, cs, cp, rfl, hl, hno⟩ := hs
    rw [wS_assign] at he
    cases h with
    | @comp _ _ elt y src cond frees _ px src' ifs _ hsrc helt hc hk hy hf hn hnd hxf =>
      have hkx := KO _ _ hx (by decide)
      have hsw : swapsWith (.ListComp ce [⟨.Name (Str.ofString y) px, src', ifs, 0⟩] cs cp) (some (.Name (Str.ofString x) p)) pos.line env = pure true := by
        show (pure (env.blockKind == .function && env.kindOf (Str.ofString x) == some .local && p.line == cp.line && !(cs.names.any fun y => y.1 == Str.ofString x && (y.2 == .local || y.2 == .cell))) : Sem Bool) = _
        have hb : env.blockKind = .function := by
          unfold PySem.Env.blockKind
          rw [F.kind]; rfl
        rw [hb, hkx, hl, hno]; rfl
      rw [exec_Assign_Name_used _ _ _ _ hsw]
      refine wpAny_bind (wpAny_standAt (wpAny_bind ?_))
      show wpAny _ A (do let _ ← comprehension (.ListComp ce [⟨.Name (Str.ofString y) px, src', ifs, 0⟩] cs cp) cs env _ (newList []) false (eval src' env) (some (assign (.Name (Str.ofString x) p) env))) _ _ s
      refine wpAny_bind (wpAny_comprehension_free (use := some (assign (.Name (Str.ofString x) p) env)) (Q := fun _ s' => wpAny (model prog w) A (pure ()) (fun _ s'' => wpAny (model prog w) A (pure Flow.next) Q E s'') E s') rfl hsrc.noSet (comp_clos KO F hn) hk (fun y hy hl => lookup_nodup hnd (by obtain ⟨a, b⟩ := y; dsimp only at hl; subst hl; exact hy)) ?_)
      refine comp_core (RR := fun acc C => compPost (model prog w) A E (some (assign (.Name (Str.ofString x) p) env)) (fun _ s' => wpAny (model prog w) A (pure ()) (fun _ s'' => wpAny (model prog w) A (pure Flow.next) Q E s'') E s') acc C) (Ee _) (Ee _) (Te _) he C KO R F hsrc helt hc hk hy hf hn hnd hxf fun v H1 hp cv C' h' t' ι' R' X' hv hns O hno => ?_
      obtain ⟨m, hm⟩ := hns
      refine wpAny_assign_Name (store_local (s := { s with heap := h', toks := t' }) R' (F.ext X') hkx hv fun h2' t2 R2 hs2 X2 F2 => ?_)
      have O2 := (O.ext X2).1
      refine ⟨m, hm.sameBut hs2 (fun q => O.nl (.inl q)), fun h'' hs => ?_⟩
      obtain ⟨R'', F'', _⟩ := it_turn R2 F2 O2 hs.extBut
      exact wpAny_pure (wpAny_pure (hQ _ _ _ hp _ h'' t2 ι' R'' ((X'.of_no.trans X2).anch hno hs.extBut) F'' rfl))
  | @unpack _ xs m e ts k p pos h hx ht hs hsw hz =>
    rw [wS_unpack] at he
    refine Assign_Tuple (Ee _ ρ H _ he sc _ h A E s ι env _ C KO R F fun v H1 hp cv h1' t1 ι1 R1 X1 hv => ?_) (hs (some (.Tuple ts k p)) pos.line env) (hsw _)
    obtain ⟨vs, hvs, hl, hp2⟩ := opt_elim hp
    cases tupOf_inv hvs
    obtain ⟨a, cvs, nn, rfl, ho, hlen, hvv⟩ := hv.i_tup
    · skip
      have T : h1'.IsTuple a cvs.toArray := isTup_of ho
      have he := ht.each (env := env)
      refine wpAny_assign_Tuple (s := { s with heap := h1', toks := t1 }) C.handled T (by rw [he.1, List.size_toArray, hlen, hl]) he.2 fun h2' hs2 => ?_
      have k12 : ∀ b o, h1'.get? b = some o → h2'.get? b = some o := fun b o e => hs2 b o (fun q => by rw [q, none_of_big (Nat.le_refl _)] at e; cases e) e
      have R2 := R1.of_keep k12
      have X2 : Ext no ι1 h1' ι1 h2' := Ext.of_keep k12
      refine assign_names (s := { s with heap := h2', toks := t1 }) KO ht hl hx R2 ((F.ext X1).ext X2) ⟨hlen, fun j cv v a b => (hvv j cv v a b).ext X2⟩ fun h3' t3 R3 X3 F3 => ?_
      exact hQ _ _ _ hp2 _ h3' t3 ι1 R3 ((X1.trans X2).of_no.trans X3) F3 rfl
  | @setattr _ o f m eo e p pos ho h hs =>
    rw [wS_setattr] at he
    refine plainObj_wpAny_Assign_Attribute (Ee _ ρ H _ he sc _ h A E s ι env _ C KO R F fun v H1 hp cv h1' t1 ι1 R1 X1 hv => ?_) (hs _ _ _)
    refine Ee _ ρ H1 _ hp sc _ ho A E _ ι1 env _ C KO R1 (F.ext X1) fun u H2 hp2 co h2' t2 ι2 R2 X2 hv2 => ?_
    obtain ⟨H3, h3, hp3⟩ := opt_elim hp2
    obtain ⟨i, c, di, fs, rfl, e1, e2, hc1, hc2, rfl⟩ := setattrA_inv h3
    obtain ⟨a, rfl, hi⟩ := hv2.i_ref
    · skip
      exact set_attr (s := { s with heap := h2', toks := t2 }) W R2 hi e1 e2 hc2 hc1 (hv.ext X2) fun h3' t3 R3 X3 => hQ _ _ _ hp3 _ h3' t3 ι2 R3 (X1.trans (X2.trans X3)).of_no (F.ext (X1.trans (X2.trans X3))) rfl
  | setsub ho hi h hs =>
    rw [wS_setsub] at he
    refine wpAny_Assign_Subscript (Ee _ ρ H _ he sc _ h A E s ι env _ C KO R F fun v H1 hp cv h1' t1 ι1 R1 X1 hv => ?_) (hs _ _ _)
    refine Ee _ ρ H1 _ hp sc _ ho A E _ ι1 env _ C KO R1 (F.ext X1) fun o2 H2 hp2 co h2' t2 ι2 R2 X2 hv2 => ?_
    refine Ee _ ρ H2 _ hp2 sc _ hi A E _ ι2 env _ C KO R2 ((F.ext X1).ext X2) fun i3 H3 hp3 ci h3' t3 ι3 R3 X3 hv3 => ?_
    obtain ⟨H4, h4, hp4⟩ := opt_elim hp3
    exact set_item (s := { s with heap := h3', toks := t3 }) R3 h4 (hv2.ext X3) hv3 ((hv.ext X2).ext X3) fun h4' t4 R4 X4 => hQ _ _ _ hp4 _ h4' t4 ι3 R4 (X1.trans (X2.trans (X3.trans X4))).of_no (F.ext (X1.trans (X2.trans (X3.trans X4)))) rfl
  | @aug _ x op m e p pos h hx =>
    rw [wS_aug] at he
    obtain ⟨rfl, he⟩ := he
    obtain ⟨a, ha, he⟩ := opt_elim he
    obtain ⟨i, hi, he⟩ := opt_elim he
    cases intOf_inv hi
    refine wpAny_AugAssign_Name (load_var F ha fun cv hv => ?_)
    refine Ee _ ρ H _ he sc _ h A E s ι env _ C KO R F fun b H1 hp co h1' t1 ι1 R1 X1 hv2 => ?_
    obtain ⟨j, hj, hp2⟩ := opt_elim hp
    cases intOf_inv hj
    obtain ⟨t, rfl⟩ := hv.i_int
    · cases hv2 with
      | int _ u =>
        refine P.isub_int ?_
        exact store_var (s := { s with heap := h1', toks := t1 + 1 }) R1 (F.ext X1) (hx.kind KO) (.int _ _) fun h2' t2 R2 X2 F2 => hQ _ _ _ hp2 _ h2' t2 ι1 R2 (X1.of_no.trans X2) F2 rfl
  | expr h hs =>
    rw [wS_expr] at he
    have hi : interactive env = false := by unfold interactive; rw [F.kind]; rfl
    refine wpAny_Expr (Ee _ ρ H _ he sc _ h A E s ι env _ C KO R F fun v H1 hp cv h1' t1 ι1 R1 X1 hv => ?_) hi (hs _ _ _)
    obtain ⟨hv0, hp⟩ := hp
    rcases hv0 with rfl | ⟨i, rfl⟩
    · cases hv
      exact hQ _ _ _ hp _ h1' t1 ι1 R1 X1.of_no (F.ext X1) rfl
    · cases hv
      exact hQ _ _ _ hp _ h1' t1 ι1 R1 X1.of_no (F.ext X1) rfl
  | ret h =>
    rw [wS_ret] at he
    exact wpAny_Return_some (Ee _ ρ H _ he sc _ h A E s ι env _ C KO R F fun v H1 hp cv h1' t1 ι1 R1 X1 hv => hQ _ _ _ hp _ h1' t1 ι1 R1 X1.of_no (F.ext X1) ⟨cv, rfl, hv⟩)
  | retNone =>
    rw [wS_retNone] at he
    exact wpAny_Return_none (hQ _ _ _ he _ s.heap s.toks ι R .refl F ⟨.none, rfl, .none⟩)
  | ifs ht ha hb =>
    rw [wS_ifs] at he
    refine wpAny_If (Te _ ρ H _ he sc _ ht A E s ι env _ C KO R F fun b H1 hp h1' t1 ι1 R1 X1 => ?_)
    cases b with
    | true =>
      rw [if_pos rfl]
      exact B _ (by unfold zS at hz; lia) ρ H1 _ (hp.1 rfl) sc _ ha A E _ ι1 env Q C KO R1 (F.ext X1) fun f ρ' H' hp2 fl h2' t2 ι2 R2 X2 F2 hf => hQ _ _ _ hp2 fl h2' t2 ι2 R2 (X1.of_no.trans X2) F2 hf
    | false =>
      rw [if_neg (by decide)]
      exact B _ (by unfold zS at hz; lia) ρ H1 _ (hp.2 rfl) sc _ hb A E _ ι1 env Q C KO R1 (F.ext X1) fun f ρ' H' hp2 fl h2' t2 ι2 R2 X2 F2 hf => hQ _ _ _ hp2 fl h2' t2 ι2 R2 (X1.of_no.trans X2) F2 hf
  | «while» ht hb =>
    rw [wS_while] at he
    obtain ⟨k, he⟩ := he
    exact wpAny_While (snd_wh (Te _) (B _ (by unfold zS at hz; lia)) ht hb C KO k ρ H _ he s ι R F hQ)
  | @«for» _ x m e b sb p pos h hx hb =>
    rw [wS_for] at he
    have B1 := B b (by unfold zS at hz; lia)
    refine wpAny_For (Ee _ ρ H _ he sc _ h A E s ι env _ C KO R F fun v H1 hp cv h1' t1 ι1 R1 X1 hv => ?_) h.noSet
    have hnone : h1'.get? h1'.objs.size = none := none_of_big (Nat.le_refl _)
    have F1 := F.ext X1
    have off : ∀ {io : Obj}, imm io = false → io.isFreed = false → Off base env ι1 (h1'.push io) h1'.objs.size := fun {io} him hfr => by
      refine ⟨R1.offSize, fun q => ?_, R1.size, io, Heap.get?_push_size _ hfr, him⟩
      rcases q with q | ⟨nm, q⟩
      · obtain ⟨o, ho⟩ := F1.live
        rw [← q, hnone] at ho; cases ho
      · obtain ⟨⟨u, o, ho, _⟩, _⟩ := F1.cells nm _ q
        rw [hnone] at ho; cases ho
    have fin : ∀ {io : Obj}, ∀ f ρ' H', P0 f ρ' H' → AftL cl base env ι1 h1' { s with heap := h1'.push io, toks := t1 } ρ' H' f (fun r s' => match r with | .ok f => Q f s' | .error e => cameBackBy (model prog w) A env E e s') :=
      fun f ρ' H' hp fl h2' t2 ι2 R2 X2 F2 hf => hQ f ρ' H' hp fl h2' t2 ι2 R2 (X1.of_no.trans X2) F2 hf
    cases v with
    | tup vs =>
      obtain ⟨a, cvs, nn, rfl, ho, hlen, hvv⟩ := hv.i_tup
      · skip
        have T : h1'.IsTuple a cvs.toArray := isTup_of ho
        refine wpAny_pyIter_tuple (s := { s with heap := h1', toks := t1 }) T ?_
        have X2 : Ext no ι1 h1' ι1 (h1'.push { cls := .type "tuple_iterator", data := .fields #[.ref a, .int 0 0] }) := Ext.push _
        refine snd_fv B1 hx hb C KO hnone vs ρ H1 P0 hp _ ι1 (R1.push _) (F1.ext X2) X2.of_no (.tup (i := 0) (items := cvs) (n := nn) ⟨_, Heap.get?_push_size _ rfl, rfl, rfl⟩ (Heap.get?_push_of_some _ ho) ?_) (off rfl rfl) fin
        exact VRs.ext ⟨hlen, hvv⟩ X2
    | rng k =>
      obtain ⟨hk0, hk1, hp⟩ := hp
      obtain ⟨a, t, u, v', rfl, ho⟩ := hv.i_rng
      · skip
        refine wpAny_pyIter_range (s := { s with heap := h1', toks := t1 }) ho (range_small k hk0 hk1) ?_
        rw [range_size k hk0]
        have X2 : Ext no ι1 h1' ι1 (h1'.push { cls := .type "range_iterator", data := .fields #[rawInt 0, rawInt k, rawInt 1] }) := Ext.push _
        obtain ⟨kn, rfl⟩ := Int.eq_ofNat_of_zero_le hk0
        have IT : ItV base (h1'.push { cls := .type "range_iterator", data := .fields #[rawInt 0, rawInt ((kn : Nat) : Int), rawInt 1] }) ι1 h1'.objs.size ((List.range kn).map fun (j : Nat) => AV.int (0 + j)) := .rng (Heap.get?_push_size _ rfl)
        have e5 : ((List.range kn).map fun (j : Nat) => AV.int (0 + j)) = (List.range ((kn : Nat) : Int).toNat).map fun (j : Nat) => AV.int j := by simp
        rw [e5] at IT
        exact snd_fv B1 hx hb C KO hnone _ ρ H1 P0 hp _ ι1 (R1.push _) (F1.ext X2) X2.of_no IT (off rfl rfl) fin
    | ref a =>
      obtain ⟨n, hp⟩ := hp
      obtain ⟨l, rfl, hi⟩ := hv.i_ref
      · skip
        have hz : ∃ vs, H1[a]? = some (.list vs) := by
          cases n with
          | zero => exact False.elim hp
          | succ n => obtain ⟨vs, hH, _⟩ := XFl_inv hp; exact ⟨vs, hH⟩
        obtain ⟨vs, hH⟩ := hz
        obtain ⟨cvs, nn, ho, hvv⟩ := R1.list hi hH
        refine wpAny_pyIter_list (s := { s with heap := h1', toks := t1 }) (isList_of ho) ?_
        have X2 : Ext no ι1 h1' ι1 (h1'.push { cls := .type "list_iterator", data := .fields #[.ref l, .int 0 0] }) := Ext.push _
        exact snd_fl B1 hx hb C KO hnone n 0 ρ H1 P0 hp _ ι1 (R1.push _) (F1.ext X2) X2.of_no hi ⟨_, Heap.get?_push_size _ rfl, rfl, rfl⟩ (off rfl rfl) fin
    | _ => exact False.elim hp
  | stuck => exact False.elim he

theorem snd_xs {d n : Nat} (X : ∀ m, zS m < n → SX prog w cl base d m) (B : ∀ m, zSs m < n → SXs prog w cl base d m) {m : MSs} (hz : zSs m < n + 1) : SXs prog w cl base d m := by
  intro ρ H P he sc st hr A E s ι env Q C KO R F hQ
  cases hr with
  | nil => exact wpAny_execs_nil (hQ _ _ _ he _ s.heap s.toks ι R .refl F rfl)
  | @cons _ m ms st l h t =>
    have he : wS d m ρ H (next1 (fun ρ H => wSs d ms ρ H P) P) := he
    refine wpAny_execs_cons (X m (by unfold zSs at hz; lia) ρ H _ he sc _ h A E s ι env _ C KO R F fun f ρ1 H1 hp fl h1' t1 ι1 R1 X1 F1 hf => ?_)
    cases f with
    | next =>
      cases hf
      exact B ms (by unfold zSs at hz; lia) ρ1 H1 P hp sc _ t A E _ ι1 env Q C KO R1 F1 fun f ρ' H' hp2 fl h2' t2 ι2 R2 X2 F2 hf => hQ f ρ' H' hp2 fl h2' t2 ι2 R2 (X1.trans X2) F2 hf
    | ret v =>
      obtain ⟨cv, rfl, hv⟩ := hf
      exact hQ _ _ _ hp _ h1' t1 ι1 R1 X1 F1 ⟨cv, rfl, hv⟩

/-- expressions of every size; statements of every size -/
theorem all_e {d : Nat} (W : Wd cl K base) (c : SC prog w cl K base d) : ∀ n, Snd prog w cl K base d n := by
  intro n
  induction n with
  | zero => exact ⟨fun _ h => absurd h (Nat.not_lt_zero _), fun _ h => absurd h (Nat.not_lt_zero _), fun _ h => absurd h (Nat.not_lt_zero _), fun _ h => absurd h (Nat.not_lt_zero _), fun _ h => absurd h (Nat.not_lt_zero _), fun _ h => absurd h (Nat.not_lt_zero _), c⟩
  | succ n I => exact ⟨fun _ h => snd_e W I h, fun _ h => snd_o (n := n) (snd_e W I h), fun _ h => snd_es I h, fun _ h => snd_t W I h (snd_e W I h), fun _ h => snd_ts I h, fun _ h => snd_b I h, c⟩
theorem all_x {d : Nat} (W : Wd cl K base) (c : SC prog w cl K base d) : ∀ n, (∀ m, zS m < n → SX prog w cl base d m) ∧ (∀ m, zSs m < n → SXs prog w cl base d m) := by
  intro n
  induction n with
  | zero => exact ⟨fun _ h => absurd h (Nat.not_lt_zero _), fun _ h => absurd h (Nat.not_lt_zero _)⟩
  | succ n I => exact ⟨fun _ h => snd_x W (fun m => (all_e W c _).e m (Nat.lt_succ_self _)) (fun m => (all_e W c _).t m (Nat.lt_succ_self _)) I.2 h, fun _ h => snd_xs I.1 I.2 h⟩
theorem all_xs {d : Nat} (W : Wd cl K base) (c : SC prog w cl K base d) (m : MSs) : SXs prog w cl base d m := (all_x W c _).2 m (Nat.lt_succ_self _)
end
end Mine
end
section
open PySem PySem.W PySem.Calls PyProof.Rows PySem.SeqAt
set_option maxRecDepth 100000
namespace Mine

theorem bindL_local {kindOf : Str → Option NameKind} : ∀ {binds : List (Str × Value)} {m : Str → Option Value} {y : Str}, (∀ x ∈ binds, kindOf x.1 = some .local) → bindL kindOf binds m y = match binds.reverse.lookup y with | some v => some v | none => m y
  | [], m, y, _ => rfl
  | (n, v) :: r, m, y, h => by
    unfold bindL
    rw [if_pos (h (n, v) List.mem_cons_self), bindL_local fun x hx => h x (List.mem_cons_of_mem _ hx), List.reverse_cons, List.lookup_append]
    cases q : r.reverse.lookup y with
    | some u => rfl
    | none =>
      dsimp only
      by_cases z : y = n
      · subst z; simp [List.lookup_cons]
      · have z' : (y == n) = false := by simpa using z
        rw [if_neg z, List.lookup_cons, z']; rfl

theorem cellsFrom_keys : ∀ (names : List (Str × NameKind)) (n : Nat) (acc : List (Str × Addr)), (cellsFrom n names acc).map (·.1) = ((names.filter fun y => y.2 == .cell).map (·.1)).reverse ++ acc.map (·.1)
  | [], n, acc => rfl
  | (a, k) :: r, n, acc => by
    unfold cellsFrom
    rw [List.filter_cons]
    by_cases hk : (k == NameKind.cell) = true
    · rw [if_pos hk, if_pos hk, cellsFrom_keys r, List.map_cons, List.map_cons, List.reverse_cons, List.append_assoc]; rfl
    · rw [if_neg hk, if_neg hk, cellsFrom_keys r]
theorem cellsFrom_nodup {names : List (Str × NameKind)} (h : (names.map (·.1)).Nodup) (n : Nat) : ((cellsFrom n names []).map (·.1)).Nodup := by
  rw [cellsFrom_keys, List.map_nil, List.append_nil]
  have h1 : ((names.filter fun y => y.2 == .cell).map (·.1)).Nodup := List.Nodup.sublist (List.Sublist.map _ List.filter_sublist) h
  unfold List.Nodup
  rw [List.pairwise_reverse]
  exact List.Pairwise.imp (fun h => Ne.symm h) h1
theorem cellsFrom_has {names : List (Str × NameKind)} {x : Str} (h : names.lookup x = some .cell) (n : Nat) : ((cellsFrom n names []).lookup x).isSome = true := by
  have hm : x ∈ (cellsFrom n names []).map (·.1) := by
    rw [cellsFrom_keys]
    refine List.mem_append_left _ (List.mem_reverse.mpr (List.mem_map.mpr ⟨(x, .cell), List.mem_filter.mpr ⟨mem_of_lookup h, rfl⟩, rfl⟩))
  cases q : (cellsFrom n names []).lookup x with
  | some _ => rfl
  | none =>
    obtain ⟨y, hy, e⟩ := List.mem_map.mp hm
    have := List.lookup_eq_none_iff.mp q y hy
    rw [e] at this
    simp at this

theorem Ext.drop {own : Addr → Prop} {ι ι' : List Addr} {h₀ h h' : Heap} (X : Ext own ι h ι' h') (k : ∀ b o, h₀.get? b = some o → h.get? b = some o) (hn : ∀ b, own b → h₀.get? b = none) : Ext no ι h₀ ι' h' := by
  refine ⟨X.pre, fun a m => ?_, fun b o e n _ => X.keep b o (k b o e) n fun q => ?_, fun b o e im => X.sub b o (k b o e) im, fun b o e => X.there b o (k b o e)⟩
  · rcases X.fresh a m with q | q
    · exact .inl q
    · right
      cases z : h₀.get? a with
      | none => rfl
      | some o => rw [k a o z] at q; cases q
  · rw [hn b q] at e; cases e

theorem rev_lookup {base h : Heap} {ι : List Addr} : ∀ {ps : List String} {cvs : List Value} {vs : List AV} {accC : List (Str × Value)} {accA : AE}, VRs base h ι cvs vs → (∀ x v, accA.lookup x = some v → ∃ cv, accC.lookup (Str.ofString x) = some cv ∧ VR base h ι cv v) → (∀ x, accA.lookup x = none → accC.lookup (Str.ofString x) = none) →
    (∀ x v, ((ps.zip vs).reverse ++ accA).lookup x = some v → ∃ cv, (((ps.map Str.ofString).zip cvs).reverse ++ accC).lookup (Str.ofString x) = some cv ∧ VR base h ι cv v)
  | [], cvs, vs, accC, accA, _, h1, _ => h1
  | p :: ps, cvs, [], accC, accA, hv, h1, _ => by
    cases hv.nil_inv
    exact h1
  | p :: ps, cvs, v :: vs, accC, accA, hv, h1, h2 => by
    obtain ⟨cv, r, rfl, hc, hr⟩ := hv.cons_inv
    intro x u hx
    rw [List.zip_cons_cons, List.reverse_cons, List.append_assoc] at hx
    rw [List.map_cons, List.zip_cons_cons, List.reverse_cons, List.append_assoc]
    refine rev_lookup (accA := (p, v) :: accA) (accC := (Str.ofString p, cv) :: accC) hr (fun y w hy => ?_) (fun y hy => ?_) x u hx
    · rw [List.lookup_cons] at hy ⊢
      by_cases z : y = p
      · subst z
        simp at hy ⊢
        subst hy
        exact hc
      · have z1 : (y == p) = false := by simpa using z
        have z2 : (Str.ofString y == Str.ofString p) = false := beq_eq_false_iff_ne.mpr fun e => z (ofString_inj e)
        rw [z1] at hy; rw [z2]
        exact h1 y w hy
    · rw [List.lookup_cons] at hy ⊢
      by_cases z : y = p
      · subst z; simp at hy
      · have z1 : (y == p) = false := by simpa using z
        have z2 : (Str.ofString y == Str.ofString p) = false := beq_eq_false_iff_ne.mpr fun e => z (ofString_inj e)
        rw [z1] at hy; rw [z2]
        exact h2 y hy

section
variable {prog : Program} {w : World} {cl : String → Option Addr} {K : Frag} {base : Heap}

theorem snd_c {d : Nat} (W : Wd cl K base) (S1 : ∀ m, SXs prog w cl base d m) : SC prog w cl K base (d + 1) := by
  intro fn args H P he a cvs L A R s ι C Re hv hQ
  · obtain ⟨ρ, hρ, he⟩ := opt_elim he
    obtain ⟨name, qual, params, body, scope, dV, kV, doc, pm, an, cdv, ct, oc, od, osl, ho, hcd, hk, hco, hgen, hbody, hpar, hnd, hpn, hb⟩ := L
    unfold bindA at hρ
    split at hρ
    · rename_i hlen
      cases hρ
      have X := W.X Re
      have hl := hv.1
      obtain ⟨dvals, hd, hB⟩ := hb s cvs X (by rw [hl]; exact hlen.2) (by rw [hl]; exact hlen.1)
      have hdl := (hd base ι).1
      obtain ⟨p, loose, mg, mb, T⟩ := W.top
      have hroom : A.depth < recursionLimit := by have := C.depth; lia
      have hvs : VRs base s.heap ι (cvs ++ dvals.drop (cvs.length + dvals.length - fn.params.length)) (args ++ fn.dflts.drop (args.length + fn.dflts.length - fn.params.length)) := by
        rw [hl, hdl]
        exact hv.append ((hd base ι).drop _)
      generalize hvals : cvs ++ dvals.drop (cvs.length + dvals.length - fn.params.length) = vals at hvs hB
      generalize hargs : args ++ fn.dflts.drop (args.length + fn.dflts.length - fn.params.length) = avals at hvs he
      have hloc : ∀ y ∈ (fn.params.map Str.ofString).zip vals, scope.names.lookup y.1 = some .local := fun y hy => by
        obtain ⟨q, hq, e⟩ := List.mem_map.mp (List.of_mem_zip hy).1
        rw [← e]; exact hpar q hq
      refine codeAny_call_function (fd := fnOf name qual params body scope dV kV doc pm an cdv ct) (body := body) hroom (X _ _ ho) rfl hco hgen rfl (codeRec_of X hcd) (hB _ _ _ _ ?_)
      refine wpAny_newFunctionEnv_cells hk (fun y hy => .inl (hloc y hy)) fun env henv s₁ IC => ?_
      have ⟨h₁, t₁, hs₁⟩ := IC.toInCall.same
      subst hs₁
      have keep : ∀ b o, s.heap.get? b = some o → h₁.get? b = some o := IC.toInCall.keep
      have hL : env.locals = s.heap.objs.size := by rw [henv]; rfl
      have hcells : env.cells = cellsFrom (s.heap.objs.size + 1) scope.names [] := by rw [henv]; rfl
      have hkind : ∀ x, env.kindOf x = scope.names.lookup x := fun x => by rw [henv]; rfl
      have R1 := Re.of_keep keep
      have big : ∀ b, (b = env.locals ∨ ∃ nm, (nm, b) ∈ env.cells) → s.heap.objs.size ≤ b := fun b q => by
        rcases q with q | ⟨nm, q⟩
        · rw [q, hL]; exact Nat.le_refl _
        · have := IC.above nm b q
          rw [hL] at this
          exact Nat.le_of_lt this
      have notI : ∀ b, s.heap.objs.size ≤ b → b ∉ ι := fun b q m => by
        obtain ⟨o, e, _⟩ := Re.live m
        exact absurd (Heap.lt_size e) (Nat.not_lt.mpr q)
      have F1 : FrR base env ((fn.params.zip avals).reverse) ι h₁ := by
        refine ⟨by rw [henv]; exact hk, by rw [henv]; rfl, by rw [henv]; rfl, ⟨_, IC.toInCall.ns, fun x u hx => ?_⟩, fun nm c hm => ⟨⟨_, IC.cell nm c ?_⟩, ?_, notI c (big c (.inr ⟨nm, hm⟩)), Nat.le_trans Re.size (big c (.inr ⟨nm, hm⟩))⟩, IC.apart, notI _ (big _ (.inl rfl)), Nat.le_trans Re.size (big _ (.inl rfl)), fun nm q => ?_⟩
        · have hloc' : ∀ y ∈ (fn.params.map Str.ofString).zip vals, env.kindOf y.1 = some .local := fun y hy => by rw [hkind]; exact hloc y hy
          obtain ⟨cv, e1, e2⟩ := rev_lookup (accC := []) (accA := []) (ps := fn.params) (VRs.ext hvs (Ext.of_keep (own := no) keep)) (fun x v q => by simp at q) (fun _ _ => rfl) x u (by rw [List.append_nil]; exact hx)
          rw [List.append_nil] at e1
          refine .inl ⟨?_, cv, ?_, e2⟩
          · have hm := List.mem_reverse.mp (mem_of_lookup e1)
            exact hloc' _ hm
          · rw [bindL_local hloc', e1]
        · rw [hcells] at hm ⊢
          exact lookup_nodup (cellsFrom_nodup hnd _) hm
        · exact Nat.ne_of_gt (IC.above nm c hm)
        · rw [hcells]
          rw [hkind] at q
          exact cellsFrom_has q _
      refine ⟨(T.nolimit.keeps Re.keep).keeps keep, codeAny_func ?_⟩
      refine S1 fn.body _ H _ he scope body hbody (A.deeper env) _ { s with heap := h₁, toks := t₁ } ι env _ (C.body env) (fun x k q _ => by rw [hkind]; exact q) R1 F1 fun af ρ' H' hp fl h2' t2 ι2 R2 X2 F2 hf => ?_
      have X02 : Ext no ι s.heap ι2 h2' := X2.drop keep fun b q => none_of_big (big b q)
      cases af with
      | next =>
        cases hf
        exact hQ _ _ hp .none h2' t2 ι2 R2 X02 .none
      | ret u =>
        obtain ⟨cv, rfl, hcv⟩ := hf
        exact hQ _ _ hp cv h2' t2 ι2 R2 X02 hcv
    · cases hρ

/-- calls at every depth -/
theorem all_c (W : Wd cl K base) : ∀ d, SC prog w cl K base d
  | 0 => fun _ _ _ _ he => he.elim
  | d + 1 => snd_c W (all_xs W (all_c W d))
end
end Mine
end
section
open PySem PySem.W PySem.Calls PyProof.Rows PySem.SeqAt
set_option maxRecDepth 100000
set_option maxHeartbeats 4000000
namespace Mine
theorem kw {sc : Scope} {x : String} {pos : Pos} (hd : notDebug x := by unfold notDebug; kernel_rfl) : RE sc (.var x) (.Name (Str.ofString x) pos) := .var hd
theorem vals_1 {l : List Value} (h1 : 1 ≤ l.length) (h2 : l.length ≤ 1) : ∃ a, l = [a] := by
  match l, h1, h2 with
  | [a], _, _ => exact ⟨a, rfl⟩

theorem mkLink {K : Frag} {fn : Fn} {a : Addr} {name qual : Str} {params : Arguments} {body : List Stmt} {scope : Scope} {dV kV doc pm : Value} {an : Option Addr} {cdv ct oc : Value} {od : Option Addr} {osl : Array (Option Value)}
    (h1 : K.lookup a = some ⟨oc, od, .func (fnOf name qual params body scope dV kV doc pm an cdv ct), osl⟩) (h2 : codeIn K cdv qual = true) (h3 : scope.kind = .function) (h4 : scope.isCoroutine = false) (h5 : scope.isGenerator = false)
    (h6 : RSs scope fn.body body) (h7 : ∀ p ∈ fn.params, scope.names.lookup (Str.ofString p) = some .local) (h8 : (scope.names.map (·.1)).Nodup) (h9 : fn.params.Nodup)
    (h10 : ∀ (s : Shared) (vals : List Value), K.In s.heap → fn.params.length ≤ vals.length + fn.dflts.length → vals.length ≤ fn.params.length →
      ∃ dvals, (∀ base ι, VRs base s.heap ι dvals fn.dflts) ∧ BindsTo s (fnOf name qual params body scope dV kV doc pm an cdv ct) ⟨vals, []⟩
        ((fn.params.map Str.ofString).zip (vals ++ dvals.drop (vals.length + dvals.length - fn.params.length)))) : FnLink K fn a :=
  ⟨name, qual, params, body, scope, dV, kV, doc, pm, an, cdv, ct, oc, od, osl, h1, h2, h3, h4, h5, h6, h7, h8, h9, h10⟩

theorem bindsD {K : Frag} {s : Shared} {fd : FuncData} {vals : List Value} {items : Array Value} {n : Nat} {oc : Value} {od : Option Addr} {osl : Array (Option Value)} {T : Addr} {dfl : List AV} {ps : List Str} {k : Option (Array Value) → Sem (List (Str × Value))} {pn : Nat}
    (X : K.In s.heap) (hd : fd.defaults = .ref T) (ho : K.lookup T = some ⟨oc, od, .seq items n, osl⟩) (hv : ∀ base ι, VRs base s.heap ι items.toList dfl) (h₁ : bindArgs fd ⟨vals, []⟩ = seqItems? fd.defaults >>= k)
    (h₂ : k (some items) = pure (ps.zip (vals ++ items.toList.drop (vals.length + items.toList.length - pn)))) : ∃ dvals, (∀ base ι, VRs base s.heap ι dvals dfl) ∧ BindsTo s fd ⟨vals, []⟩ (ps.zip (vals ++ dvals.drop (vals.length + dvals.length - pn))) :=
  ⟨items.toList, hv, binds_K X hd ho rfl h₁ h₂⟩

end Mine
end
section
open PySem PySem.W PySem.Calls PyProof.Rows PySem.SeqAt
set_option maxRecDepth 100000
set_option maxHeartbeats 4000000
namespace Mine
noncomputable def clm : String → Option Addr
  | "Formatting" => some 170 | "OpenStack" => some 282 | "Tree" => some 399 | "Builder" => some 477 | _ => none

theorem cl_cases {c : String} {C : Addr} (h : clm c = some C) : (c = "Formatting" ∧ C = 170) ∨ (c = "OpenStack" ∧ C = 282) ∨ (c = "Tree" ∧ C = 399) ∨ (c = "Builder" ∧ C = 477) := by
  unfold clm at h
  split at h <;> first | (cases h; simp; done) | cases h

end Mine
end
section
set_option maxRecDepth 100000
namespace Mine

noncomputable def cont (d : Nat) (r : MSs) (Q : AF → AE → AH → Prop) : AF → AE → AH → Prop := fun f ρ H => match f with
    | .next => wSs d r ρ H Q
    | .ret v => Q (.ret v) ρ H
theorem cont_next {d : Nat} {r : MSs} {Q : AF → AE → AH → Prop} {ρ : AE} {H : AH} : cont d r Q .next ρ H = wSs d r ρ H Q := id rfl
theorem cont_ret {d : Nat} {r : MSs} {Q : AF → AE → AH → Prop} {ρ : AE} {H : AH} {v : AV} : cont d r Q (.ret v) ρ H = Q (.ret v) ρ H := id rfl
theorem wSs_cons {d : Nat} {s : MS} {r : MSs} {ρ : AE} {H : AH} {Q : AF → AE → AH → Prop} : wSs d (.cons s r) ρ H Q = wS d s ρ H (cont d r Q) := id rfl
theorem wSs_nil {d : Nat} {ρ : AE} {H : AH} {Q : AF → AE → AH → Prop} : wSs d .nil ρ H Q = Q .next ρ H := id rfl

/-! what comes after, as constants -/
noncomputable def kv {α : Type} (Q : α → AH → Prop) (H : AH) (a : α) : Prop := Q a H
noncomputable def kr (Q : KE) (r : AV × AH) : Prop := Q r.1 r.2
noncomputable def kAttr (f : String) (Q : KE) (v : AV) (H : AH) : Prop := opt (attrA H v f) (kv Q H)
noncomputable def kSub2 (a : AV) (Q : KE) (b : AV) (H : AH) : Prop := opt (subA H a b) (kv Q H)
noncomputable def kSub1 (d : Nat) (i : ME) (ρ : AE) (Q : KE) (a : AV) (H : AH) : Prop := wE d i ρ H (kSub2 a Q)
noncomputable def kSl4 (Q : KE) (a : Nat) (lo hi : Option Int) (H : AH) : Prop := opt (sliceH H (.ref a) lo hi) (kr Q)
noncomputable def kSl3 (d : Nat) (hi : ME) (ρ : AE) (Q : KE) (a : Nat) (lo : Option Int) (H : AH) : Prop := wO d hi ρ H (kSl4 Q a lo)
noncomputable def kSl2 (d : Nat) (lo hi : ME) (ρ : AE) (Q : KE) (H : AH) (a : Nat) : Prop := wO d lo ρ H (kSl3 d hi ρ Q a)
noncomputable def kSl1 (d : Nat) (lo hi : ME) (ρ : AE) (Q : KE) (a : AV) (H : AH) : Prop := opt (refOf a) (kSl2 d lo hi ρ Q H)
noncomputable def kBin2 (op : Op) (a : AV) (Q : KE) (b : AV) (H : AH) : Prop := opt (binA H op a b) (kr Q)
noncomputable def kBin1 (d : Nat) (op : Op) (b : ME) (ρ : AE) (Q : KE) (a : AV) (H : AH) : Prop := wE d b ρ H (kBin2 op a Q)
noncomputable def kNeg2 (Q : KE) (H : AH) (i : Int) : Prop := Q (.int (-i)) H
noncomputable def kNeg (Q : KE) (v : AV) (H : AH) : Prop := opt (intOf v) (kNeg2 Q H)
noncomputable def kCmp3 (Q : KE) (r : Bool) (H : AH) : Prop := Q (.bool r) H
noncomputable def kNot (Q : KE) (v : AV) (H : AH) : Prop := opt (truthyA H v) fun b => Q (.bool (!b)) H
noncomputable def kc2 (op : Cm) (a : AV) (Q : Bool → AH → Prop) (b : AV) (H : AH) : Prop := opt (cmpA H op a b) (kv Q H)
noncomputable def kc1 (d : Nat) (op : Cm) (b : ME) (ρ : AE) (Q : Bool → AH → Prop) (a : AV) (H : AH) : Prop := wE d b ρ H (kc2 op a Q)
noncomputable def kIte (d : Nat) (a b : ME) (ρ : AE) (Q : KE) (r : Bool) (H : AH) : Prop := (r = true → wE d a ρ H Q) ∧ (r = false → wE d b ρ H Q)
noncomputable def kIf (d : Nat) (a b : MSs) (ρ : AE) (Q : KS) (r : Bool) (H : AH) : Prop := (r = true → wSs d a ρ H Q) ∧ (r = false → wSs d b ρ H Q)
noncomputable def kTup (Q : KE) (vs : List AV) (H : AH) : Prop := vs.length ≤ lim ∧ Q (.tup vs) H
noncomputable def kLst (Q : KE) (vs : List AV) (H : AH) : Prop := vs.length ≤ lim ∧ Q (.ref H.length) (H ++ [.list vs])
noncomputable def kD3 (Q : KE) (k : Int) (v : AV) (H : AH) : Prop := Q (.ref H.length) (H ++ [.dict [(k, v)]])
noncomputable def kD2 (d : Nat) (v : ME) (ρ : AE) (Q : KE) (H : AH) (k : Int) : Prop := wE d v ρ H (kD3 Q k)
noncomputable def kD1 (d : Nat) (v : ME) (ρ : AE) (Q : KE) (k : AV) (H : AH) : Prop := opt (intOf k) (kD2 d v ρ Q H)
noncomputable def kCall (d : Nat) (f : String) (Q : KE) (vs : List AV) (H : AH) : Prop := wCall d f vs H Q
noncomputable def kLen (Q : KE) (H : AH) (k : Int) : Prop := Q (.int k) H
noncomputable def kM4 (d : Nat) (Q : KE) (a : Nat) (fn : Fn) (vs : List AV) (H : AH) : Prop := WC d fn (.ref a :: vs) H Q
noncomputable def kM3 (d : Nat) (args : MEs) (ρ : AE) (Q : KE) (H : AH) (a : Nat) (fn : Fn) : Prop := wEs d args ρ H (kM4 d Q a fn)
noncomputable def kML (f : String) (Q : KE) (a : Nat) (vs : List AV) (H : AH) : Prop := opt (methL H a f vs) (kr Q)
noncomputable def kMD (f : String) (Q : KE) (a : Nat) (vs : List AV) (H : AH) : Prop := opt (methD H a f vs) (kr Q)
noncomputable def kM2 (d : Nat) (f : String) (args : MEs) (ρ : AE) (Q : KE) (H : AH) (k : MK) : Prop := match k with
    | .inst a c => opt (fnsM c f) (kM3 d args ρ Q H a)
    | .list a => knownL f = true ∧ wEs d args ρ H (kML f Q a)
    | .dict a => f = "get" ∧ wEs d args ρ H (kMD f Q a)
noncomputable def kM1 (d : Nat) (f : String) (args : MEs) (ρ : AE) (Q : KE) (o : AV) (H : AH) : Prop := opt (kindA H o f) (kM2 d f args ρ Q H)
noncomputable def kEs2 (Q : List AV → AH → Prop) (v : AV) (vs : List AV) (H : AH) : Prop := Q (v :: vs) H
noncomputable def kEs1 (d : Nat) (r : MEs) (ρ : AE) (Q : List AV → AH → Prop) (v : AV) (H : AH) : Prop := wEs d r ρ H (kEs2 Q v)
noncomputable def kTn (Q : Bool → AH → Prop) (r : Bool) (H : AH) : Prop := Q (!r) H
noncomputable def kTr (Q : Bool → AH → Prop) (v : AV) (H : AH) : Prop := opt (truthyA H v) (kv Q H)
noncomputable def kTs (d : Nat) (k : Bool) (r : MEs) (ρ : AE) (Q : Bool → AH → Prop) (b : Bool) (H : AH) : Prop := (b = k → wTs d k r ρ H Q) ∧ (b = !k → Q b H)
noncomputable def kB2 (d : Nat) (k : Bool) (r : MEs) (ρ : AE) (Q : KE) (H : AH) (v : AV) (b : Bool) : Prop := (b = k → wB d k r ρ H Q) ∧ (b = !k → Q v H)
noncomputable def kB1 (d : Nat) (k : Bool) (r : MEs) (ρ : AE) (Q : KE) (v : AV) (H : AH) : Prop := opt (truthyA H v) (kB2 d k r ρ Q H v)
noncomputable def kO2 (Q : Option Int → AH → Prop) (H : AH) (i : Int) : Prop := Q (some i) H
noncomputable def kO (Q : Option Int → AH → Prop) (v : AV) (H : AH) : Prop := opt (intOf v) (kO2 Q H)
noncomputable def kAs (x : String) (ρ : AE) (Q : KS) (v : AV) (H : AH) : Prop := Q .next (setE x v ρ) H
noncomputable def kN (ρ : AE) (Q : KS) (H : AH) : Prop := Q .next ρ H
noncomputable def kUn2 (xs : List String) (ρ : AE) (Q : KS) (H : AH) (vs : List AV) : Prop := vs.length = xs.length ∧ Q .next ((xs.zip vs).reverse ++ ρ) H
noncomputable def kUn (xs : List String) (ρ : AE) (Q : KS) (v : AV) (H : AH) : Prop := opt (tupOf v) (kUn2 xs ρ Q H)
noncomputable def kSa2 (f : String) (ρ : AE) (Q : KS) (v o : AV) (H : AH) : Prop := opt (setattrA H o f v) (kN ρ Q)
noncomputable def kSa1 (d : Nat) (o : ME) (f : String) (ρ : AE) (Q : KS) (v : AV) (H : AH) : Prop := wE d o ρ H (kSa2 f ρ Q v)
noncomputable def kSs3 (ρ : AE) (Q : KS) (v o i : AV) (H : AH) : Prop := opt (setsubA H o i v) (kN ρ Q)
noncomputable def kSs2 (d : Nat) (i : ME) (ρ : AE) (Q : KS) (v o : AV) (H : AH) : Prop := wE d i ρ H (kSs3 ρ Q v o)
noncomputable def kSs1 (d : Nat) (o i : ME) (ρ : AE) (Q : KS) (v : AV) (H : AH) : Prop := wE d o ρ H (kSs2 d i ρ Q v)
noncomputable def kEx (ρ : AE) (Q : KS) (v : AV) (H : AH) : Prop := (v = .none ∨ ∃ i, v = .int i) ∧ Q .next ρ H
noncomputable def kRet (ρ : AE) (Q : KS) (v : AV) (H : AH) : Prop := Q (.ret v) ρ H
noncomputable def kFor (d : Nat) (x : String) (body : MSs) (ρ : AE) (Q : KS) (v : AV) (H : AH) : Prop := match v with
    | .tup vs => XFv d x vs body ρ H Q
    | .rng k => 0 ≤ k ∧ k ≤ lim ∧ XFv d x ((List.range k.toNat).map fun (j : Nat) => .int j) body ρ H Q
    | .ref a => ∃ n, XFl d x a n 0 body ρ H Q
    | _ => False
noncomputable def kComp (d : Nat) (elt : ME) (x : String) (cond : ME) (frees : List String) (ρ : AE) (Q : KE) (v : AV) (H : AH) : Prop := match v with
    | .rng k => 0 ≤ k ∧ k ≤ lim ∧ XCv d (ρ.filter fun p => frees.contains p.1) elt x cond H.length ((List.range k.toNat).map fun (j : Nat) => .int j) (H ++ [.list []]) Q
    | .ref a => ∃ n, XCl d (ρ.filter fun p => frees.contains p.1) elt x cond H.length a n 0 (H ++ [.list []]) Q
    | _ => False
noncomputable def kWh (d : Nat) (t : ME) (b : MSs) (n : Nat) (Q : KS) (f : AF) (ρ : AE) (H : AH) : Prop := match f with
    | .next => XWh d t b n ρ H Q
    | .ret v => Q (.ret v) ρ H
noncomputable def kWt (d : Nat) (t : ME) (b : MSs) (n : Nat) (ρ : AE) (Q : KS) (r : Bool) (H : AH) : Prop := (r = true → wSs d b ρ H (kWh d t b n Q)) ∧ (r = false → Q .next ρ H)
noncomputable def kFv (d : Nat) (x : String) (r : List AV) (b : MSs) (Q : KS) (f : AF) (ρ : AE) (H : AH) : Prop := match f with
    | .next => XFv d x r b ρ H Q
    | .ret v => Q (.ret v) ρ H
noncomputable def kFl (d : Nat) (x : String) (a n i : Nat) (b : MSs) (Q : KS) (f : AF) (ρ : AE) (H : AH) : Prop := match f with
    | .next => XFl d x a n i b ρ H Q
    | .ret v => Q (.ret v) ρ H
noncomputable def kFn (Q : KE) (f : AF) (_ : AE) (H : AH) : Prop := Q (resA f) H
noncomputable def kAp (acc : Nat) (K : AH → Prop) (v : AV) (H : AH) : Prop := opt (methA H acc "append" [v]) fun r => K r.2
noncomputable def kCi (d : Nat) (ρ : AE) (elt : ME) (acc : Nat) (K : AH → Prop) (r : Bool) (H : AH) : Prop := (r = true → wE d elt ρ H (kAp acc K)) ∧ (r = false → K H)

section
variable {d : Nat} {ρ : AE} {H : AH} {Q : KE} {QT : Bool → AH → Prop} {QO : Option Int → AH → Prop} {QV : List AV → AH → Prop} {QS : KS} {e a b o i t : ME} {es r : MEs} {f x : String} {op : Op} {cm : Cm} {v w : AV} {vs : List AV} {n k : Int} {s r1 r2 : MSs} {st : MS} {j : Nat}
theorem ov {α : Type} {u : α} {P : α → AH → Prop} : opt (some u) (kv P H) = P u H := id rfl
theorem kv_eq {α : Type} {u : α} {P : α → AH → Prop} : kv P H u = P u H := id rfl
theorem okr {u : AV} {K : AH} : opt (some (u, K)) (kr Q) = Q u K := id rfl
theorem kr_eq {u : AV} {K : AH} : kr Q (u, K) = Q u K := id rfl
theorem e_var : wE d (.var x) ρ H Q = opt (ρ.lookup x) (kv Q H) := id rfl
theorem e_attr : wE d (.attr o f) ρ H Q = wE d o ρ H (kAttr f Q) := id rfl
theorem kAttr_eq : kAttr f Q v H = opt (attrA H v f) (kv Q H) := id rfl
theorem e_sub : wE d (.sub o i) ρ H Q = wE d o ρ H (kSub1 d i ρ Q) := id rfl
theorem kSub1_eq : kSub1 d i ρ Q v H = wE d i ρ H (kSub2 v Q) := id rfl
theorem kSub2_eq : kSub2 v Q w H = opt (subA H v w) (kv Q H) := id rfl
theorem e_slice : wE d (.slice o a b) ρ H Q = wE d o ρ H (kSl1 d a b ρ Q) := id rfl
theorem kSl1_eq : kSl1 d a b ρ Q (.ref j) H = wO d a ρ H (kSl3 d b ρ Q j) := id rfl
theorem kSl3_eq {lo : Option Int} : kSl3 d b ρ Q j lo H = wO d b ρ H (kSl4 Q j lo) := id rfl
theorem kSl4_eq {lo hi : Option Int} : kSl4 Q j lo hi H = opt (sliceH H (.ref j) lo hi) (kr Q) := id rfl
theorem e_bin : wE d (.bin op a b) ρ H Q = wE d a ρ H (kBin1 d op b ρ Q) := id rfl
theorem kBin1_eq : kBin1 d op b ρ Q v H = wE d b ρ H (kBin2 op v Q) := id rfl
theorem kBin2_eq : kBin2 op v Q w H = opt (binA H op v w) (kr Q) := id rfl
theorem e_neg1 : wE d (.neg (.int n)) ρ H Q = Q (.int (-n)) H := id rfl
theorem e_neg : wE d (.neg a) ρ H Q = wE d a ρ H (kNeg Q) := id rfl
theorem kNeg_eq : kNeg Q (.int n) H = Q (.int (-n)) H := id rfl
theorem e_not : wE d (.not a) ρ H Q = wE d a ρ H (kNot Q) := id rfl
theorem kNot_eq : kNot Q v H = opt (truthyA H v) fun b => Q (.bool (!b)) H := id rfl
theorem e_cmp : wE d (.cmp cm a b) ρ H Q = wE d a ρ H (kc1 d cm b ρ (kCmp3 Q)) := id rfl
theorem kc1_eq : kc1 d cm b ρ QT v H = wE d b ρ H (kc2 cm v QT) := id rfl
theorem kc2_eq : kc2 cm v QT w H = opt (cmpA H cm v w) (kv QT H) := id rfl
theorem kCmp3_eq {u : Bool} : kCmp3 Q u H = Q (.bool u) H := id rfl
theorem e_ite : wE d (.ite t a b) ρ H Q = wT d t ρ H (kIte d a b ρ Q) := id rfl
theorem kIte_eq {u : Bool} : kIte d a b ρ Q u H = ((u = true → wE d a ρ H Q) ∧ (u = false → wE d b ρ H Q)) := id rfl
theorem and_t {A B : Prop} : ((true = true → A) ∧ (true = false → B)) = A := propext ⟨fun h => h.1 rfl, fun h => ⟨fun _ => h, fun e => by cases e⟩⟩
theorem and_f {A B : Prop} : ((false = true → A) ∧ (false = false → B)) = B := propext ⟨fun h => h.2 rfl, fun h => ⟨fun e => (by cases e), fun _ => h⟩⟩
theorem kIte_t : kIte d a b ρ Q true H = wE d a ρ H Q := and_t
theorem kIte_f : kIte d a b ρ Q false H = wE d b ρ H Q := and_f
theorem e_tup : wE d (.tup es) ρ H Q = wEs d es ρ H (kTup Q) := id rfl
theorem e_lst : wE d (.lst es) ρ H Q = wEs d es ρ H (kLst Q) := id rfl
theorem le_and {A : Prop} {m : Nat} (h : Nat.ble m lim = true) : (m ≤ lim ∧ A) = A := propext ⟨fun h => h.2, fun q => ⟨Nat.le_of_ble_eq_true h, q⟩⟩
theorem kTup_0 : kTup Q [] H = Q (.tup []) H := le_and rfl
theorem kTup_1 {v1 : AV} : kTup Q [v1] H = Q (.tup [v1]) H := le_and rfl
theorem kTup_2 {v1 v2 : AV} : kTup Q [v1, v2] H = Q (.tup [v1, v2]) H := le_and rfl
theorem kTup_3 {v1 v2 v3 : AV} : kTup Q [v1, v2, v3] H = Q (.tup [v1, v2, v3]) H := le_and rfl
theorem kTup_4 {v1 v2 v3 v4 : AV} : kTup Q [v1, v2, v3, v4] H = Q (.tup [v1, v2, v3, v4]) H := le_and rfl
theorem kTup_5 {v1 v2 v3 v4 v5 : AV} : kTup Q [v1, v2, v3, v4, v5] H = Q (.tup [v1, v2, v3, v4, v5]) H := le_and rfl
theorem kTup_eq : kTup Q vs H = (vs.length ≤ lim ∧ Q (.tup vs) H) := id rfl
theorem kLst_0 : kLst Q [] H = Q (.ref H.length) (H ++ [.list []]) := le_and rfl
theorem kLst_1 {v1 : AV} : kLst Q [v1] H = Q (.ref H.length) (H ++ [.list [v1]]) := le_and rfl
theorem kLst_2 {v1 v2 : AV} : kLst Q [v1, v2] H = Q (.ref H.length) (H ++ [.list [v1, v2]]) := le_and rfl
theorem kLst_eq : kLst Q vs H = (vs.length ≤ lim ∧ Q (.ref H.length) (H ++ [.list vs])) := id rfl
theorem e_dict0 : wE d .dict0 ρ H Q = Q (.ref H.length) (H ++ [.dict []]) := id rfl
theorem e_dict1 : wE d (.dict1 a b) ρ H Q = wE d a ρ H (kD1 d b ρ Q) := id rfl
theorem kD1_eq : kD1 d b ρ Q (.int n) H = wE d b ρ H (kD3 Q n) := id rfl
theorem kD3_eq : kD3 Q n v H = Q (.ref H.length) (H ++ [.dict [(n, v)]]) := id rfl
theorem e_call : wE d (.call f es) ρ H Q = wEs d es ρ H (kCall d f Q) := id rfl
theorem kLen_eq : opt (some n) (kLen Q H) = Q (.int n) H := id rfl
theorem kLen_e : kLen Q H n = Q (.int n) H := id rfl
theorem e_meth : wE d (.meth o f es) ρ H Q = wE d o ρ H (kM1 d f es ρ Q) := id rfl
theorem kM1_eq : kM1 d f es ρ Q v H = opt (kindA H v f) (kM2 d f es ρ Q H) := id rfl
theorem kM2_inst {c : String} : kM2 d f es ρ Q H (.inst j c) = opt (fnsM c f) (kM3 d es ρ Q H j) := id rfl
theorem kM3_eq {fn : Fn} : kM3 d es ρ Q H j fn = wEs d es ρ H (kM4 d Q j fn) := id rfl
theorem kM4_eq {fn : Fn} : kM4 d Q j fn vs H = WC d fn (.ref j :: vs) H Q := id rfl
theorem known_and {A : Prop} (h : knownL f = true) : (knownL f = true ∧ A) = A := propext ⟨fun h => h.2, fun q => ⟨h, q⟩⟩
theorem kM2_append : kM2 d "append" es ρ Q H (.list j) = wEs d es ρ H (kML "append" Q j) := known_and rfl
theorem kM2_insert : kM2 d "insert" es ρ Q H (.list j) = wEs d es ρ H (kML "insert" Q j) := known_and rfl
theorem kM2_index : kM2 d "index" es ρ Q H (.list j) = wEs d es ρ H (kML "index" Q j) := known_and rfl
theorem kM2_remove : kM2 d "remove" es ρ Q H (.list j) = wEs d es ρ H (kML "remove" Q j) := known_and rfl
theorem kM2_get : kM2 d "get" es ρ Q H (.dict j) = wEs d es ρ H (kMD "get" Q j) := propext ⟨fun h => h.2, fun q => ⟨rfl, q⟩⟩
theorem kML_eq : kML f Q j vs H = opt (methL H j f vs) (kr Q) := id rfl
theorem kMD_eq : kMD f Q j vs H = opt (methD H j f vs) (kr Q) := id rfl
theorem es_nil : wEs d .nil ρ H QV = QV [] H := id rfl
theorem es_cons : wEs d (.cons e r) ρ H QV = wE d e ρ H (kEs1 d r ρ QV) := id rfl
theorem kEs1_nil : kEs1 d .nil ρ QV v H = QV [v] H := id rfl
theorem kEs1_cons : kEs1 d (.cons e r) ρ QV v H = wE d e ρ H (kEs1 d r ρ (kEs2 QV v)) := id rfl
theorem kEs2_eq : kEs2 QV v vs H = QV (v :: vs) H := id rfl
theorem t_not : wT d (.not a) ρ H QT = wT d a ρ H (kTn QT) := id rfl
theorem kTn_eq {u : Bool} : kTn QT u H = QT (!u) H := id rfl
theorem t_and : wT d (.and es) ρ H QT = wTs d true es ρ H QT := id rfl
theorem t_or : wT d (.or es) ρ H QT = wTs d false es ρ H QT := id rfl
theorem t_cmp : wT d (.cmp cm a b) ρ H QT = wE d a ρ H (kc1 d cm b ρ QT) := id rfl
theorem t_var : wT d (.var x) ρ H QT = wE d (.var x) ρ H (kTr QT) := id rfl
theorem t_attr : wT d (.attr o f) ρ H QT = wE d (.attr o f) ρ H (kTr QT) := id rfl
theorem t_sub : wT d (.sub o i) ρ H QT = wE d (.sub o i) ρ H (kTr QT) := id rfl
theorem t_call : wT d (.call f es) ρ H QT = wE d (.call f es) ρ H (kTr QT) := id rfl
theorem t_meth : wT d (.meth o f es) ρ H QT = wE d (.meth o f es) ρ H (kTr QT) := id rfl
theorem kTr_b {u : Bool} : kTr QT (.bool u) H = QT u H := id rfl
theorem kTr_eq : kTr QT v H = opt (truthyA H v) (kv QT H) := id rfl
theorem ts_nil {u : Bool} : wTs d u .nil ρ H QT = QT u H := id rfl
theorem ts_cons {u : Bool} : wTs d u (.cons e r) ρ H QT = wT d e ρ H (kTs d u r ρ QT) := id rfl
theorem kTs_tt : kTs d true r ρ QT true H = wTs d true r ρ H QT := and_t
theorem kTs_tf : kTs d true r ρ QT false H = QT false H := and_f
theorem kTs_ff : kTs d false r ρ QT false H = wTs d false r ρ H QT := propext ⟨fun h => h.1 rfl, fun h => ⟨fun _ => h, fun e => by cases e⟩⟩
theorem kTs_ft : kTs d false r ρ QT true H = QT true H := propext ⟨fun h => h.2 rfl, fun h => ⟨fun e => (by cases e), fun _ => h⟩⟩
theorem kTs_t {u : Bool} : kTs d true r ρ QT u H = ((u = true → wTs d true r ρ H QT) ∧ (u = false → QT u H)) := id rfl
theorem kTs_f {u : Bool} : kTs d false r ρ QT u H = ((u = false → wTs d false r ρ H QT) ∧ (u = true → QT u H)) := id rfl
theorem e_and : wE d (.and es) ρ H Q = wB d true es ρ H Q := id rfl
theorem e_or : wE d (.or es) ρ H Q = wB d false es ρ H Q := id rfl
theorem b_one {u : Bool} : wB d u (.cons e .nil) ρ H Q = wE d e ρ H Q := id rfl
theorem b_cons {u : Bool} {e2 : ME} : wB d u (.cons e (.cons e2 r)) ρ H Q = wE d e ρ H (kB1 d u (.cons e2 r) ρ Q) := id rfl
theorem kB1_eq {u : Bool} : kB1 d u r ρ Q v H = opt (truthyA H v) (kB2 d u r ρ Q H v) := id rfl
theorem kB2_t {u : Bool} : kB2 d true r ρ Q H v u = ((u = true → wB d true r ρ H Q) ∧ (u = false → Q v H)) := id rfl
theorem kB2_f {u : Bool} : kB2 d false r ρ Q H v u = ((u = false → wB d false r ρ H Q) ∧ (u = true → Q v H)) := id rfl
theorem o_absent : wO d .absent ρ H QO = QO Option.none H := id rfl
theorem o_var : wO d (.var x) ρ H QO = wE d (.var x) ρ H (kO QO) := id rfl
theorem o_int : wO d (.int n) ρ H QO = QO (some n) H := id rfl
theorem o_neg : wO d (.neg a) ρ H QO = wE d (.neg a) ρ H (kO QO) := id rfl
theorem kO_eq : kO QO (.int n) H = QO (some n) H := id rfl
theorem e_comp {frees : List String} : wE d (.comp e x a b frees) ρ H Q = wE d a ρ H (kComp d e x b frees ρ Q) := id rfl
theorem kComp_rng {frees : List String} : kComp d e x b frees ρ Q (.rng k) H = (0 ≤ k ∧ k ≤ lim ∧ XCv d (ρ.filter fun p => frees.contains p.1) e x b H.length ((List.range k.toNat).map fun (j : Nat) => .int j) (H ++ [.list []]) Q) := id rfl
theorem kComp_ref {frees : List String} : kComp d e x b frees ρ Q (.ref j) H = (∃ n, XCl d (ρ.filter fun p => frees.contains p.1) e x b H.length j n 0 (H ++ [.list []]) Q) := id rfl
theorem s_assign : wS d (.assign x e) ρ H QS = wE d e ρ H (kAs x ρ QS) := id rfl
theorem kAs_c : kAs x ρ (cont d s QS) v H = wSs d s (setE x v ρ) H QS := id rfl
theorem kAs_eq : kAs x ρ QS v H = QS .next (setE x v ρ) H := id rfl
theorem s_unpack {xs : List String} : wS d (.unpack xs e) ρ H QS = wE d e ρ H (kUn xs ρ QS) := id rfl
theorem kUn_eq {xs : List String} : kUn xs ρ QS (.tup vs) H = (vs.length = xs.length ∧ QS .next ((xs.zip vs).reverse ++ ρ) H) := id rfl
theorem s_setattr : wS d (.setattr o f e) ρ H QS = wE d e ρ H (kSa1 d o f ρ QS) := id rfl
theorem kSa1_eq : kSa1 d o f ρ QS v H = wE d o ρ H (kSa2 f ρ QS v) := id rfl
theorem kSa2_eq : kSa2 f ρ QS v w H = opt (setattrA H w f v) (kN ρ QS) := id rfl
theorem kN_c : kN ρ (cont d s QS) H = wSs d s ρ H QS := id rfl
theorem kN_eq : kN ρ QS H = QS .next ρ H := id rfl
theorem s_setsub : wS d (.setsub o i e) ρ H QS = wE d e ρ H (kSs1 d o i ρ QS) := id rfl
theorem kSs1_eq : kSs1 d o i ρ QS v H = wE d o ρ H (kSs2 d i ρ QS v) := id rfl
theorem kSs2_eq : kSs2 d i ρ QS v w H = wE d i ρ H (kSs3 ρ QS v w) := id rfl
theorem kSs3_eq {u : AV} : kSs3 ρ QS v w u H = opt (setsubA H w u v) (kN ρ QS) := id rfl
theorem s_aug : wS d (.aug x .Sub e) ρ H QS = opt (ρ.lookup x) fun a => opt (intOf a) fun a => wE d e ρ H fun b H => opt (intOf b) fun b => QS .next (setE x (.int (a - b)) ρ) H := propext ⟨fun h => h.2, fun h => ⟨rfl, h⟩⟩
theorem s_expr : wS d (.expr e) ρ H QS = wE d e ρ H (kEx ρ QS) := id rfl
theorem kEx_n : kEx ρ QS .none H = QS .next ρ H := propext ⟨fun h => h.2, fun h => ⟨.inl rfl, h⟩⟩
theorem kEx_i : kEx ρ QS (.int n) H = QS .next ρ H := propext ⟨fun h => h.2, fun h => ⟨.inr ⟨_, rfl⟩, h⟩⟩
theorem s_ret : wS d (.ret e) ρ H QS = wE d e ρ H (kRet ρ QS) := id rfl
theorem kRet_c : kRet ρ (cont d s QS) v H = QS (.ret v) ρ H := id rfl
theorem kRet_eq : kRet ρ QS v H = QS (.ret v) ρ H := id rfl
theorem s_retNone : wS d .retNone ρ H QS = QS (.ret .none) ρ H := id rfl
theorem s_ifs : wS d (.ifs t r1 r2) ρ H QS = wT d t ρ H (kIf d r1 r2 ρ QS) := id rfl
theorem kIf_t : kIf d r1 r2 ρ QS true H = wSs d r1 ρ H QS := and_t
theorem kIf_f : kIf d r1 r2 ρ QS false H = wSs d r2 ρ H QS := and_f
theorem kIf_eq {u : Bool} : kIf d r1 r2 ρ QS u H = ((u = true → wSs d r1 ρ H QS) ∧ (u = false → wSs d r2 ρ H QS)) := id rfl
theorem s_while : wS d (.while t s) ρ H QS = ∃ n, XWh d t s n ρ H QS := id rfl
theorem s_for : wS d (.for x e s) ρ H QS = wE d e ρ H (kFor d x s ρ QS) := id rfl
theorem kFor_tup : kFor d x s ρ QS (.tup vs) H = XFv d x vs s ρ H QS := id rfl
theorem kFor_rng : kFor d x s ρ QS (.rng k) H = (0 ≤ k ∧ k ≤ lim ∧ XFv d x ((List.range k.toNat).map fun (j : Nat) => .int j) s ρ H QS) := id rfl
theorem kFor_ref : kFor d x s ρ QS (.ref j) H = ∃ n, XFl d x j n 0 s ρ H QS := id rfl
theorem kWh_n {m : Nat} : kWh d t s m QS .next ρ H = XWh d t s m ρ H QS := id rfl
theorem kWh_r {m : Nat} : kWh d t s m QS (.ret v) ρ H = QS (.ret v) ρ H := id rfl
theorem kWt_t {m : Nat} : kWt d t s m ρ QS true H = wSs d s ρ H (kWh d t s m QS) := and_t
theorem kWt_f {m : Nat} : kWt d t s m ρ QS false H = QS .next ρ H := and_f
theorem kWt_eq {m : Nat} {u : Bool} : kWt d t s m ρ QS u H = ((u = true → wSs d s ρ H (kWh d t s m QS)) ∧ (u = false → QS .next ρ H)) := id rfl
theorem kFv_n : kFv d x vs s QS .next ρ H = XFv d x vs s ρ H QS := id rfl
theorem kFv_r : kFv d x vs s QS (.ret v) ρ H = QS (.ret v) ρ H := id rfl
theorem kFl_n {m c : Nat} : kFl d x j m c s QS .next ρ H = XFl d x j m c s ρ H QS := id rfl
theorem kFl_r {m c : Nat} : kFl d x j m c s QS (.ret v) ρ H = QS (.ret v) ρ H := id rfl
theorem kFn_r : kFn Q (.ret v) ρ H = Q v H := id rfl
theorem kFn_n : kFn Q .next ρ H = Q .none H := id rfl
theorem kAp_eq {K : AH → Prop} : kAp j K v H = opt (methA H j "append" [v]) fun r => K r.2 := id rfl
theorem kCi_t {K : AH → Prop} : kCi d ρ e j K true H = wE d e ρ H (kAp j K) := and_t
theorem kCi_f {K : AH → Prop} : kCi d ρ e j K false H = K H := and_f
theorem kCi_eq {K : AH → Prop} {u : Bool} : kCi d ρ e j K u H = ((u = true → wE d e ρ H (kAp j K)) ∧ (u = false → K H)) := id rfl

theorem sc (h : wS d st ρ H (cont d s QS)) : wSs d (.cons st s) ρ H QS := h
theorem wh_of {m : Nat} (h : wT d t ρ H (kWt d t s m ρ QS)) : XWh d t s (m + 1) ρ H QS := h
theorem fv_cons (h : wSs d s (setE x v ρ) H (kFv d x vs s QS)) : XFv d x (v :: vs) s ρ H QS := h
theorem fl_cons {m c : Nat} (ha : H[j]? = some (.list vs)) (hi : vs[c]? = some v) (h : wSs d s (setE x v ρ) H (kFl d x j m (c + 1) s QS)) : XFl d x j (m + 1) c s ρ H QS := XFl_cons ha hi h
theorem ct_plain {K : AH → Prop} (h : wE d e ρ H (kAp j K)) : XCt d ρ e .absent j H K := XCt_plain h
theorem ct_if {K : AH → Prop} (h : wT d (.cmp cm a b) ρ H (kCi d ρ e j K)) : XCt d ρ e (.cmp cm a b) j H K := h

theorem c_len : kCall d "len" Q [v] H = opt (lenA H v) (kLen Q H) := id rfl
theorem c_range : kCall d "range" Q [.int k] H = (0 ≤ k ∧ k ≤ lim ∧ Q (.rng k) H) := id rfl
theorem c_list : kCall d "list" Q vs H = opt (listOf H vs) (kr Q) := id rfl
theorem c_g1 : kCall d "is_table_part" Q vs H = WC d f_is_table_part vs H Q := id rfl
theorem c_g2 : kCall d "foster_place" Q vs H = WC d f_foster_place vs H Q := id rfl
theorem c_g3 : kCall d "place_for" Q vs H = WC d f_place_for vs H Q := id rfl
theorem c_g4 : kCall d "insert_sign" Q vs H = WC d f_insert_sign vs H Q := id rfl
theorem c_g5 : kCall d "insert_comment" Q vs H = WC d f_insert_comment vs H Q := id rfl
theorem c_g6 : kCall d "above" Q vs H = WC d f_above vs H Q := id rfl
theorem c_g7 : kCall d "_law_bases" Q vs H = WC d f_law_bases vs H Q := id rfl
theorem c_g8 : kCall d "_law_grow" Q vs H = WC d f_law_grow vs H Q := id rfl
theorem c_g9 : kCall d "_law_spot" Q vs H = WC d f_law_spot vs H Q := id rfl
theorem c_g10 : kCall d "_law_put" Q vs H = WC d f_law_put vs H Q := id rfl
theorem c_g11 : kCall d "_law_scene" Q vs H = WC d f_law_scene vs H Q := id rfl
theorem c_i1 : kCall d "Builder" Q vs H = WC d f_Builder_init (.ref (H.length + 1) :: vs) (H ++ [.fields []] ++ [.inst "Builder" H.length]) fun v H' => v = .none ∧ Q (.ref (H.length + 1)) H' := id rfl
theorem c_i2 : kCall d "Tree" Q vs H = WC d f_Tree_init (.ref (H.length + 1) :: vs) (H ++ [.fields []] ++ [.inst "Tree" H.length]) fun v H' => v = .none ∧ Q (.ref (H.length + 1)) H' := id rfl
theorem c_i3 : kCall d "OpenStack" Q vs H = WC d f_OpenStack_init (.ref (H.length + 1) :: vs) (H ++ [.fields []] ++ [.inst "OpenStack" H.length]) fun v H' => v = .none ∧ Q (.ref (H.length + 1)) H' := id rfl
theorem c_i4 : kCall d "Formatting" Q vs H = WC d f_Formatting_init (.ref (H.length + 1) :: vs) (H ++ [.fields []] ++ [.inst "Formatting" H.length]) fun v H' => v = .none ∧ Q (.ref (H.length + 1)) H' := id rfl
theorem be_attr (h : wE d o ρ H (kAttr f Q)) : wE d (.attr o f) ρ H Q := h
theorem be_sub (h : wE d o ρ H (kSub1 d i ρ Q)) : wE d (.sub o i) ρ H Q := h
theorem bkSub1_eq (h : wE d i ρ H (kSub2 v Q)) : kSub1 d i ρ Q v H := h
theorem be_slice (h : wE d o ρ H (kSl1 d a b ρ Q)) : wE d (.slice o a b) ρ H Q := h
theorem bkSl1_eq (h : wO d a ρ H (kSl3 d b ρ Q j)) : kSl1 d a b ρ Q (.ref j) H := h
theorem bkSl3_eq {lo : Option Int} (h : wO d b ρ H (kSl4 Q j lo)) : kSl3 d b ρ Q j lo H := h
theorem be_bin (h : wE d a ρ H (kBin1 d op b ρ Q)) : wE d (.bin op a b) ρ H Q := h
theorem bkBin1_eq (h : wE d b ρ H (kBin2 op v Q)) : kBin1 d op b ρ Q v H := h
theorem be_neg1 (h : Q (.int (-n)) H) : wE d (.neg (.int n)) ρ H Q := h
theorem be_neg (h : wE d a ρ H (kNeg Q)) : wE d (.neg a) ρ H Q := h
theorem bkNeg_eq (h : Q (.int (-n)) H) : kNeg Q (.int n) H := h
theorem be_not (h : wE d a ρ H (kNot Q)) : wE d (.not a) ρ H Q := h
theorem be_cmp (h : wE d a ρ H (kc1 d cm b ρ (kCmp3 Q))) : wE d (.cmp cm a b) ρ H Q := h
theorem bkc1_eq (h : wE d b ρ H (kc2 cm v QT)) : kc1 d cm b ρ QT v H := h
theorem bkCmp3_eq {u : Bool} (h : Q (.bool u) H) : kCmp3 Q u H := h
theorem be_ite (h : wT d t ρ H (kIte d a b ρ Q)) : wE d (.ite t a b) ρ H Q := h
theorem bkIte_t (h : wE d a ρ H Q) : kIte d a b ρ Q true H := Eq.mpr kIte_t h
theorem bkIte_f (h : wE d b ρ H Q) : kIte d a b ρ Q false H := Eq.mpr kIte_f h
theorem be_tup (h : wEs d es ρ H (kTup Q)) : wE d (.tup es) ρ H Q := h
theorem be_lst (h : wEs d es ρ H (kLst Q)) : wE d (.lst es) ρ H Q := h
theorem bkTup_0 (h : Q (.tup []) H) : kTup Q [] H := Eq.mpr kTup_0 h
theorem bkTup_1 {v1 : AV} (h : Q (.tup [v1]) H) : kTup Q [v1] H := Eq.mpr kTup_1 h
theorem bkTup_2 {v1 v2 : AV} (h : Q (.tup [v1, v2]) H) : kTup Q [v1, v2] H := Eq.mpr kTup_2 h
theorem bkTup_3 {v1 v2 v3 : AV} (h : Q (.tup [v1, v2, v3]) H) : kTup Q [v1, v2, v3] H := Eq.mpr kTup_3 h
theorem bkTup_4 {v1 v2 v3 v4 : AV} (h : Q (.tup [v1, v2, v3, v4]) H) : kTup Q [v1, v2, v3, v4] H := Eq.mpr kTup_4 h
theorem bkTup_5 {v1 v2 v3 v4 v5 : AV} (h : Q (.tup [v1, v2, v3, v4, v5]) H) : kTup Q [v1, v2, v3, v4, v5] H := Eq.mpr kTup_5 h
theorem bkLst_0 (h : Q (.ref H.length) (H ++ [.list []])) : kLst Q [] H := Eq.mpr kLst_0 h
theorem bkLst_1 {v1 : AV} (h : Q (.ref H.length) (H ++ [.list [v1]])) : kLst Q [v1] H := Eq.mpr kLst_1 h
theorem bkLst_2 {v1 v2 : AV} (h : Q (.ref H.length) (H ++ [.list [v1, v2]])) : kLst Q [v1, v2] H := Eq.mpr kLst_2 h
theorem be_dict0 (h : Q (.ref H.length) (H ++ [.dict []])) : wE d .dict0 ρ H Q := h
theorem be_dict1 (h : wE d a ρ H (kD1 d b ρ Q)) : wE d (.dict1 a b) ρ H Q := h
theorem bkD1_eq (h : wE d b ρ H (kD3 Q n)) : kD1 d b ρ Q (.int n) H := h
theorem bkD3_eq (h : Q (.ref H.length) (H ++ [.dict [(n, v)]])) : kD3 Q n v H := h
theorem be_call (h : wEs d es ρ H (kCall d f Q)) : wE d (.call f es) ρ H Q := h
theorem be_meth (h : wE d o ρ H (kM1 d f es ρ Q)) : wE d (.meth o f es) ρ H Q := h
theorem bes_nil (h : QV [] H) : wEs d .nil ρ H QV := h
theorem bes_cons (h : wE d e ρ H (kEs1 d r ρ QV)) : wEs d (.cons e r) ρ H QV := h
theorem bkEs1_nil (h : QV [v] H) : kEs1 d .nil ρ QV v H := h
theorem bkEs1_cons (h : wE d e ρ H (kEs1 d r ρ (kEs2 QV v))) : kEs1 d (.cons e r) ρ QV v H := h
theorem bkEs2_eq (h : QV (v :: vs) H) : kEs2 QV v vs H := h
theorem bkM4_eq {fn : Fn} (h : WC d fn (.ref j :: vs) H Q) : kM4 d Q j fn vs H := h
theorem bt_not (h : wT d a ρ H (kTn QT)) : wT d (.not a) ρ H QT := h
theorem bkTn_eq {u : Bool} (h : QT (!u) H) : kTn QT u H := h
theorem bt_and (h : wTs d true es ρ H QT) : wT d (.and es) ρ H QT := h
theorem bt_or (h : wTs d false es ρ H QT) : wT d (.or es) ρ H QT := h
theorem bt_cmp (h : wE d a ρ H (kc1 d cm b ρ QT)) : wT d (.cmp cm a b) ρ H QT := h
theorem bt_var (h : wE d (.var x) ρ H (kTr QT)) : wT d (.var x) ρ H QT := h
theorem bt_attr (h : wE d (.attr o f) ρ H (kTr QT)) : wT d (.attr o f) ρ H QT := h
theorem bt_sub (h : wE d (.sub o i) ρ H (kTr QT)) : wT d (.sub o i) ρ H QT := h
theorem bt_call (h : wE d (.call f es) ρ H (kTr QT)) : wT d (.call f es) ρ H QT := h
theorem bt_meth (h : wE d (.meth o f es) ρ H (kTr QT)) : wT d (.meth o f es) ρ H QT := h
theorem bkTr_b {u : Bool} (h : QT u H) : kTr QT (.bool u) H := h
theorem bts_nil {u : Bool} (h : QT u H) : wTs d u .nil ρ H QT := h
theorem bts_cons {u : Bool} (h : wT d e ρ H (kTs d u r ρ QT)) : wTs d u (.cons e r) ρ H QT := h
theorem bkTs_tt (h : wTs d true r ρ H QT) : kTs d true r ρ QT true H := Eq.mpr kTs_tt h
theorem bkTs_tf (h : QT false H) : kTs d true r ρ QT false H := Eq.mpr kTs_tf h
theorem bkTs_ff (h : wTs d false r ρ H QT) : kTs d false r ρ QT false H := Eq.mpr kTs_ff h
theorem bkTs_ft (h : QT true H) : kTs d false r ρ QT true H := Eq.mpr kTs_ft h
theorem be_and (h : wB d true es ρ H Q) : wE d (.and es) ρ H Q := h
theorem be_or (h : wB d false es ρ H Q) : wE d (.or es) ρ H Q := h
theorem bb_one {u : Bool} (h : wE d e ρ H Q) : wB d u (.cons e .nil) ρ H Q := h
theorem bb_cons {u : Bool} {e2 : ME} (h : wE d e ρ H (kB1 d u (.cons e2 r) ρ Q)) : wB d u (.cons e (.cons e2 r)) ρ H Q := h
theorem bo_absent (h : QO Option.none H) : wO d .absent ρ H QO := h
theorem bo_var (h : wE d (.var x) ρ H (kO QO)) : wO d (.var x) ρ H QO := h
theorem bo_int (h : QO (some n) H) : wO d (.int n) ρ H QO := h
theorem bo_neg (h : wE d (.neg a) ρ H (kO QO)) : wO d (.neg a) ρ H QO := h
theorem bkO_eq (h : QO (some n) H) : kO QO (.int n) H := h
theorem be_comp {frees : List String} (h : wE d a ρ H (kComp d e x b frees ρ Q)) : wE d (.comp e x a b frees) ρ H Q := h
theorem bkComp_ref {frees : List String} (h : (∃ n, XCl d (ρ.filter fun p => frees.contains p.1) e x b H.length j n 0 (H ++ [.list []]) Q)) : kComp d e x b frees ρ Q (.ref j) H := h
theorem bs_assign (h : wE d e ρ H (kAs x ρ QS)) : wS d (.assign x e) ρ H QS := h
theorem bkAs_c (h : wSs d s (setE x v ρ) H QS) : kAs x ρ (cont d s QS) v H := h
theorem bkAs_eq (h : QS .next (setE x v ρ) H) : kAs x ρ QS v H := h
theorem bs_unpack {xs : List String} (h : wE d e ρ H (kUn xs ρ QS)) : wS d (.unpack xs e) ρ H QS := h
theorem bs_setattr (h : wE d e ρ H (kSa1 d o f ρ QS)) : wS d (.setattr o f e) ρ H QS := h
theorem bkSa1_eq (h : wE d o ρ H (kSa2 f ρ QS v)) : kSa1 d o f ρ QS v H := h
theorem bkN_c (h : wSs d s ρ H QS) : kN ρ (cont d s QS) H := h
theorem bkN_eq (h : QS .next ρ H) : kN ρ QS H := h
theorem bs_setsub (h : wE d e ρ H (kSs1 d o i ρ QS)) : wS d (.setsub o i e) ρ H QS := h
theorem bkSs1_eq (h : wE d o ρ H (kSs2 d i ρ QS v)) : kSs1 d o i ρ QS v H := h
theorem bkSs2_eq (h : wE d i ρ H (kSs3 ρ QS v w)) : kSs2 d i ρ QS v w H := h
theorem bs_expr (h : wE d e ρ H (kEx ρ QS)) : wS d (.expr e) ρ H QS := h
theorem bkEx_n (h : QS .next ρ H) : kEx ρ QS .none H := Eq.mpr kEx_n h
theorem bkEx_i (h : QS .next ρ H) : kEx ρ QS (.int n) H := Eq.mpr kEx_i h
theorem bs_ret (h : wE d e ρ H (kRet ρ QS)) : wS d (.ret e) ρ H QS := h
theorem bkRet_c (h : QS (.ret v) ρ H) : kRet ρ (cont d s QS) v H := h
theorem bkRet_eq (h : QS (.ret v) ρ H) : kRet ρ QS v H := h
theorem bs_retNone (h : QS (.ret .none) ρ H) : wS d .retNone ρ H QS := h
theorem bs_ifs (h : wT d t ρ H (kIf d r1 r2 ρ QS)) : wS d (.ifs t r1 r2) ρ H QS := h
theorem bkIf_t (h : wSs d r1 ρ H QS) : kIf d r1 r2 ρ QS true H := Eq.mpr kIf_t h
theorem bkIf_f (h : wSs d r2 ρ H QS) : kIf d r1 r2 ρ QS false H := Eq.mpr kIf_f h
theorem bs_while (h : ∃ n, XWh d t s n ρ H QS) : wS d (.while t s) ρ H QS := h
theorem bs_for (h : wE d e ρ H (kFor d x s ρ QS)) : wS d (.for x e s) ρ H QS := h
theorem bkFor_tup (h : XFv d x vs s ρ H QS) : kFor d x s ρ QS (.tup vs) H := h
theorem bkFor_ref (h : ∃ n, XFl d x j n 0 s ρ H QS) : kFor d x s ρ QS (.ref j) H := h
theorem bkWh_n {m : Nat} (h : XWh d t s m ρ H QS) : kWh d t s m QS .next ρ H := h
theorem bkWh_r {m : Nat} (h : QS (.ret v) ρ H) : kWh d t s m QS (.ret v) ρ H := h
theorem bkWt_t {m : Nat} (h : wSs d s ρ H (kWh d t s m QS)) : kWt d t s m ρ QS true H := Eq.mpr kWt_t h
theorem bkWt_f {m : Nat} (h : QS .next ρ H) : kWt d t s m ρ QS false H := Eq.mpr kWt_f h
theorem bkFv_n (h : XFv d x vs s ρ H QS) : kFv d x vs s QS .next ρ H := h
theorem bkFv_r (h : QS (.ret v) ρ H) : kFv d x vs s QS (.ret v) ρ H := h
theorem bkFl_n {m c : Nat} (h : XFl d x j m c s ρ H QS) : kFl d x j m c s QS .next ρ H := h
theorem bkFl_r {m c : Nat} (h : QS (.ret v) ρ H) : kFl d x j m c s QS (.ret v) ρ H := h
theorem bkFn_r (h : Q v H) : kFn Q (.ret v) ρ H := h
theorem bkFn_n (h : Q .none H) : kFn Q .next ρ H := h
theorem bkCi_t {K : AH → Prop} (h : wE d e ρ H (kAp j K)) : kCi d ρ e j K true H := Eq.mpr kCi_t h
theorem bkCi_f {K : AH → Prop} (h : K H) : kCi d ρ e j K false H := Eq.mpr kCi_f h
theorem bkv_eq {α : Type} {u : α} {P : α → AH → Prop} (h : P u H) : kv P H u := h
theorem bkr_eq {u : AV} {K : AH} (h : Q u K) : kr Q (u, K) := h
theorem bkLen_e (h : Q (.int n) H) : kLen Q H n := h
theorem bc_list (h : opt (listOf H vs) (kr Q)) : kCall d "list" Q vs H := h
theorem bc_g1 (h : WC d f_is_table_part vs H Q) : kCall d "is_table_part" Q vs H := h
theorem bc_g2 (h : WC d f_foster_place vs H Q) : kCall d "foster_place" Q vs H := h
theorem bc_g3 (h : WC d f_place_for vs H Q) : kCall d "place_for" Q vs H := h
theorem bc_g4 (h : WC d f_insert_sign vs H Q) : kCall d "insert_sign" Q vs H := h
theorem bc_g5 (h : WC d f_insert_comment vs H Q) : kCall d "insert_comment" Q vs H := h
theorem bc_g6 (h : WC d f_above vs H Q) : kCall d "above" Q vs H := h
theorem bc_g7 (h : WC d f_law_bases vs H Q) : kCall d "_law_bases" Q vs H := h
theorem bc_g8 (h : WC d f_law_grow vs H Q) : kCall d "_law_grow" Q vs H := h
theorem bc_g9 (h : WC d f_law_spot vs H Q) : kCall d "_law_spot" Q vs H := h
theorem bc_g10 (h : WC d f_law_put vs H Q) : kCall d "_law_put" Q vs H := h
theorem bc_g11 (h : WC d f_law_scene vs H Q) : kCall d "_law_scene" Q vs H := h
theorem bcont_next (h : wSs d s ρ H QS) : cont d s QS .next ρ H := h
theorem bcont_ret (h : QS (.ret v) ρ H) : cont d s QS (.ret v) ρ H := h
theorem bwSs_nil (h : QS .next ρ H) : wSs d .nil ρ H QS := h
theorem bwE_int (h : Q (.int n) H) : wE d (.int n) ρ H Q := h
theorem bwE_str (h : Q (.str f) H) : wE d (.str f) ρ H Q := h
theorem bwE_bool {u : Bool} (h : Q (.bool u) H) : wE d (.bool u) ρ H Q := h
theorem band_t {A B : Prop} (h : A) : ((true = true → A) ∧ (true = false → B)) := Eq.mpr and_t h
theorem band_f {A B : Prop} (h : B) : ((false = true → A) ∧ (false = false → B)) := Eq.mpr and_f h
theorem bvar (hl : ρ.lookup x = some v) (h : Q v H) : wE d (.var x) ρ H Q := opt_intro hl h
theorem battr {u : AV} (ho : attrA H v f = some u) (h : Q u H) : kAttr f Q v H := opt_intro ho h
theorem bsub2 {u : AV} (ho : subA H v w = some u) (h : Q u H) : kSub2 v Q w H := opt_intro ho h
theorem bcmp {u : Bool} (ho : cmpA H cm v w = some u) (h : QT u H) : kc2 cm v QT w H := opt_intro ho h
theorem bbin {u : AV} {K : AH} (ho : binA H op v w = some (u, K)) (h : Q u K) : kBin2 op v Q w H := opt_intro ho h
theorem bslc {u : AV} {K : AH} {lo hi : Option Int} (ho : sliceH H (.ref j) lo hi = some (u, K)) (h : Q u K) : kSl4 Q j lo hi H := opt_intro ho h
theorem btr {u : Bool} (ho : truthyA H v = some u) (h : QT u H) : kTr QT v H := opt_intro ho h
theorem blen (ho : lenA H v = some n) (h : Q (.int n) H) : kCall d "len" Q [v] H := opt_intro ho h
theorem bml {u : AV} {K : AH} (ho : methL H j f vs = some (u, K)) (h : Q u K) : kML f Q j vs H := opt_intro ho h
theorem bmd {u : AV} {K : AH} (ho : methD H j f vs = some (u, K)) (h : Q u K) : kMD f Q j vs H := opt_intro ho h
theorem bsa {K : AH} (ho : setattrA H w f v = some K) (h : QS .next ρ K) : kSa2 f ρ QS v w H := opt_intro ho h
theorem bss {K : AH} {u : AV} (ho : setsubA H w u v = some K) (h : QS .next ρ K) : kSs3 ρ QS v w u H := opt_intro ho h
theorem bkl (ho : kindA H v f = some (.list j)) (hk : knownL f = true) (h : wEs d es ρ H (kML f Q j)) : kM1 d f es ρ Q v H := opt_intro ho ⟨hk, h⟩
theorem bkd (ho : kindA H v "get" = some (.dict j)) (h : wEs d es ρ H (kMD "get" Q j)) : kM1 d "get" es ρ Q v H := opt_intro ho ⟨rfl, h⟩
theorem bki {c : String} {fn : Fn} (ho : kindA H v f = some (.inst j c)) (hf : fnsM c f = some fn) (h : wEs d es ρ H (kM4 d Q j fn)) : kM1 d f es ρ Q v H := opt_intro ho (opt_intro hf h)
theorem bopt {α : Type} {u : α} {P : α → AH → Prop} {ob : Option α} (ho : ob = some u) (h : P u H) : opt ob (kv P H) := opt_intro ho h
theorem boptr {u : AV} {K : AH} {ob : Option (AV × AH)} (ho : ob = some (u, K)) (h : Q u K) : opt ob (kr Q) := opt_intro ho h
theorem bkB1 {u : Bool} (h : kB2 d true r ρ Q H (.bool u) u) : kB1 d true r ρ Q (.bool u) H := h
theorem bkB1o {u : Bool} (h : kB2 d false r ρ Q H (.bool u) u) : kB1 d false r ρ Q (.bool u) H := h
theorem bkB2_tt (h : wB d true r ρ H Q) : kB2 d true r ρ Q H v true := (kB2_t.trans and_t).mpr h
theorem bkB2_tf (h : Q v H) : kB2 d true r ρ Q H v false := (kB2_t.trans and_f).mpr h
theorem wc_of {fn : Fn} {args : List AV} (hb : bindA fn.params fn.dflts args = some ρ) (h : wSs d fn.body ρ H (kFn Q)) : WC (d + 1) fn args H Q := opt_intro hb h
end
theorem fm_push : fnsM "OpenStack" "push" = some f_OpenStack_push := id rfl
theorem fm_current : fnsM "OpenStack" "current" = some f_OpenStack_current := id rfl
theorem fm_add : fnsM "Tree" "add" = some f_Tree_add := id rfl
theorem fm_element : fnsM "Tree" "element" = some f_Tree_element := id rfl
theorem fm_text : fnsM "Tree" "text" = some f_Tree_text := id rfl
theorem fm_comment : fnsM "Tree" "comment" = some f_Tree_comment := id rfl
theorem fm_insert : fnsM "Tree" "insert" = some f_Tree_insert := id rfl
theorem fm_append : fnsM "Tree" "append" = some f_Tree_append := id rfl
theorem fm_remove : fnsM "Tree" "remove" = some f_Tree_remove := id rfl
theorem fm_place : fnsM "Tree" "place" = some f_Tree_place := id rfl
theorem fm_last : fnsM "Tree" "last" = some f_Tree_last := id rfl
theorem fm_is_html : fnsM "Tree" "is_html" = some f_Tree_is_html := id rfl

/-! the live part of a heap -/
noncomputable def Sat (H : AH) (D : List (Nat × AO)) : Prop := (∀ p ∈ D, H[p.1]? = some p.2) ∧ (D.map (·.1)).Nodup
section
variable {H : AH} {D D' : List (Nat × AO)} {i : Nat} {o o' : AO}
theorem Sat.get (S : Sat H D) (h : (i, o) ∈ D) : H[i]? = some o := S.1 _ h
theorem Sat.getj (S : Sat H D) (j : Nat) (h : D[j]? = some (i, o)) : H[i]? = some o := S.get (List.mem_of_getElem? h)
theorem Sat.lt (S : Sat H D) (h : i ∈ D.map (·.1)) : i < H.length := by
  obtain ⟨p, hp, rfl⟩ := List.mem_map.mp h
  exact (List.getElem?_eq_some_iff.mp (S.1 p hp)).1
theorem Sat.sub (S : Sat H D) (h : D'.Sublist D) : Sat H D' := ⟨fun p hp => S.1 p (h.subset hp), S.2.sublist (h.map _)⟩
theorem Sat.perm (S : Sat H D) (h : D.Perm D') : Sat H D' := ⟨fun p hp => S.1 p (h.mem_iff.mpr hp), (h.map _).nodup_iff.mp S.2⟩
theorem Sat.push (S : Sat H D) (o : AO) : Sat (H ++ [o]) ((H.length, o) :: D) := by
  refine ⟨fun p hp => ?_, ?_⟩
  · rcases List.mem_cons.mp hp with rfl | hp
    · simp
    · have := S.1 p hp
      have lt := (List.getElem?_eq_some_iff.mp this).1
      rw [List.getElem?_append_left lt]; exact this
  · rw [List.map_cons, List.nodup_cons]
    exact ⟨fun m => absurd (S.lt m) (Nat.lt_irrefl _), S.2⟩
theorem Sat.pushE (S : Sat H D) (o : AO) : Sat (H ++ [o]) (D ++ [(H.length, o)]) := (S.push o).perm (List.perm_append_singleton _ _).symm
theorem Sat.keep (S : Sat H D) (K : AH) : Sat (H ++ K) D := by
  refine ⟨fun p hp => ?_, S.2⟩
  have := S.1 p hp
  rw [List.getElem?_append_left (List.getElem?_eq_some_iff.mp this).1]; exact this
theorem Sat.setj (S : Sat H D) (j : Nat) (o' : AO) (h : D[j]? = some (i, o)) : Sat (H.set i o') (D.set j (i, o')) := by
  obtain ⟨hj, he⟩ := List.getElem?_eq_some_iff.mp h
  have hi : i < H.length := S.lt (List.mem_map.mpr ⟨_, List.mem_of_getElem? h, rfl⟩)
  have hk : (D.set j (i, o')).map (·.1) = D.map (·.1) := by
    apply List.ext_getElem?
    intro k
    rw [List.getElem?_map, List.getElem?_set, List.getElem?_map]
    by_cases q : j = k
    · subst q; rw [if_pos rfl, if_pos hj, h]; rfl
    · rw [if_neg q]
  refine ⟨fun p hp => ?_, by rw [hk]; exact S.2⟩
  obtain ⟨k, hk1⟩ := List.mem_iff_getElem?.mp hp
  rw [List.getElem?_set] at hk1
  by_cases q : j = k
  · subst q; rw [if_pos rfl, if_pos hj] at hk1; cases hk1; rw [List.getElem?_set, if_pos rfl, if_pos hi]
  · rw [if_neg q] at hk1
    have hne : i ≠ p.1 := fun e => by
      have nd := List.pairwise_iff_getElem.mp S.2
      obtain ⟨hk2, hk3⟩ := List.getElem?_eq_some_iff.mp hk1
      have l1 : j < (D.map (·.1)).length := by simpa using hj
      have l2 : k < (D.map (·.1)).length := by simpa using hk2
      have ee : (D.map (·.1))[j] = (D.map (·.1))[k] := by rw [List.getElem_map, List.getElem_map, he, hk3]; exact e
      rcases Nat.lt_or_gt_of_ne q with g | g
      · exact nd j k l1 l2 g ee
      · exact nd k j l2 l1 g ee.symm
    rw [List.getElem?_set, if_neg hne]
    exact S.get (List.mem_of_getElem? hk1)
/-- a change behind the first part -/
theorem Sat.setR {A B : List (Nat × AO)} (S : Sat H (A ++ B)) (j : Nat) (o' : AO) (h : B[j]? = some (i, o)) : Sat (H.set i o') (A ++ B.set j (i, o')) := by
  have := S.setj (A.length + j) o' (by rw [List.getElem?_append_right (Nat.le_add_right _ _), Nat.add_sub_cancel_left]; exact h)
  rwa [List.set_append_right _ _ (Nat.le_add_right _ _), Nat.add_sub_cancel_left] at this
theorem Sat.getR {A B : List (Nat × AO)} (S : Sat H (A ++ B)) (j : Nat) (h : B[j]? = some (i, o)) : H[i]? = some o := S.get (List.mem_append_right _ (List.mem_of_getElem? h))
theorem Sat.right {A B : List (Nat × AO)} (S : Sat H (A ++ B)) : Sat H B := S.sub (List.sublist_append_right _ _)
theorem Sat.left {A B : List (Nat × AO)} (S : Sat H (A ++ B)) : Sat H A := S.sub (List.sublist_append_left _ _)
theorem Sat.ne {A B : List (Nat × AO)} (S : Sat H (A ++ B)) {p q : Nat × AO} (hp : p ∈ A) (hq : q ∈ B) : p.1 ≠ q.1 := by
  have := S.2
  rw [List.map_append, List.nodup_append] at this
  exact this.2.2 _ (List.mem_map_of_mem hp) _ (List.mem_map_of_mem hq)
end

structure Tr where
  kinds : List String
  spaces : List String
  names : List String
  ar : List Nat
  texts : List String
  parents : List Int
  ch : List (Nat × List Int)
  cont : List (Int × Int)

noncomputable abbrev sV (l : List String) : List AV := l.map .str
noncomputable abbrev iV (l : List Int) : List AV := l.map .int
noncomputable abbrev rV (l : List Nat) : List AV := l.map .ref
noncomputable abbrev chRefs (l : List (Nat × List Int)) : List AV := l.map fun p => .ref p.1
noncomputable abbrev contD (l : List (Int × Int)) : List (Int × AV) := l.map fun p => (p.1, .int p.2)

noncomputable def treeFs (h : Nat) : List (String × AV) := [("kinds", .ref (h + 5)), ("spaces", .ref (h + 6)), ("names", .ref (h + 7)), ("attrs", .ref (h + 8)), ("texts", .ref (h + 9)), ("parents", .ref (h + 10)), ("children", .ref (h + 11)), ("contents", .ref (h + 12))]
noncomputable abbrev arD (l : List Nat) : List (Nat × AO) := l.map fun r => (r, .list [])
noncomputable abbrev chD (l : List (Nat × List Int)) : List (Nat × AO) := l.map fun p => (p.1, .list (iV p.2))
noncomputable def treeF (h : Nat) (T : Tr) : List (Nat × AO) :=
  [(h + 4, .inst "Tree" (h + 3)), (h + 3, .fields (treeFs h)), (h + 5, .list (sV T.kinds)), (h + 6, .list (sV T.spaces)), (h + 7, .list (sV T.names)), (h + 8, .list (rV T.ar)),
  (h + 9, .list (sV T.texts)), (h + 10, .list (iV T.parents)), (h + 11, .list (chRefs T.ch)), (h + 12, .dict (contD T.cont))]
noncomputable def treeD (h : Nat) (T : Tr) : List (Nat × AO) := treeF h T ++ (arD T.ar ++ chD T.ch)
theorem perm_in {α : Type} (p : α) (F A B : List α) : (p :: (F ++ (A ++ B))).Perm (F ++ (A ++ p :: B)) := by
  have := (List.perm_middle (a := p) (l₁ := F ++ A) (l₂ := B)).symm
  simpa using this

section
variable {H : AH} {h : Nat} {T : Tr} {R : List (Nat × AO)}
theorem t_tree (S : Sat H (treeD h T ++ R)) : H[h + 4]? = some (.inst "Tree" (h + 3)) := S.getj 0 rfl
theorem t_fs (S : Sat H (treeD h T ++ R)) : H[h + 3]? = some (.fields (treeFs h)) := S.getj 1 rfl
theorem t_kinds (S : Sat H (treeD h T ++ R)) : H[h + 5]? = some (.list (sV T.kinds)) := S.getj 2 rfl
theorem t_spaces (S : Sat H (treeD h T ++ R)) : H[h + 6]? = some (.list (sV T.spaces)) := S.getj 3 rfl
theorem t_names (S : Sat H (treeD h T ++ R)) : H[h + 7]? = some (.list (sV T.names)) := S.getj 4 rfl
theorem t_attrs (S : Sat H (treeD h T ++ R)) : H[h + 8]? = some (.list (rV T.ar)) := S.getj 5 rfl
theorem t_texts (S : Sat H (treeD h T ++ R)) : H[h + 9]? = some (.list (sV T.texts)) := S.getj 6 rfl
theorem t_parents (S : Sat H (treeD h T ++ R)) : H[h + 10]? = some (.list (iV T.parents)) := S.getj 7 rfl
theorem t_children (S : Sat H (treeD h T ++ R)) : H[h + 11]? = some (.list (chRefs T.ch)) := S.getj 8 rfl
theorem t_contents (S : Sat H (treeD h T ++ R)) : H[h + 12]? = some (.dict (contD T.cont)) := S.getj 9 rfl
theorem t_ch (S : Sat H (treeD h T ++ R)) {j r : Nat} {l : List Int} (hj : T.ch[j]? = some (r, l)) : H[r]? = some (.list (iV l)) := by
  exact S.get (List.mem_append_left _ (List.mem_append_right _ (List.mem_append_right _ (List.mem_map.mpr ⟨_, List.mem_of_getElem? hj, rfl⟩))))
theorem t_ar (S : Sat H (treeD h T ++ R)) {r : Nat} (hj : r ∈ T.ar) : H[r]? = some (.list []) := by
  exact S.get (List.mem_append_left _ (List.mem_append_right _ (List.mem_append_left _ (List.mem_map.mpr ⟨_, hj, rfl⟩))))
theorem attr_of {i di : Nat} {c f : String} {fs : List (String × AV)} {u : AV} (h1 : H[i]? = some (.inst c di)) (h2 : H[di]? = some (.fields fs)) (h3 : f ∈ attrsOf c) (h4 : fs.lookup f = some u) : attrA H (.ref i) f = some u := by
  unfold attrA; simp only [h1, h2]; rw [if_pos h3, h4]
theorem kind_of {i di : Nat} {c f : String} {fs : List (String × AV)} (h1 : H[i]? = some (.inst c di)) (h2 : H[di]? = some (.fields fs)) (h4 : (fs.lookup f).isNone = true) : kindA H (.ref i) f = some (.inst i c) := by
  unfold kindA; simp only [h1, h2]; rw [if_pos h4]
theorem kind_list {i : Nat} {f : String} {vs : List AV} (h1 : H[i]? = some (.list vs)) : kindA H (.ref i) f = some (.list i) := by
  unfold kindA; simp only [h1]
theorem kind_dict {i : Nat} {f : String} {vs : List (Int × AV)} (h1 : H[i]? = some (.dict vs)) : kindA H (.ref i) f = some (.dict i) := by
  unfold kindA; simp only [h1]
theorem a_kinds (S : Sat H (treeD h T ++ R)) : attrA H (.ref (h + 4)) "kinds" = some (.ref (h + 5)) := attr_of (t_tree S) (t_fs S) (by decide) rfl
theorem a_spaces (S : Sat H (treeD h T ++ R)) : attrA H (.ref (h + 4)) "spaces" = some (.ref (h + 6)) := attr_of (t_tree S) (t_fs S) (by decide) rfl
theorem a_names (S : Sat H (treeD h T ++ R)) : attrA H (.ref (h + 4)) "names" = some (.ref (h + 7)) := attr_of (t_tree S) (t_fs S) (by decide) rfl
theorem a_attrs (S : Sat H (treeD h T ++ R)) : attrA H (.ref (h + 4)) "attrs" = some (.ref (h + 8)) := attr_of (t_tree S) (t_fs S) (by decide) rfl
theorem a_texts (S : Sat H (treeD h T ++ R)) : attrA H (.ref (h + 4)) "texts" = some (.ref (h + 9)) := attr_of (t_tree S) (t_fs S) (by decide) rfl
theorem a_parents (S : Sat H (treeD h T ++ R)) : attrA H (.ref (h + 4)) "parents" = some (.ref (h + 10)) := attr_of (t_tree S) (t_fs S) (by decide) rfl
theorem a_children (S : Sat H (treeD h T ++ R)) : attrA H (.ref (h + 4)) "children" = some (.ref (h + 11)) := attr_of (t_tree S) (t_fs S) (by decide) rfl
theorem a_contents (S : Sat H (treeD h T ++ R)) : attrA H (.ref (h + 4)) "contents" = some (.ref (h + 12)) := attr_of (t_tree S) (t_fs S) (by decide) rfl
theorem k_tree (S : Sat H (treeD h T ++ R)) {f : String} (hf : ((treeFs 0).lookup f).isNone = true) : kindA H (.ref (h + 4)) f = some (.inst (h + 4) "Tree") := by
  refine kind_of (t_tree S) (t_fs S) ?_
  have e : ∀ h, ((treeFs h).lookup f).isNone = ((treeFs 0).lookup f).isNone := fun h => by
    unfold treeFs
    simp only [List.lookup_cons]
    repeat' split
    all_goals rfl
  rw [e]; exact hf
theorem s_kinds (S : Sat H (treeD h T ++ R)) (l : List String) : Sat (H.set (h + 5) (.list (sV l))) (treeD h { T with kinds := l } ++ R) := S.setj 2 (.list (sV l)) rfl
theorem s_spaces (S : Sat H (treeD h T ++ R)) (l : List String) : Sat (H.set (h + 6) (.list (sV l))) (treeD h { T with spaces := l } ++ R) := S.setj 3 (.list (sV l)) rfl
theorem s_names (S : Sat H (treeD h T ++ R)) (l : List String) : Sat (H.set (h + 7) (.list (sV l))) (treeD h { T with names := l } ++ R) := S.setj 4 (.list (sV l)) rfl
theorem s_texts (S : Sat H (treeD h T ++ R)) (l : List String) : Sat (H.set (h + 9) (.list (sV l))) (treeD h { T with texts := l } ++ R) := S.setj 6 (.list (sV l)) rfl
theorem s_parents (S : Sat H (treeD h T ++ R)) (l : List Int) : Sat (H.set (h + 10) (.list (iV l))) (treeD h { T with parents := l } ++ R) := S.setj 7 (.list (iV l)) rfl
theorem s_contents (S : Sat H (treeD h T ++ R)) (l : List (Int × Int)) : Sat (H.set (h + 12) (.dict (contD l))) (treeD h { T with cont := l } ++ R) := S.setj 9 (.dict (contD l)) rfl
theorem s_ch (S : Sat H (treeD h T ++ R)) {j r : Nat} {l l' : List Int} (hj : T.ch[j]? = some (r, l)) : Sat (H.set r (.list (iV l'))) (treeD h { T with ch := T.ch.set j (r, l') } ++ R) := by
  have hl := (List.getElem?_eq_some_iff.mp hj).1
  have e1 : chRefs (T.ch.set j (r, l')) = chRefs T.ch := by
    apply List.ext_getElem?
    intro k
    rw [List.getElem?_map, List.getElem?_set, List.getElem?_map]
    by_cases q : j = k
    · subst q; rw [if_pos rfl, if_pos hl, hj]; rfl
    · rw [if_neg q]
  have e2 : chD (T.ch.set j (r, l')) = (chD T.ch).set j (r, .list (iV l')) := List.map_set (f := fun p : Nat × List Int => (p.1, AO.list (iV p.2))) ..
  have S0 : Sat H (treeF h T ++ (arD T.ar ++ (chD T.ch ++ R))) := by
    have := S; unfold treeD at this; rwa [List.append_assoc, List.append_assoc] at this
  rw [← List.append_assoc] at S0
  have S1 := S0.setR j (.list (iV l')) (i := r) (o := .list (iV l)) (by
    rw [List.getElem?_append_left (by simpa using hl), List.getElem?_map, hj]; rfl)
  rw [List.set_append_left _ _ (by simpa using hl), ← e2] at S1
  have e3 : treeF h T = treeF h { T with ch := T.ch.set j (r, l') } := by unfold treeF; dsimp only; rw [e1]
  rw [e3, List.append_assoc, ← List.append_assoc (arD T.ar), ← List.append_assoc] at S1
  exact S1
/-- the two lists of a new node -/
theorem s_ar (S : Sat H (treeD h T ++ R)) : Sat ((H ++ [AO.list []]).set (h + 8) (.list (rV (T.ar ++ [H.length])))) (treeD h { T with ar := T.ar ++ [H.length] } ++ R) := by
  have S1 : Sat ((H ++ [AO.list []]).set (h + 8) (.list (rV (T.ar ++ [H.length])))) ((H.length, AO.list []) :: ((treeF h { T with ar := T.ar ++ [H.length] } ++ (arD T.ar ++ chD T.ch)) ++ R)) :=
    (S.push (AO.list [])).setj 6 (AO.list (rV (T.ar ++ [H.length]))) (i := h + 8) (o := .list (rV T.ar)) rfl
  rw [List.append_assoc, List.append_assoc] at S1
  have S2 := S1.perm (perm_in _ _ _ _)
  have e : treeF h { T with ar := T.ar ++ [H.length] } ++ (arD T.ar ++ (H.length, AO.list []) :: (chD T.ch ++ R)) = treeD h { T with ar := T.ar ++ [H.length] } ++ R := by
    unfold treeD arD
    simp only [List.append_assoc, List.map_append, List.map_cons, List.map_nil, List.cons_append, List.nil_append]
  rwa [e] at S2
theorem s_chn (S : Sat H (treeD h T ++ R)) : Sat ((H ++ [AO.list []]).set (h + 11) (.list (chRefs (T.ch ++ [(H.length, [])])))) (treeD h { T with ch := T.ch ++ [(H.length, [])] } ++ R) := by
  have S1 : Sat ((H ++ [AO.list []]).set (h + 11) (.list (chRefs (T.ch ++ [(H.length, [])])))) ((H.length, AO.list []) :: ((treeF h { T with ch := T.ch ++ [(H.length, [])] } ++ (arD T.ar ++ chD T.ch)) ++ R)) :=
    (S.push (AO.list [])).setj 9 (AO.list (chRefs (T.ch ++ [(H.length, [])]))) (i := h + 11) (o := .list (chRefs T.ch)) rfl
  rw [List.append_assoc] at S1
  have S2 := S1.perm (perm_in _ _ _ _)
  have e : treeF h { T with ch := T.ch ++ [(H.length, [])] } ++ ((arD T.ar ++ chD T.ch) ++ (H.length, AO.list []) :: R) = treeD h { T with ch := T.ch ++ [(H.length, [])] } ++ R := by
    unfold treeD chD
    simp only [List.append_assoc, List.map_append, List.map_cons, List.map_nil, List.cons_append, List.nil_append]
  rwa [e] at S2
end
end Mine
end
section
set_option maxRecDepth 100000
namespace Mine

theorem lim_ge : 100000 ≤ lim := by decide
theorem lim_1 : (1 ≤ lim) = True := eq_true (by decide)
theorem lim_2 : (2 ≤ lim) = True := eq_true (by decide)
theorem lim_3 : (3 ≤ lim) = True := eq_true (by decide)
theorem lim_4 : (4 ≤ lim) = True := eq_true (by decide)
theorem lim_5 : (5 ≤ lim) = True := eq_true (by decide)
theorem lim_6 : (6 ≤ lim) = True := eq_true (by decide)
theorem lim_8 : (8 ≤ lim) = True := eq_true (by decide)
theorem lim_11 : (11 ≤ lim) = True := eq_true (by decide)
theorem resA_ret {v : AV} : resA (.ret v) = v := rfl
theorem resA_next : resA .next = .none := rfl
theorem tr_bool {H : AH} {b : Bool} : truthyA H (.bool b) = some b := rfl
section
variable {H : AH} {x y : Int} {s t : String}
theorem cmp_eq_i : cmpA H .Eq (.int x) (.int y) = some (decide (x = y)) := rfl
theorem cmp_ne_i : cmpA H .NotEq (.int x) (.int y) = some (!decide (x = y)) := rfl
theorem cmp_eq_s : cmpA H .Eq (.str s) (.str t) = some (decide (s = t)) := rfl
theorem cmp_ne_s : cmpA H .NotEq (.str s) (.str t) = some (!decide (s = t)) := rfl
theorem cmp_lt : cmpA H .Lt (.int x) (.int y) = some (decide (x < y)) := rfl
theorem cmp_gt : cmpA H .Gt (.int x) (.int y) = some (decide (x > y)) := rfl
theorem bin_add : binA H .Add (.int x) (.int y) = some (.int (x + y), H) := rfl
theorem bin_sub : binA H .Sub (.int x) (.int y) = some (.int (x - y), H) := rfl

theorem idx_ok {n : Nat} (h0 : 0 ≤ x) (h1 : x < n) (h2 : n ≤ lim) : idx? x n = some x.toNat := by
  unfold idx?; rw [if_pos h2, if_pos h0, if_pos h1]
noncomputable def gs (l : List String) (x : Int) : String := l.getD x.toNat ""
noncomputable def gi (l : List Int) (x : Int) : Int := l.getD x.toNat (-1)
noncomputable def gr (l : List (Nat × List Int)) (x : Int) : Nat := (l.getD x.toNat (0, [])).1
noncomputable def gc (l : List (Nat × List Int)) (x : Int) : List Int := (l.getD x.toNat (0, [])).2
theorem toNat_lt {n : Nat} (h0 : 0 ≤ x) (h1 : x < n) : x.toNat < n := by lia
theorem sub_s {a : Nat} {l : List String} (h : H[a]? = some (.list (sV l))) (h0 : 0 ≤ x) (h1 : x < l.length) (h2 : l.length ≤ lim) : subA H (.ref a) (.int x) = some (.str (gs l x)) := by
  have e : (sV l).length = l.length := List.length_map ..
  unfold subA; simp only [h]
  rw [e, idx_ok h0 h1 h2, Option.bind_some, List.getElem?_map, List.getElem?_eq_getElem (toNat_lt h0 h1)]
  unfold gs; rw [List.getD_eq_getElem?_getD, List.getElem?_eq_getElem (toNat_lt h0 h1)]; rfl
theorem sub_i {a : Nat} {l : List Int} (h : H[a]? = some (.list (iV l))) (h0 : 0 ≤ x) (h1 : x < l.length) (h2 : l.length ≤ lim) : subA H (.ref a) (.int x) = some (.int (gi l x)) := by
  have e : (iV l).length = l.length := List.length_map ..
  unfold subA; simp only [h]
  rw [e, idx_ok h0 h1 h2, Option.bind_some, List.getElem?_map, List.getElem?_eq_getElem (toNat_lt h0 h1)]
  unfold gi; rw [List.getD_eq_getElem?_getD, List.getElem?_eq_getElem (toNat_lt h0 h1)]; rfl
theorem sub_c {a : Nat} {l : List (Nat × List Int)} (h : H[a]? = some (.list (chRefs l))) (h0 : 0 ≤ x) (h1 : x < l.length) (h2 : l.length ≤ lim) : subA H (.ref a) (.int x) = some (.ref (gr l x)) := by
  have e : (chRefs l).length = l.length := List.length_map ..
  unfold subA; simp only [h]
  rw [e, idx_ok h0 h1 h2, Option.bind_some, List.getElem?_map, List.getElem?_eq_getElem (toNat_lt h0 h1)]
  unfold gr; rw [List.getD_eq_getElem?_getD, List.getElem?_eq_getElem (toNat_lt h0 h1)]; rfl
/-- the last -/
theorem sub_last {a : Nat} {l : List Int} (h : H[a]? = some (.list (iV l))) (h1 : 0 < l.length) (h2 : l.length ≤ lim) : subA H (.ref a) (.int (-1)) = some (.int (gi l (l.length - 1 : Int))) := by
  have e : (iV l).length = l.length := List.length_map ..
  unfold subA; simp only [h]
  rw [e]
  unfold idx?; rw [if_pos h2, if_neg (by lia), if_pos (by lia), Option.bind_some, List.getElem?_map, List.getElem?_eq_getElem (by lia)]
  unfold gi; rw [List.getD_eq_getElem?_getD]
  have q : ((-1 : Int) + l.length).toNat = ((l.length : Int) - 1).toNat := by lia
  rw [← q, List.getElem?_eq_getElem (by lia)]; rfl
theorem len_l {a : Nat} {vs : List AV} (h : H[a]? = some (.list vs)) (h2 : vs.length ≤ lim) : lenA H (.ref a) = some (vs.length : Int) := by
  unfold lenA; simp only [h]; rw [if_pos h2]
theorem tr_list {a : Nat} {vs : List AV} (h : H[a]? = some (.list vs)) (h2 : vs.length ≤ lim) : truthyA H (.ref a) = some (!vs.isEmpty) := by
  unfold truthyA; simp only [h]; rw [if_pos h2]
theorem ap_l {a : Nat} {vs : List AV} {v : AV} (h : H[a]? = some (.list vs)) (h2 : vs.length ≤ lim) : methL H a "append" [v] = some (.none, H.set a (.list (vs ++ [v]))) := by
  unfold methL methA; simp only [h]; rw [if_pos h2]
theorem allInts_iV (l : List Int) : allInts (iV l) = some l := by
  induction l with
  | nil => rfl
  | cons a r ih => show (allInts (iV r)).map (a :: ·) = _; rw [ih]; rfl
theorem allStrs_sV (l : List String) : allStrs (sV l) = some l := by
  induction l with
  | nil => rfl
  | cons a r ih => show (allStrs (sV r)).map (a :: ·) = _; rw [ih]; rfl
theorem cmp_in_l {a : Nat} {l : List Int} (h : H[a]? = some (.list (iV l))) : cmpA H .In (.int x) (.ref a) = some (l.contains x) := by
  unfold cmpA ainA; simp only [h, allInts_iV, Option.map_some]
theorem cmp_nin_l {a : Nat} {l : List Int} (h : H[a]? = some (.list (iV l))) : cmpA H .NotIn (.int x) (.ref a) = some (!l.contains x) := by
  unfold cmpA ainA; simp only [h, allInts_iV, Option.map_some]
noncomputable def hasK (l : List (Int × Int)) (x : Int) : Bool := l.any (·.1 == x)
theorem cmp_in_d {a : Nat} {l : List (Int × Int)} (h : H[a]? = some (.dict (contD l))) : cmpA H .In (.int x) (.ref a) = some (hasK l x) := by
  unfold cmpA ainA hasK; simp only [h, List.any_map]; rfl
noncomputable def isPart (s : String) : Bool := ["table", "tbody", "tfoot", "thead", "tr"].contains s
theorem cmp_part : cmpA H .In (.str s) (.tup [.str "table", .str "tbody", .str "tfoot", .str "thead", .str "tr"]) = some (isPart s) := rfl
end

/-- the lists' sizes -/
structure Ln (B : Nat) (T : Tr) : Prop where
  spaces : T.spaces.length = T.kinds.length
  names : T.names.length = T.kinds.length
  ar : T.ar.length = T.kinds.length
  texts : T.texts.length = T.kinds.length
  parents : T.parents.length = T.kinds.length
  ch : T.ch.length = T.kinds.length
  le : T.kinds.length ≤ B
  cle : ∀ p ∈ T.ch, p.2.length ≤ B
  tle : ∀ t ∈ T.texts, t.length ≤ B
  hB : B ≤ 1000
theorem Ln.lim {B : Nat} {T : Tr} (L : Ln B T) : T.kinds.length + 1000 ≤ lim := by have := lim_ge; have := L.le; have := L.hB; lia
noncomputable abbrev Ok (T : Tr) (x : Int) : Prop := 0 ≤ x ∧ x < T.kinds.length

section
variable {H : AH} {h : Nat} {T : Tr} {R : List (Nat × AO)} {Q : AV → AH → Prop} {d B : Nat} {x y : Int}
theorem g_kinds (S : Sat H (treeD h T ++ R)) (L : Ln B T) (o : Ok T x) : subA H (.ref (h + 5)) (.int x) = some (.str (gs T.kinds x)) := sub_s (t_kinds S) o.1 o.2 (by have := L.lim; lia)
theorem g_spaces (S : Sat H (treeD h T ++ R)) (L : Ln B T) (o : Ok T x) : subA H (.ref (h + 6)) (.int x) = some (.str (gs T.spaces x)) := sub_s (t_spaces S) o.1 (by rw [L.spaces]; exact o.2) (by have := L.lim; have := L.spaces; lia)
theorem g_names (S : Sat H (treeD h T ++ R)) (L : Ln B T) (o : Ok T x) : subA H (.ref (h + 7)) (.int x) = some (.str (gs T.names x)) := sub_s (t_names S) o.1 (by rw [L.names]; exact o.2) (by have := L.lim; have := L.names; lia)
theorem g_texts (S : Sat H (treeD h T ++ R)) (L : Ln B T) (o : Ok T x) : subA H (.ref (h + 9)) (.int x) = some (.str (gs T.texts x)) := sub_s (t_texts S) o.1 (by rw [L.texts]; exact o.2) (by have := L.lim; have := L.texts; lia)
theorem g_parents (S : Sat H (treeD h T ++ R)) (L : Ln B T) (o : Ok T x) : subA H (.ref (h + 10)) (.int x) = some (.int (gi T.parents x)) := sub_i (t_parents S) o.1 (by rw [L.parents]; exact o.2) (by have := L.lim; have := L.parents; lia)
theorem g_children (S : Sat H (treeD h T ++ R)) (L : Ln B T) (o : Ok T x) : subA H (.ref (h + 11)) (.int x) = some (.ref (gr T.ch x)) := sub_c (t_children S) o.1 (by rw [L.ch]; exact o.2) (by have := L.lim; have := L.ch; lia)
theorem at_ch (L : Ln B T) (o : Ok T x) : T.ch[x.toNat]? = some (gr T.ch x, gc T.ch x) := by
  have : x.toNat < T.ch.length := by rw [L.ch]; exact toNat_lt o.1 o.2
  rw [List.getElem?_eq_getElem this]
  unfold gr gc
  rw [List.getD_eq_getElem?_getD, List.getElem?_eq_getElem this]; rfl
theorem g_ch (S : Sat H (treeD h T ++ R)) (L : Ln B T) (o : Ok T x) : H[gr T.ch x]? = some (.list (iV (gc T.ch x))) := t_ch S (at_ch L o)

noncomputable def isHtml (T : Tr) (x : Int) (s : String) : Bool := decide (gs T.spaces x = "html") && decide (gs T.names x = s)

theorem c_is_html {s : String} (S : Sat H (treeD h T ++ R)) (L : Ln B T) (o : Ok T x) (q : Q (.bool (isHtml T x s)) H) : WC (d + 1) f_Tree_is_html [.ref (h + 4), .int x, .str s] H Q := by
  refine wc_of (ρ := [("name", .str s), ("node", .int x), ("self", .ref (h + 4))]) rfl ?_
  unfold f_Tree_is_html
  dsimp only
  ((with_reducible refine sc ?_))
  have ne : x ≠ -1 := by have := o.1; lia
  ((with_reducible refine bs_ret (be_and (bb_cons (be_cmp ?_)))); refine bvar rfl ?_; (with_reducible refine bkc1_eq (be_neg1 ?_)); (with_reducible refine bcmp cmp_ne_i ?_); (with_reducible refine bkCmp3_eq (bkB1 ?_)); simp only [Int.reduceNeg, decide_false, Bool.not_false, a_spaces S, a_names S, g_spaces S L o, g_names S L o, ne]; (with_reducible refine bkB2_tt (bb_cons (be_cmp (be_sub (be_attr ?_))))); refine bvar rfl ?_; (with_reducible refine battr (a_spaces S) ?_); (with_reducible refine bkSub1_eq ?_); refine bvar rfl ?_; (with_reducible refine bsub2 (g_spaces S L o) ?_); (with_reducible refine bkc1_eq (bwE_str ?_)); (with_reducible refine bcmp cmp_eq_s ?_); (with_reducible refine bkCmp3_eq (bkB1 ?_)); simp only [String.reduceBEq, BEq.rfl, opt_some, List.lookup_cons, cmp_eq_s, decide_eq_true_eq, decide_eq_false_iff_not, cont_ret, kv_eq, e_var, e_attr, kAttr_eq, e_sub, kSub1_eq, kSub2_eq, e_cmp, kc1_eq, kc2_eq, kCmp3_eq, b_one, kB2_t, kRet_eq, kFn_r, a_spaces S, a_names S, g_spaces S L o, g_names S L o])
  unfold isHtml at q
  by_cases hs : gs T.spaces x = "html"
  · rw [decide_eq_true hs] at q
    simp [hs] at q ⊢
    exact q
  · simp [hs] at q ⊢
    exact q

theorem c_is_table_part {s : String} (q : Q (.bool (isPart s)) H) : WC (d + 1) f_is_table_part [.str s] H Q := by
  refine wc_of (ρ := [("name", .str s)]) rfl ?_
  unfold f_is_table_part
  dsimp only
  ((with_reducible refine sc ?_))
  ((with_reducible refine bs_ret (be_cmp ?_)); refine bvar rfl ?_; (with_reducible refine bkc1_eq (be_tup (bes_cons (bwE_str (bkEs1_cons (bwE_str (bkEs1_cons (bwE_str (bkEs1_cons (bwE_str (bkEs1_cons (bwE_str (bkEs1_nil (bkEs2_eq (bkEs2_eq (bkEs2_eq (bkEs2_eq (bkTup_5 ?_)))))))))))))))))); (with_reducible refine bcmp (cmp_part) ?_); (with_reducible refine bkCmp3_eq (bkRet_c (bkFn_r ?_))))
  exact q

theorem gc_le (L : Ln B T) (o : Ok T x) : (gc T.ch x).length ≤ B := L.cle (gr T.ch x, gc T.ch x) (List.mem_of_getElem? (at_ch L o))
theorem gc_lim (L : Ln B T) (o : Ok T x) : (iV (gc T.ch x)).length ≤ lim := by
  rw [List.length_map]; have := gc_le L o; have := L.hB; have := lim_ge; lia
noncomputable def lastOf (l : List Int) : Int := if l.isEmpty then -1 else gi l (l.length - 1 : Int)
theorem c_last (S : Sat H (treeD h T ++ R)) (L : Ln B T) (o : Ok T x) (q : Q (.int (lastOf (gc T.ch x))) H) : WC (d + 1) f_Tree_last [.ref (h + 4), .int x] H Q := by
  refine wc_of (ρ := [("parent", .int x), ("self", .ref (h + 4))]) rfl ?_
  unfold f_Tree_last
  dsimp only
  ((with_reducible refine sc ?_))
  have e : (iV (gc T.ch x)).isEmpty = (gc T.ch x).isEmpty := by cases gc T.ch x <;> rfl
  ((with_reducible refine bs_ifs (bt_not (bt_sub (be_sub (be_attr ?_))))); refine bvar rfl ?_; (with_reducible refine battr (a_children S) ?_); (with_reducible refine bkSub1_eq ?_); refine bvar rfl ?_; (with_reducible refine bsub2 (g_children S L o) ?_); (with_reducible refine btr (tr_list (g_ch S L o) (gc_lim L o)) ?_); (with_reducible refine bkTn_eq ?_); simp only [a_children S, g_children S L o, tr_list (g_ch S L o) (gc_lim L o), e]; simp only [cont_next, wSs_nil, kIf_eq, a_children S, g_children S L o, tr_list (g_ch S L o) (gc_lim L o)])
  unfold lastOf at q
  by_cases hs : (gc T.ch x).isEmpty = true
  · rw [if_pos hs] at q
    refine ⟨fun _ => ?_, fun hh => absurd hs (by simpa using hh)⟩
    ((with_reducible refine sc ?_))
    ((with_reducible refine bs_ret (be_neg1 (bkRet_c (bcont_ret (bkFn_r ?_))))))
    exact q
  · rw [if_neg hs] at q
    refine ⟨fun hh => absurd hh (by simpa using hs), fun _ => ?_⟩
    ((with_reducible refine sc ?_))
    have hl : 0 < (gc T.ch x).length := by
      cases hg : gc T.ch x with
      | nil => rw [hg] at hs; exact absurd rfl hs
      | cons a r => simp
    ((with_reducible refine bs_ret (be_sub (be_sub (be_attr ?_)))); refine bvar rfl ?_; (with_reducible refine battr (a_children S) ?_); (with_reducible refine bkSub1_eq ?_); refine bvar rfl ?_; (with_reducible refine bsub2 (g_children S L o) ?_); (with_reducible refine bkSub1_eq (be_neg1 ?_)); (with_reducible refine bsub2 (sub_last (g_ch S L o) hl (by have := gc_lim L o; rwa [List.length_map] at this)) ?_); (with_reducible refine bkRet_c (bkFn_r ?_)))
    exact q

theorem idx_l {a : Nat} {l : List Int} (h : H[a]? = some (.list (iV l))) (hx : x ∈ l) (h2 : l.length ≤ lim) : methL H a "index" [.int x] = some (.int (l.idxOf x), H) := by
  unfold methL methA; simp only [h, allInts_iV]; rw [if_pos ⟨hx, by rw [List.length_map]; exact h2⟩]
theorem c_place (S : Sat H (treeD h T ++ R)) (L : Ln B T) (o : Ok T x) {p : Int} (hp : gi T.parents x = p) (op : Ok T p) (hm : x ∈ gc T.ch p) (q : Q (.int ((gc T.ch p).idxOf x)) H) : WC (d + 1) f_Tree_place [.ref (h + 4), .int x] H Q := by
  refine wc_of (ρ := [("node", .int x), ("self", .ref (h + 4))]) rfl ?_
  unfold f_Tree_place
  dsimp only
  ((with_reducible refine sc ?_))
  have ne : p ≠ -1 := by have := op.1; lia
  ((with_reducible refine bs_ifs (bt_cmp (be_sub (be_attr ?_)))); refine bvar rfl ?_; (with_reducible refine battr (a_parents S) ?_); (with_reducible refine bkSub1_eq ?_); refine bvar rfl ?_; (with_reducible refine bsub2 (g_parents S L o) ?_); (with_reducible refine bkc1_eq (be_neg1 ?_)); (with_reducible refine bcmp cmp_eq_i ?_); simp only [Int.reduceNeg, decide_false, a_parents S, g_parents S L o, hp, ne]; (with_reducible refine bkIf_f (bwSs_nil (bcont_next ?_))))
  ((with_reducible refine sc ?_))
  ((with_reducible refine bs_ret (be_meth (be_sub (be_attr ?_)))); refine bvar rfl ?_; (with_reducible refine battr (a_children S) ?_); (with_reducible refine bkSub1_eq (be_sub (be_attr ?_))); refine bvar rfl ?_; (with_reducible refine battr (a_parents S) ?_); (with_reducible refine bkSub1_eq ?_); refine bvar rfl ?_; (with_reducible refine bsub2 (g_parents S L o) ?_); simp only [a_parents S, a_children S, g_parents S L o, hp, g_children S L op, kind_list (g_ch S L op), idx_l (g_ch S L op) hm (by have := gc_lim L op; rwa [List.length_map] at this)]; (with_reducible refine bsub2 (g_children S L op) ?_); (with_reducible refine bkl (kind_list (g_ch S L op)) rfl ?_); (with_reducible refine bes_cons ?_); refine bvar rfl ?_; (with_reducible refine bkEs1_nil ?_); (with_reducible refine bml (idx_l (g_ch S L op) hm (by have := gc_lim L op; rwa [List.length_map] at this)) ?_); (with_reducible refine bkRet_c (bkFn_r ?_)))
  exact q

theorem c_remove (S : Sat H (treeD h T ++ R)) (L : Ln B T) (o : Ok T x) (hp : gi T.parents x = -1) (q : Q .none H) : WC (d + 1) f_Tree_remove [.ref (h + 4), .int x] H Q := by
  refine wc_of (ρ := [("node", .int x), ("self", .ref (h + 4))]) rfl ?_
  unfold f_Tree_remove
  dsimp only
  ((with_reducible refine sc ?_))
  ((with_reducible refine bs_ifs (bt_cmp (be_sub (be_attr ?_)))); refine bvar rfl ?_; (with_reducible refine battr (a_parents S) ?_); (with_reducible refine bkSub1_eq ?_); refine bvar rfl ?_; (with_reducible refine bsub2 (g_parents S L o) ?_); (with_reducible refine bkc1_eq (be_neg1 ?_)); (with_reducible refine bcmp cmp_ne_i ?_); simp only [Int.reduceNeg, decide_true, Bool.not_true, eq_self, a_parents S, g_parents S L o, hp]; (with_reducible refine bkIf_f (bwSs_nil (bcont_next (bwSs_nil (bkFn_n ?_))))))
  exact q

theorem Sat.pushR {A : List (Nat × AO)} (S : Sat H (A ++ R)) (o : AO) : Sat (H ++ [o]) (A ++ (H.length, o) :: R) := (S.push o).perm List.perm_middle.symm
theorem app_s {a : Nat} {l : List String} {s : String} (h : H[a]? = some (.list (sV l))) (h2 : l.length ≤ lim) : methL H a "append" [.str s] = some (.none, H.set a (.list (sV (l ++ [s])))) := by
  rw [ap_l h (by rw [List.length_map]; exact h2)]; simp only [List.map_append, List.map_cons, List.map_nil]
theorem app_i {a : Nat} {l : List Int} {s : Int} (h : H[a]? = some (.list (iV l))) (h2 : l.length ≤ lim) : methL H a "append" [.int s] = some (.none, H.set a (.list (iV (l ++ [s])))) := by
  rw [ap_l h (by rw [List.length_map]; exact h2)]; simp only [List.map_append, List.map_cons, List.map_nil]
theorem app_r {a : Nat} {l : List Nat} {s : Nat} (h : H[a]? = some (.list (rV l))) (h2 : l.length ≤ lim) : methL H a "append" [.ref s] = some (.none, H.set a (.list (rV (l ++ [s])))) := by
  rw [ap_l h (by rw [List.length_map]; exact h2)]; simp only [List.map_append, List.map_cons, List.map_nil]
theorem app_c {a : Nat} {l : List (Nat × List Int)} {s : Nat} {m : List Int} (h : H[a]? = some (.list (chRefs l))) (h2 : l.length ≤ lim) : methL H a "append" [.ref s] = some (.none, H.set a (.list (chRefs (l ++ [(s, m)])))) := by
  rw [ap_l h (by rw [List.length_map]; exact h2)]; simp only [List.map_append, List.map_cons, List.map_nil]

/-- parents lie ahead -/
noncomputable def Par (T : Tr) : Prop := ∀ i, Ok T i → gi T.parents i = -1 ∨ (0 ≤ gi T.parents i ∧ gi T.parents i < i)
theorem above_loop (L : Ln B T) (P : Par T) {r : Nat} {Q : AF → AE → AH → Prop} {top : Int} (ot : top ≤ T.kinds.length) (hq : ∀ (ρ' : AE) H' l', ρ'.lookup "out" = some (.ref r) → Sat H' (treeD h T ++ (r, .list (iV l')) :: R) → (∀ y ∈ l', 0 ≤ y ∧ y < top) → Q .next ρ' H') :
    ∀ (n : Nat) (up : Int) (l : List Int) (ρ : AE) H, up + 1 ≤ n → (up = -1 ∨ (0 ≤ up ∧ up < top)) → l.length + n ≤ 100000 → ρ.lookup "out" = some (.ref r) → ρ.lookup "up" = some (.int up) → ρ.lookup "tree" = some (.ref (h + 4)) →
      Sat H (treeD h T ++ (r, .list (iV l)) :: R) → (∀ y ∈ l, 0 ≤ y ∧ y < top) →
      XWh d (.cmp .NotEq (.var "up") (.neg (.int 1))) (.cons (.expr (.meth (.var "out") "append" (.cons (.var "up") .nil))) (.cons (.assign "up" (.sub (.attr (.var "tree") "parents") (.var "up"))) .nil)) (n + 1) ρ H Q := by
  intro n
  induction n with
  | zero =>
    intro up l ρ H hn hu hl h1 h2 h3 S hy
    have e : up = -1 := by lia
    subst e
    refine wh_of ?_
    ((with_reducible refine bt_cmp ?_); (with_reducible refine bvar (by assumption) ?_); (with_reducible refine bkc1_eq (be_neg1 ?_)); (with_reducible refine bcmp cmp_ne_i ?_); simp only [Int.reduceNeg, decide_true, Bool.not_true, eq_self]; (with_reducible refine bkWt_f ?_))
    exact hq ρ H l h1 S hy
  | succ n ih =>
    intro up l ρ H hn hu hl h1 h2 h3 S hy
    rcases hu with e | ⟨u0, u1⟩
    · subst e
      refine wh_of ?_
      ((with_reducible refine bt_cmp ?_); (with_reducible refine bvar (by assumption) ?_); (with_reducible refine bkc1_eq (be_neg1 ?_)); (with_reducible refine bcmp cmp_ne_i ?_); simp only [Int.reduceNeg, decide_true, Bool.not_true, eq_self]; (with_reducible refine bkWt_f ?_))
      exact hq ρ H l h1 S hy
    · have ou : Ok T up := ⟨u0, by lia⟩
      have ne : up ≠ -1 := by lia
      refine wh_of ?_
      ((with_reducible refine bt_cmp ?_); (with_reducible refine bvar (by assumption) ?_); (with_reducible refine bkc1_eq (be_neg1 ?_)); (with_reducible refine bcmp cmp_ne_i ?_); simp only [Int.reduceNeg, decide_false, Bool.not_false, ne]; (with_reducible refine bkWt_t ?_))
      ((with_reducible refine sc ?_))
      have ho := S.getR 0 rfl
      ((with_reducible refine bs_expr (be_meth ?_)); (with_reducible refine bvar (by assumption) ?_); (with_reducible refine bkl (kind_list ho) rfl ?_); (with_reducible refine bes_cons ?_); (with_reducible refine bvar (by assumption) ?_); (with_reducible refine bkEs1_nil ?_); (with_reducible refine bml (app_i ho (by have := lim_ge; lia)) ?_); (with_reducible refine bkEx_n (bcont_next ?_)))
      have S1 : Sat (H.set r (.list (iV (l ++ [up])))) (treeD h T ++ (r, .list (iV (l ++ [up]))) :: R) := S.setR 0 (.list (iV (l ++ [up]))) rfl
      ((with_reducible refine sc ?_))
      ((with_reducible refine bs_assign (be_sub (be_attr ?_))); (with_reducible refine bvar (by assumption) ?_); (with_reducible refine battr (a_parents S1) ?_); (with_reducible refine bkSub1_eq ?_); (with_reducible refine bvar (by assumption) ?_); (with_reducible refine bsub2 (g_parents S1 L ou) ?_); (with_reducible refine bkAs_c (bwSs_nil (bkWh_n ?_))); simp only [setE, a_parents S1, g_parents S1 L ou])
      refine ih (gi T.parents up) (l ++ [up]) _ _ ?_ ?_ ?_ ?_ ?_ ?_ S1 ?_
      · rcases P up ou with e | e <;> lia
      · rcases P up ou with e | e
        · exact .inl e
        · exact .inr ⟨e.1, by lia⟩
      · rw [List.length_append, List.length_singleton]; lia
      · (simp only [String.reduceBEq, List.lookup_cons, eq_self, h1])
      · (simp only [BEq.rfl, List.lookup_cons, eq_self])
      · (simp only [String.reduceBEq, List.lookup_cons, eq_self, h3])
      · intro y hy'
        rcases List.mem_append.mp hy' with m | m
        · exact hy y m
        · rw [List.mem_singleton.mp m]; exact ⟨u0, u1⟩
theorem c_above (S : Sat H (treeD h T ++ R)) (L : Ln B T) (P : Par T) (o : Ok T x) (q : ∀ H' r l, Sat H' (treeD h T ++ R) → H'[r]? = some (.list (iV l)) → (∀ y ∈ l, 0 ≤ y ∧ y < x) → Q (.ref r) H') : WC (d + 1) f_above [.ref (h + 4), .int x] H Q := by
  refine wc_of (ρ := [("node", .int x), ("tree", .ref (h + 4))]) rfl ?_
  unfold f_above
  dsimp only
  ((with_reducible refine sc ?_))
  ((with_reducible refine bs_assign (be_lst (bes_nil (bkLst_0 (bkAs_c ?_))))); simp only [setE])
  ((with_reducible refine sc ?_))
  have S1 := S.pushR (.list [])
  ((with_reducible refine bs_assign (be_sub (be_attr ?_))); refine bvar rfl ?_; (with_reducible refine battr (a_parents S1) ?_); (with_reducible refine bkSub1_eq ?_); refine bvar rfl ?_; (with_reducible refine bsub2 (g_parents S1 L o) ?_); (with_reducible refine bkAs_c ?_); simp only [setE, a_parents S1, g_parents S1 L o])
  ((with_reducible refine sc ?_))
  ((with_reducible refine bs_while ?_))
  have hp := P x o
  have := L.le
  have := L.hB
  have := o.2
  have := o.1
  refine ⟨2001, above_loop (R := R) (T := T) (h := h) (r := H.length) (top := x) L P (by lia) (fun ρ' H' l' h1 S' hy => ?_) 2000 (gi T.parents x) [] _ _ (by lia) (by rcases hp with e | e; exact .inl e; exact .inr e) (by simp) (by simp only [String.reduceBEq, BEq.rfl, List.lookup_cons, eq_self]) (by simp only [BEq.rfl, List.lookup_cons, eq_self]) (by simp only [String.reduceBEq, BEq.rfl, List.lookup_cons, eq_self]) S1 (fun y hy => by cases hy)⟩
  ((with_reducible refine bcont_next ?_))
  ((with_reducible refine sc ?_))
  ((with_reducible refine bs_ret ?_); (with_reducible refine bvar (by assumption) ?_); (with_reducible refine bkRet_c (bkFn_r ?_)))
  refine q H' H.length l' (S'.sub ?_) (S'.getR 0 rfl) hy
  exact List.Sublist.append_left (List.sublist_cons_self _ _) _
end
end Mine
end
section
set_option maxRecDepth 100000
namespace Mine

noncomputable def insPos (l : List Int) (before : Int) : Nat := if before = -1 then l.length else l.idxOf before
/-- a fresh node set under a parent -/
noncomputable def Tr.ins (T : Tr) (p x : Int) (k : Nat) : Tr := { T with ch := T.ch.set p.toNat (gr T.ch p, (gc T.ch p).take k ++ x :: (gc T.ch p).drop k), parents := T.parents.set x.toNat p }
noncomputable def Tr.add (T : Tr) (k s n t : String) (r1 r2 : Nat) : Tr :=
  { kinds := T.kinds ++ [k], spaces := T.spaces ++ [s], names := T.names ++ [n], ar := T.ar ++ [r1], texts := T.texts ++ [t], parents := T.parents ++ [-1], ch := T.ch ++ [(r2, [])], cont := T.cont }

section
variable {H : AH} {h : Nat} {T : Tr} {R : List (Nat × AO)} {Q : AV → AH → Prop} {d B : Nat} {x y p : Int}

theorem ins_l {a : Nat} {l : List Int} {k : Nat} (h : H[a]? = some (.list (iV l))) (hk : k ≤ l.length) (h2 : l.length ≤ lim) : methL H a "insert" [.int k, .int x] = some (.none, H.set a (.list (iV (l.take k ++ x :: l.drop k)))) := by
  unfold methL methA; simp only [h]
  rw [if_pos ⟨by rw [List.length_map]; exact h2, by lia, by rw [List.length_map]; lia⟩]
  have e : ((k : Nat) : Int).toNat = k := by lia
  rw [e]; simp only [List.map_append, List.map_cons, List.map_take, List.map_drop]
theorem set_i {a : Nat} {l : List Int} (h : H[a]? = some (.list (iV l))) (h0 : 0 ≤ x) (h1 : x < l.length) (h2 : l.length ≤ lim) : setsubA H (.ref a) (.int x) (.int y) = some (H.set a (.list (iV (l.set x.toNat y)))) := by
  have e : (iV l).length = l.length := List.length_map ..
  unfold setsubA; simp only [h]
  rw [e, idx_ok h0 h1 h2, if_pos h0, Option.map_some]; simp only [List.map_set]
theorem len_ch {a : Nat} {l : List Int} (h : H[a]? = some (.list (iV l))) (h2 : (iV l).length ≤ lim) : lenA H (.ref a) = some (l.length : Int) := by
  rw [len_l h h2, List.length_map]

theorem c_insert (S : Sat H (treeD h T ++ R)) (L : Ln B T) (P : Par T) (op : Ok T p) (ox : Ok T x) (hpx : p < x) (hn : gi T.parents x = -1) {b : Int} (hb : b = -1 ∨ b ∈ gc T.ch p) (hbx : b ≠ x)
    (q : ∀ H', Sat H' (treeD h (T.ins p x (insPos (gc T.ch p) b)) ++ R) → Q .none H') : WC (d + 2) f_Tree_insert [.ref (h + 4), .int p, .int x, .int b] H Q := by
  refine wc_of (ρ := [("before", .int b), ("node", .int x), ("parent", .int p), ("self", .ref (h + 4))]) rfl ?_
  unfold f_Tree_insert
  dsimp only
  ((with_reducible refine sc ?_))
  have ne1 : x ≠ p := by lia
  ((with_reducible refine bs_ifs (bt_or (bts_cons (bt_cmp ?_)))); refine bvar rfl ?_; (with_reducible refine bkc1_eq ?_); refine bvar rfl ?_; (with_reducible refine bcmp cmp_eq_i ?_); simp only [decide_false, ne1]; (with_reducible refine bkTs_ff (bts_cons (bt_cmp ?_))); refine bvar rfl ?_; (with_reducible refine bkc1_eq (be_call (bes_cons ?_))); refine bvar rfl ?_; (with_reducible refine bkEs1_cons ?_); refine bvar rfl ?_; (with_reducible refine bkEs1_nil (bkEs2_eq (bc_g6 ?_))))
  refine c_above S L P op fun H1 r l S1 hr hy => ?_
  have nl : l.contains x = false := by
    rw [List.contains_eq_mem, decide_eq_false_iff_not]
    intro m; have := hy x m; lia
  ((with_reducible refine bcmp (cmp_in_l hr) ?_); simp only [cmp_in_l hr, nl]; (with_reducible refine bkTs_ff (bts_nil (bkIf_f (bwSs_nil (bcont_next ?_))))))
  clear hr nl hy l r S
  ((with_reducible refine sc ?_))
  have hcl := gc_lim L op
  have hpl := L.parents
  have hlim := L.lim
  rw [List.length_map] at hcl
  have fin : ∀ ρ : AE, ρ.lookup "self" = some (.ref (h + 4)) → ρ.lookup "parent" = some (.int p) → ρ.lookup "node" = some (.int x) → ρ.lookup "at" = some (.int (insPos (gc T.ch p) b)) →
      wSs (d + 1) (.cons (.expr (.meth (.sub (.attr (.var "self") "children") (.var "parent")) "insert" (.cons (.var "at") (.cons (.var "node") .nil)))) (.cons (.setsub (.attr (.var "self") "parents") (.var "node") (.var "parent")) .nil)) ρ H1 (kFn Q) := by
    intro ρ h1 h2 h3 h4
    have hk : insPos (gc T.ch p) b ≤ (gc T.ch p).length := by
      unfold insPos; split
      · exact Nat.le_refl _
      · exact List.idxOf_le_length
    ((with_reducible refine sc ?_))
    ((with_reducible refine bs_expr (be_meth (be_sub (be_attr ?_)))); (with_reducible refine bvar (by assumption) ?_); (with_reducible refine battr (a_children S1) ?_); (with_reducible refine bkSub1_eq ?_); (with_reducible refine bvar (by assumption) ?_); (with_reducible refine bsub2 (g_children S1 L op) ?_); (with_reducible refine bkl (kind_list (g_ch S1 L op)) rfl ?_); (with_reducible refine bes_cons ?_); (with_reducible refine bvar (by assumption) ?_); (with_reducible refine bkEs1_cons ?_); (with_reducible refine bvar (by assumption) ?_); (with_reducible refine bkEs1_nil (bkEs2_eq ?_)); (with_reducible refine bml (ins_l (g_ch S1 L op) hk hcl) ?_); (with_reducible refine bkEx_n (bcont_next ?_)))
    have S2 := s_ch S1 (at_ch L op) (l' := (gc T.ch p).take (insPos (gc T.ch p) b) ++ x :: (gc T.ch p).drop (insPos (gc T.ch p) b))
    ((with_reducible refine sc ?_))
    ((with_reducible refine bs_setsub ?_); (with_reducible refine bvar (by assumption) ?_); (with_reducible refine bkSs1_eq (be_attr ?_)); (with_reducible refine bvar (by assumption) ?_); (with_reducible refine battr (a_parents S2) ?_); (with_reducible refine bkSs2_eq ?_); (with_reducible refine bvar (by assumption) ?_); (with_reducible refine bss (set_i (t_parents S2) ox.1 (by show x < (T.parents.length : Int); rw [hpl]; exact ox.2) (by show T.parents.length ≤ lim; lia)) ?_); (with_reducible refine bcont_next (bwSs_nil (bkFn_n ?_))); simp only [a_parents S2, set_i (t_parents S2) ox.1 (by show x < (T.parents.length : Int); rw [hpl]; exact ox.2) (by show T.parents.length ≤ lim; lia)])
    exact q _ (s_parents S2 (T.parents.set x.toNat p))
  by_cases e1 : b = -1
  · subst e1
    have ei : insPos (gc T.ch p) (-1) = (gc T.ch p).length := by unfold insPos; rw [if_pos rfl]
    ((with_reducible refine bs_ifs (bt_and (bts_cons (bt_cmp ?_)))); refine bvar rfl ?_; (with_reducible refine bkc1_eq (be_neg1 ?_)); (with_reducible refine bcmp cmp_ne_i ?_); simp only [Int.reduceNeg, decide_true, Bool.not_true, eq_self, a_children S1, g_children S1 L op]; (with_reducible refine bkTs_tf (bkIf_f (bwSs_nil (bcont_next ?_)))))
    ((with_reducible refine sc ?_))
    ((with_reducible refine bs_ifs (bt_cmp ?_)); refine bvar rfl ?_; (with_reducible refine bkc1_eq ?_); refine bvar rfl ?_; (with_reducible refine bcmp cmp_eq_i ?_); simp only [Int.reduceNeg, decide_false, hbx]; (with_reducible refine bkIf_f (bwSs_nil (bcont_next ?_))))
    ((with_reducible refine sc ?_))
    ((with_reducible refine bs_expr (be_meth ?_)); refine bvar rfl ?_; (with_reducible refine bki (k_tree S1 (f := "remove") rfl) fm_remove ?_); (with_reducible refine bes_cons ?_); refine bvar rfl ?_; (with_reducible refine bkEs1_nil (bkM4_eq ?_)))
    refine c_remove S1 L ox hn ?_
    ((with_reducible refine bkEx_n (bcont_next ?_)))
    ((with_reducible refine sc ?_))
    ((with_reducible refine bs_assign (be_call (bes_cons (be_sub (be_attr ?_))))); refine bvar rfl ?_; (with_reducible refine battr (a_children S1) ?_); (with_reducible refine bkSub1_eq ?_); refine bvar rfl ?_; (with_reducible refine bsub2 (g_children S1 L op) ?_); (with_reducible refine bkEs1_nil ?_); (with_reducible refine blen (len_ch (g_ch S1 L op) (gc_lim L op)) ?_); (with_reducible refine bkAs_c ?_); simp only [Int.reduceNeg, setE, a_children S1, g_children S1 L op, len_ch (g_ch S1 L op) (gc_lim L op)])
    ((with_reducible refine sc ?_))
    ((with_reducible refine bs_ifs (bt_cmp ?_)); refine bvar rfl ?_; (with_reducible refine bkc1_eq (be_neg1 ?_)); (with_reducible refine bcmp cmp_ne_i ?_); simp only [Int.reduceNeg, decide_true, Bool.not_true, eq_self]; (with_reducible refine bkIf_f (bwSs_nil (bcont_next ?_))))
    exact fin _ (by simp only [String.reduceBEq, BEq.rfl, Int.reduceNeg, List.lookup_cons, eq_self]) (by simp only [String.reduceBEq, BEq.rfl, Int.reduceNeg, List.lookup_cons, eq_self]) (by simp only [String.reduceBEq, BEq.rfl, Int.reduceNeg, List.lookup_cons, eq_self]) (by simp only [BEq.rfl, Int.reduceNeg, List.lookup_cons, eq_self, ei])
  · have hc2 : (gc T.ch p).contains b = true := by
      rw [List.contains_eq_mem, decide_eq_true_eq]; exact hb.resolve_left e1
    have ei : insPos (gc T.ch p) b = (gc T.ch p).idxOf b := by unfold insPos; rw [if_neg e1]
    ((with_reducible refine bs_ifs (bt_and (bts_cons (bt_cmp ?_)))); refine bvar rfl ?_; (with_reducible refine bkc1_eq (be_neg1 ?_)); (with_reducible refine bcmp cmp_ne_i ?_); simp only [Int.reduceNeg, decide_false, Bool.not_false, a_children S1, g_children S1 L op, cmp_nin_l (g_ch S1 L op), e1]; (with_reducible refine bkTs_tt (bts_cons (bt_cmp ?_))); refine bvar rfl ?_; (with_reducible refine bkc1_eq (be_sub (be_attr ?_))); refine bvar rfl ?_; (with_reducible refine battr (a_children S1) ?_); (with_reducible refine bkSub1_eq ?_); refine bvar rfl ?_; (with_reducible refine bsub2 (g_children S1 L op) ?_); (with_reducible refine bcmp (cmp_nin_l (g_ch S1 L op)) ?_); simp only [Bool.not_true, a_children S1, g_children S1 L op, cmp_nin_l (g_ch S1 L op), hc2]; (with_reducible refine bkTs_tf (bkIf_f (bwSs_nil (bcont_next ?_)))))
    ((with_reducible refine sc ?_))
    ((with_reducible refine bs_ifs (bt_cmp ?_)); refine bvar rfl ?_; (with_reducible refine bkc1_eq ?_); refine bvar rfl ?_; (with_reducible refine bcmp cmp_eq_i ?_); simp only [decide_false, hbx]; (with_reducible refine bkIf_f (bwSs_nil (bcont_next ?_))))
    ((with_reducible refine sc ?_))
    ((with_reducible refine bs_expr (be_meth ?_)); refine bvar rfl ?_; (with_reducible refine bki (k_tree S1 (f := "remove") rfl) fm_remove ?_); (with_reducible refine bes_cons ?_); refine bvar rfl ?_; (with_reducible refine bkEs1_nil (bkM4_eq ?_)))
    refine c_remove S1 L ox hn ?_
    ((with_reducible refine bkEx_n (bcont_next ?_)))
    ((with_reducible refine sc ?_))
    ((with_reducible refine bs_assign (be_call (bes_cons (be_sub (be_attr ?_))))); refine bvar rfl ?_; (with_reducible refine battr (a_children S1) ?_); (with_reducible refine bkSub1_eq ?_); refine bvar rfl ?_; (with_reducible refine bsub2 (g_children S1 L op) ?_); (with_reducible refine bkEs1_nil ?_); (with_reducible refine blen (len_ch (g_ch S1 L op) (gc_lim L op)) ?_); (with_reducible refine bkAs_c ?_); simp only [setE, a_children S1, g_children S1 L op, len_ch (g_ch S1 L op) (gc_lim L op)])
    ((with_reducible refine sc ?_))
    ((with_reducible refine bs_ifs (bt_cmp ?_)); refine bvar rfl ?_; (with_reducible refine bkc1_eq (be_neg1 ?_)); (with_reducible refine bcmp cmp_ne_i ?_); simp only [Int.reduceNeg, decide_false, Bool.not_false, e1]; (with_reducible refine bkIf_t ?_))
    ((with_reducible refine sc ?_))
    ((with_reducible refine bs_assign (be_meth (be_sub (be_attr ?_)))); refine bvar rfl ?_; (with_reducible refine battr (a_children S1) ?_); (with_reducible refine bkSub1_eq ?_); refine bvar rfl ?_; (with_reducible refine bsub2 (g_children S1 L op) ?_); (with_reducible refine bkl (kind_list (g_ch S1 L op)) rfl ?_); (with_reducible refine bes_cons ?_); refine bvar rfl ?_; (with_reducible refine bkEs1_nil ?_); (with_reducible refine bml (idx_l (g_ch S1 L op) (hb.resolve_left e1) hcl) ?_); (with_reducible refine bkAs_c (bwSs_nil (bcont_next ?_))); simp only [setE, a_children S1, g_children S1 L op, kind_list (g_ch S1 L op), idx_l (g_ch S1 L op) (hb.resolve_left e1) hcl])
    exact fin _ (by simp only [String.reduceBEq, BEq.rfl, List.lookup_cons, eq_self]) (by simp only [String.reduceBEq, BEq.rfl, List.lookup_cons, eq_self]) (by simp only [String.reduceBEq, BEq.rfl, List.lookup_cons, eq_self]) (by simp only [BEq.rfl, List.lookup_cons, eq_self, ei])

theorem c_append (S : Sat H (treeD h T ++ R)) (L : Ln B T) (P : Par T) (op : Ok T p) (ox : Ok T x) (hpx : p < x) (hn : gi T.parents x = -1)
    (q : ∀ H', Sat H' (treeD h (T.ins p x (gc T.ch p).length) ++ R) → Q .none H') : WC (d + 3) f_Tree_append [.ref (h + 4), .int p, .int x] H Q := by
  refine wc_of (ρ := [("node", .int x), ("parent", .int p), ("self", .ref (h + 4))]) rfl ?_
  unfold f_Tree_append
  dsimp only
  ((with_reducible refine sc ?_))
  ((with_reducible refine bs_expr (be_meth ?_)); refine bvar rfl ?_; (with_reducible refine bki (k_tree S (f := "insert") rfl) fm_insert ?_); (with_reducible refine bes_cons ?_); refine bvar rfl ?_; (with_reducible refine bkEs1_cons ?_); refine bvar rfl ?_; (with_reducible refine bkEs1_nil (bkEs2_eq (bkM4_eq ?_))))
  have hx := ox.1
  have e : WC (d + 2) f_Tree_insert [.ref (h + 4), .int p, .int x] H = WC (d + 2) f_Tree_insert [.ref (h + 4), .int p, .int x, .int (-1)] H := rfl
  rw [e]
  refine c_insert S L P op ox hpx hn (.inl rfl) (by lia) fun H' S' => ?_
  ((with_reducible refine bkEx_n (bcont_next (bwSs_nil (bkFn_n ?_)))))
  exact q H' S'

theorem add_body (S : Sat H (treeD h T ++ R)) (L : Ln B T) {k s n t : String} (q : ∀ H' r1 r2, Sat H' (treeD h (T.add k s n t r1 r2) ++ R) → Q (.int T.kinds.length) H') :
    wSs d f_Tree_add.body [("text", .str t), ("attrs", .tup []), ("name", .str n), ("space", .str s), ("kind", .str k), ("self", .ref (h + 4))] H (kFn Q) := by
  unfold f_Tree_add
  dsimp only
  have hl := L.lim
  have l1 := L.spaces
  have l2 := L.names
  have l3 := L.ar
  have l4 := L.texts
  have l5 := L.parents
  have l6 := L.ch
  ((with_reducible refine sc ?_))
  ((with_reducible refine bs_expr (be_meth (be_attr ?_))); refine bvar rfl ?_; (with_reducible refine battr (a_kinds S) ?_); (with_reducible refine bkl (kind_list (t_kinds S)) rfl ?_); (with_reducible refine bes_cons ?_); refine bvar rfl ?_; (with_reducible refine bkEs1_nil ?_); (with_reducible refine bml (app_s (t_kinds S) (by lia)) ?_); (with_reducible refine bkEx_n (bcont_next ?_)))
  have S1 := s_kinds S (T.kinds ++ [k])
  ((with_reducible refine sc ?_))
  ((with_reducible refine bs_expr (be_meth (be_attr ?_))); refine bvar rfl ?_; (with_reducible refine battr (a_spaces S1) ?_); (with_reducible refine bkl (kind_list (t_spaces S1)) rfl ?_); (with_reducible refine bes_cons ?_); refine bvar rfl ?_; (with_reducible refine bkEs1_nil ?_); (with_reducible refine bml (app_s (t_spaces S1) (by dsimp only; lia)) ?_); (with_reducible refine bkEx_n (bcont_next ?_)); simp only [a_spaces S1, kind_list (t_spaces S1), app_s (t_spaces S1) (by dsimp only; lia)])
  have S2 := s_spaces S1 (T.spaces ++ [s])
  ((with_reducible refine sc ?_))
  ((with_reducible refine bs_expr (be_meth (be_attr ?_))); refine bvar rfl ?_; (with_reducible refine battr (a_names S2) ?_); (with_reducible refine bkl (kind_list (t_names S2)) rfl ?_); (with_reducible refine bes_cons ?_); refine bvar rfl ?_; (with_reducible refine bkEs1_nil ?_); (with_reducible refine bml (app_s (t_names S2) (by dsimp only; lia)) ?_); (with_reducible refine bkEx_n (bcont_next ?_)); simp only [a_names S2, kind_list (t_names S2), app_s (t_names S2) (by dsimp only; lia)])
  have S3 := s_names S2 (T.names ++ [n])
  ((with_reducible refine sc ?_))
  have S3' := S3.keep [.list []]
  ((with_reducible refine bs_expr (be_meth (be_attr ?_))); refine bvar rfl ?_; (with_reducible refine battr (a_attrs S3) ?_); (with_reducible refine bkl (kind_list (t_attrs S3)) rfl ?_); (with_reducible refine bes_cons (be_call (bes_cons ?_))); refine bvar rfl ?_; (with_reducible refine bkEs1_nil (bc_list ?_)); simp only [a_attrs S3, kind_list (t_attrs S3), listOf, List.length_nil, Nat.zero_le, app_r (t_attrs S3') (by dsimp only; lia)]; simp only [opt_some, if_true, cont_next, kr_eq, kML_eq, kEs1_nil, kEx_n, a_attrs S3, kind_list (t_attrs S3), app_r (t_attrs S3') (by dsimp only; lia)])
  have S4 := s_ar S3
  ((with_reducible refine sc ?_))
  ((with_reducible refine bs_expr (be_meth (be_attr ?_))); refine bvar rfl ?_; (with_reducible refine battr (a_texts S4) ?_); (with_reducible refine bkl (kind_list (t_texts S4)) rfl ?_); (with_reducible refine bes_cons ?_); refine bvar rfl ?_; (with_reducible refine bkEs1_nil ?_); (with_reducible refine bml (app_s (t_texts S4) (by dsimp only; lia)) ?_); (with_reducible refine bkEx_n (bcont_next ?_)); simp only [a_texts S4, kind_list (t_texts S4), app_s (t_texts S4) (by dsimp only; lia)])
  have S5 := s_texts S4 (T.texts ++ [t])
  ((with_reducible refine sc ?_))
  ((with_reducible refine bs_expr (be_meth (be_attr ?_))); refine bvar rfl ?_; (with_reducible refine battr (a_parents S5) ?_); (with_reducible refine bkl (kind_list (t_parents S5)) rfl ?_); (with_reducible refine bes_cons (be_neg1 (bkEs1_nil ?_))); (with_reducible refine bml (app_i (t_parents S5) (by dsimp only; lia)) ?_); (with_reducible refine bkEx_n (bcont_next ?_)); simp only [Int.reduceNeg, a_parents S5, kind_list (t_parents S5), app_i (t_parents S5) (by dsimp only; lia)])
  have S6 := s_parents S5 (T.parents ++ [-1])
  ((with_reducible refine sc ?_))
  have S6' := S6.keep [.list []]
  ((with_reducible refine bs_expr (be_meth (be_attr ?_))); refine bvar rfl ?_; (with_reducible refine battr (a_children S6) ?_); (with_reducible refine bkl (kind_list (t_children S6)) rfl ?_); (with_reducible refine bes_cons (be_lst (bes_nil (bkLst_0 (bkEs1_nil ?_))))); (with_reducible refine bml (app_c (m := []) (t_children S6') (by dsimp only; lia)) ?_); (with_reducible refine bkEx_n (bcont_next ?_)); simp only [Int.reduceNeg, a_children S6, kind_list (t_children S6), app_c (m := []) (t_children S6') (by dsimp only; lia)])
  have S7 := s_chn S6
  ((with_reducible refine sc ?_))
  ((with_reducible refine bs_ret (be_bin (be_call (bes_cons (be_attr ?_))))); refine bvar rfl ?_; (with_reducible refine battr (a_kinds S7) ?_); (with_reducible refine bkEs1_nil ?_); (with_reducible refine blen (len_l (t_kinds S7) (by dsimp only; rw [List.length_map, List.length_append, List.length_singleton]; lia)) ?_); (with_reducible refine bkBin1_eq (bwE_int ?_)); (with_reducible refine bbin bin_sub ?_); (with_reducible refine bkRet_c (bkFn_r ?_)); simp only [Int.reduceNeg, a_kinds S7, len_l (t_kinds S7) (by dsimp only; rw [List.length_map, List.length_append, List.length_singleton]; lia)])
  have e : (((sV (T.kinds ++ [k])).length : Nat) : Int) - 1 = (T.kinds.length : Int) := by
    rw [List.length_map, List.length_append, List.length_singleton]; lia
  rw [e]
  exact q _ _ _ S7

theorem c_add5 (S : Sat H (treeD h T ++ R)) (L : Ln B T) {k s n t : String} (q : ∀ H' r1 r2, Sat H' (treeD h (T.add k s n t r1 r2) ++ R) → Q (.int T.kinds.length) H') :
    WC (d + 1) f_Tree_add [.ref (h + 4), .str k, .str s, .str n, .tup [], .str t] H Q := WC_of rfl (add_body S L q)
theorem c_add4 (S : Sat H (treeD h T ++ R)) (L : Ln B T) {k s n : String} (q : ∀ H' r1 r2, Sat H' (treeD h (T.add k s n "" r1 r2) ++ R) → Q (.int T.kinds.length) H') :
    WC (d + 1) f_Tree_add [.ref (h + 4), .str k, .str s, .str n, .tup []] H Q := WC_of rfl (add_body S L q)
theorem c_add1 (S : Sat H (treeD h T ++ R)) (L : Ln B T) {k : String} (q : ∀ H' r1 r2, Sat H' (treeD h (T.add k "" "" "" r1 r2) ++ R) → Q (.int T.kinds.length) H') :
    WC (d + 1) f_Tree_add [.ref (h + 4), .str k] H Q := WC_of rfl (add_body S L q)

theorem c_text (S : Sat H (treeD h T ++ R)) (L : Ln B T) {t : String} (q : ∀ H' r1 r2, Sat H' (treeD h (T.add "text" "" "" t r1 r2) ++ R) → Q (.int T.kinds.length) H') :
    WC (d + 2) f_Tree_text [.ref (h + 4), .str t] H Q := by
  refine wc_of (ρ := [("text", .str t), ("self", .ref (h + 4))]) rfl ?_
  unfold f_Tree_text
  dsimp only
  ((with_reducible refine sc ?_))
  ((with_reducible refine bs_ret (be_meth ?_)); refine bvar rfl ?_; (with_reducible refine bki (k_tree S (f := "add") rfl) fm_add ?_); (with_reducible refine bes_cons (bwE_str (bkEs1_cons (bwE_str (bkEs1_cons (bwE_str (bkEs1_cons (be_tup (bes_nil (bkTup_0 (bkEs1_cons ?_))))))))))); refine bvar rfl ?_; (with_reducible refine bkEs1_nil (bkEs2_eq (bkEs2_eq (bkEs2_eq (bkEs2_eq (bkM4_eq ?_)))))))
  refine c_add5 S L fun H' r1 r2 S' => ?_
  exact q H' r1 r2 S'
theorem c_comment (S : Sat H (treeD h T ++ R)) (L : Ln B T) {t : String} (q : ∀ H' r1 r2, Sat H' (treeD h (T.add "comment" "" "" t r1 r2) ++ R) → Q (.int T.kinds.length) H') :
    WC (d + 2) f_Tree_comment [.ref (h + 4), .str t] H Q := by
  refine wc_of (ρ := [("text", .str t), ("self", .ref (h + 4))]) rfl ?_
  unfold f_Tree_comment
  dsimp only
  ((with_reducible refine sc ?_))
  ((with_reducible refine bs_ret (be_meth ?_)); refine bvar rfl ?_; (with_reducible refine bki (k_tree S (f := "add") rfl) fm_add ?_); (with_reducible refine bes_cons (bwE_str (bkEs1_cons (bwE_str (bkEs1_cons (bwE_str (bkEs1_cons (be_tup (bes_nil (bkTup_0 (bkEs1_cons ?_))))))))))); refine bvar rfl ?_; (with_reducible refine bkEs1_nil (bkEs2_eq (bkEs2_eq (bkEs2_eq (bkEs2_eq (bkM4_eq ?_)))))))
  refine c_add5 S L fun H' r1 r2 S' => ?_
  exact q H' r1 r2 S'
end
end Mine
end
section
set_option maxRecDepth 100000
namespace Mine

/-- an element, a template's contents with it -/
noncomputable def Tr.elem (T : Tr) (n s : String) (r1 r2 r3 r4 : Nat) : Tr :=
  if s = "html" ∧ n = "template" then
    { (T.add "element" s n "" r1 r2).add "fragment" "" "" "" r3 r4 with cont := T.cont ++ [((T.kinds.length : Int), (T.kinds.length + 1 : Int))] }
  else T.add "element" s n "" r1 r2

theorem Ln.add {B : Nat} {T : Tr} (L : Ln B T) (hB : B < 1000) (k s n t : String) (ht : t.length ≤ B + 1) (r1 r2 : Nat) : Ln (B + 1) (T.add k s n t r1 r2) := by
  have l1 := L.spaces
  have l2 := L.names
  have l3 := L.ar
  have l4 := L.texts
  have l5 := L.parents
  have l6 := L.ch
  have l7 := L.le
  unfold Tr.add
  refine ⟨?_, ?_, ?_, ?_, ?_, ?_, ?_, ?_, ?_, by lia⟩
  · simp only [List.length_append, List.length_singleton]; lia
  · simp only [List.length_append, List.length_singleton]; lia
  · simp only [List.length_append, List.length_singleton]; lia
  · simp only [List.length_append, List.length_singleton]; lia
  · simp only [List.length_append, List.length_singleton]; lia
  · simp only [List.length_append, List.length_singleton]; lia
  · simp only [List.length_append, List.length_singleton]; lia
  · intro p hp
    rcases List.mem_append.mp hp with m | m
    · have := L.cle p m; lia
    · rw [List.mem_singleton.mp m]; exact Nat.zero_le _
  · intro p hp
    rcases List.mem_append.mp hp with m | m
    · have := L.tle p m; lia
    · rw [List.mem_singleton.mp m]; exact ht

theorem setD_new {l : List (Int × Int)} {k v : Int} (hk : ∀ p ∈ l, p.1 ≠ k) : setD k (.int v) (contD l) = contD (l ++ [(k, v)]) := by
  induction l with
  | nil => rfl
  | cons a r ih =>
    show (if a.1 = k then _ else (a.1, AV.int a.2) :: setD k (.int v) (contD r)) = _
    rw [if_neg (hk a List.mem_cons_self), ih fun p hp => hk p (List.mem_cons_of_mem _ hp)]; rfl

section
variable {H : AH} {h : Nat} {T : Tr} {R : List (Nat × AO)} {Q : AV → AH → Prop} {d B : Nat} {x y p : Int}

theorem set_d {a : Nat} {l : List (Int × Int)} (h : H[a]? = some (.dict (contD l))) (hk : ∀ p ∈ l, p.1 ≠ x) (h2 : l.length ≤ lim) : setsubA H (.ref a) (.int x) (.int y) = some (H.set a (.dict (contD (l ++ [(x, y)])))) := by
  unfold setsubA; simp only [h]
  rw [if_pos (by rw [List.length_map]; exact h2), setD_new hk]

theorem element_body (S : Sat H (treeD h T ++ R)) (L : Ln B T) (hB : B < 1000) (hk : ∀ p ∈ T.cont, p.1 < T.kinds.length) (hc : T.cont.length ≤ lim) {n s : String}
    (q : ∀ H' r1 r2 r3 r4, Sat H' (treeD h (T.elem n s r1 r2 r3 r4) ++ R) → Q (.int T.kinds.length) H') :
    wSs (d + 1) f_Tree_element.body [("attrs", .tup []), ("space", .str s), ("name", .str n), ("self", .ref (h + 4))] H (kFn Q) := by
  unfold f_Tree_element
  dsimp only
  ((with_reducible refine sc ?_))
  ((with_reducible refine bs_assign (be_meth ?_)); refine bvar rfl ?_; (with_reducible refine bki (k_tree S (f := "add") rfl) fm_add ?_); (with_reducible refine bes_cons (bwE_str (bkEs1_cons ?_))); refine bvar rfl ?_; (with_reducible refine bkEs1_cons ?_); refine bvar rfl ?_; (with_reducible refine bkEs1_cons ?_); refine bvar rfl ?_; (with_reducible refine bkEs1_nil (bkEs2_eq (bkEs2_eq (bkEs2_eq (bkM4_eq ?_))))))
  refine c_add4 S L fun H1 r1 r2 S1 => ?_
  have L1 := L.add hB "element" s n "" (by simp) r1 r2
  ((with_reducible refine bkAs_c ?_); (with_reducible refine sc ?_))
  ((with_reducible refine bs_ifs (bt_and (bts_cons (bt_cmp ?_)))); refine bvar rfl ?_; (with_reducible refine bkc1_eq (bwE_str ?_)); (with_reducible refine bcmp cmp_eq_s ?_); simp only [String.reduceBEq, BEq.rfl, opt_some, List.lookup_cons, setE, cmp_eq_s, decide_eq_true_eq, decide_eq_false_iff_not, true_implies, false_implies, and_true, Bool.true_eq_false, eq_self, cont_next, wSs_nil, wE_str, kv_eq, e_var, kc1_eq, kc2_eq, t_cmp, ts_nil, ts_cons, kTs_t, kIf_eq])
  have fin1 : ¬ (s = "html" ∧ n = "template") → wSs (d + 1) (.cons (.ret (.var "node")) .nil) [("node", .int T.kinds.length), ("attrs", .tup []), ("space", .str s), ("name", .str n), ("self", .ref (h + 4))] H1 (kFn Q) := by
    intro hn
    ((with_reducible refine sc ?_))
    ((with_reducible refine bs_ret ?_); refine bvar rfl ?_; (with_reducible refine bkRet_c (bkFn_r ?_)))
    refine q H1 r1 r2 0 0 ?_
    unfold Tr.elem; rw [if_neg hn]; exact S1
  by_cases e1 : s = "html"
  · subst e1
    by_cases e2 : n = "template"
    · subst e2
      (simp only [not_true_eq_false, eq_self]; simp only [true_implies, false_implies, and_true])
      ((with_reducible refine sc ?_))
      ((with_reducible refine bs_setsub (be_meth ?_)); refine bvar rfl ?_; (with_reducible refine bki (k_tree S1 (f := "add") rfl) fm_add ?_); (with_reducible refine bes_cons (bwE_str (bkEs1_nil (bkM4_eq ?_)))))
      refine c_add1 S1 L1 fun H2 r3 r4 S2 => ?_
      have e : ((T.add "element" "html" "template" "" r1 r2).kinds.length : Int) = (T.kinds.length : Int) + 1 := by
        show ((T.kinds ++ ["element"]).length : Int) = _
        rw [List.length_append]; rfl
      rw [e]
      ((with_reducible refine bkSs1_eq (be_attr ?_)); refine bvar rfl ?_; (with_reducible refine battr (a_contents S2) ?_); (with_reducible refine bkSs2_eq ?_); refine bvar rfl ?_; (with_reducible apply bss); exact set_d (t_contents S2) (y := (T.kinds.length : Int) + 1) (x := (T.kinds.length : Int)) (fun p hp => by have := hk p hp; lia) hc; (with_reducible refine bcont_next (bwSs_nil (bcont_next ?_))))
      ((with_reducible refine sc ?_))
      ((with_reducible refine bs_ret ?_); refine bvar rfl ?_; (with_reducible refine bkRet_c (bkFn_r ?_)))
      refine q _ r1 r2 r3 r4 ?_
      unfold Tr.elem; rw [if_pos ⟨rfl, rfl⟩]
      exact s_contents S2 _
    · (simp only [not_true_eq_false, not_false_eq_true, eq_self, e2]; simp only [true_implies, false_implies, and_true, true_and])
      exact fin1 (fun q => e2 q.2)
  · (simp only [not_false_eq_true, e1]; simp only [true_implies, false_implies, true_and])
    exact fin1 (fun q => e1 q.1)
theorem c_element2 (S : Sat H (treeD h T ++ R)) (L : Ln B T) (hB : B < 1000) (hk : ∀ p ∈ T.cont, p.1 < T.kinds.length) (hc : T.cont.length ≤ lim) {n s : String}
    (q : ∀ H' r1 r2 r3 r4, Sat H' (treeD h (T.elem n s r1 r2 r3 r4) ++ R) → Q (.int T.kinds.length) H') :
    WC (d + 2) f_Tree_element [.ref (h + 4), .str n, .str s] H Q := WC_of rfl (element_body S L hB hk hc q)
theorem c_element1 (S : Sat H (treeD h T ++ R)) (L : Ln B T) (hB : B < 1000) (hk : ∀ p ∈ T.cont, p.1 < T.kinds.length) (hc : T.cont.length ≤ lim) {n : String}
    (q : ∀ H' r1 r2 r3 r4, Sat H' (treeD h (T.elem n "html" r1 r2 r3 r4) ++ R) → Q (.int T.kinds.length) H') :
    WC (d + 2) f_Tree_element [.ref (h + 4), .str n] H Q := WC_of rfl (element_body S L hB hk hc q)
end

/-! builder and stack -/
noncomputable def bldFs (h : Nat) (f : Bool) : List (String × AV) := [("rules", .ref h), ("tree", .ref (h + 4)), ("stack", .ref (h + 16)), ("formatting", .ref (h + 19)), ("mode", .str "initial"), ("original", .str ""), ("modes", .ref (h + 21)), ("head", .int (-1)), ("form", .int (-1)), ("owners", .ref (h + 22)), ("is_frameset_ok", .bool true), ("is_scripting", .bool false), ("is_foster", .bool f), ("context", .int (-1)), ("quirks", .str "no-quirks"), ("errors", .ref (h + 23)), ("pending", .ref (h + 24)), ("wish", .str ""), ("is_skipping", .bool false), ("is_acknowledged", .bool false), ("is_done", .bool false)]
noncomputable def bldD (h : Nat) (f : Bool) (items : List Int) : List (Nat × AO) := [(h + 2, .inst "Builder" (h + 1)), (h + 1, .fields (bldFs h f)), (h + 16, .inst "OpenStack" (h + 15)), (h + 15, .fields [("tree", .ref (h + 4)), ("items", .ref (h + 17))]), (h + 17, .list (iV items)), (h + 23, .list [])]
noncomputable abbrev allD (h : Nat) (T : Tr) (f : Bool) (items : List Int) (R : List (Nat × AO)) : List (Nat × AO) := treeD h T ++ (bldD h f items ++ R)

section
variable {H : AH} {h : Nat} {T : Tr} {f : Bool} {items : List Int} {R : List (Nat × AO)} {Q : AV → AH → Prop} {d B : Nat} {x y p : Int}
theorem b_bld (S : Sat H (allD h T f items R)) : H[h + 2]? = some (.inst "Builder" (h + 1)) := S.getR 0 rfl
theorem b_fs (S : Sat H (allD h T f items R)) : H[h + 1]? = some (.fields (bldFs h f)) := S.getR 1 rfl
theorem b_stk (S : Sat H (allD h T f items R)) : H[h + 16]? = some (.inst "OpenStack" (h + 15)) := S.getR 2 rfl
theorem b_sfs (S : Sat H (allD h T f items R)) : H[h + 15]? = some (.fields [("tree", .ref (h + 4)), ("items", .ref (h + 17))]) := S.getR 3 rfl
theorem b_items (S : Sat H (allD h T f items R)) : H[h + 17]? = some (.list (iV items)) := S.getR 4 rfl
theorem b_errors (S : Sat H (allD h T f items R)) : H[h + 23]? = some (.list []) := S.getR 5 rfl
theorem a_tree (S : Sat H (allD h T f items R)) : attrA H (.ref (h + 2)) "tree" = some (.ref (h + 4)) := attr_of (b_bld S) (b_fs S) (by decide) rfl
theorem a_stack (S : Sat H (allD h T f items R)) : attrA H (.ref (h + 2)) "stack" = some (.ref (h + 16)) := attr_of (b_bld S) (b_fs S) (by decide) rfl
theorem a_foster (S : Sat H (allD h T f items R)) : attrA H (.ref (h + 2)) "is_foster" = some (.bool f) := attr_of (b_bld S) (b_fs S) (by decide) rfl
theorem a_errors (S : Sat H (allD h T f items R)) : attrA H (.ref (h + 2)) "errors" = some (.ref (h + 23)) := attr_of (b_bld S) (b_fs S) (by decide) rfl
theorem a_items (S : Sat H (allD h T f items R)) : attrA H (.ref (h + 16)) "items" = some (.ref (h + 17)) := attr_of (b_stk S) (b_sfs S) (by decide) rfl
theorem k_current (S : Sat H (allD h T f items R)) : kindA H (.ref (h + 16)) "current" = some (.inst (h + 16) "OpenStack") := kind_of (b_stk S) (b_sfs S) rfl
theorem k_push (S : Sat H (allD h T f items R)) : kindA H (.ref (h + 16)) "push" = some (.inst (h + 16) "OpenStack") := kind_of (b_stk S) (b_sfs S) rfl
theorem s_items (S : Sat H (allD h T f items R)) (l : List Int) : Sat (H.set (h + 17) (.list (iV l))) (allD h T f l R) := S.setR 4 (.list (iV l)) rfl
theorem s_foster (S : Sat H (allD h T f items R)) (b : Bool) : Sat (H.set (h + 1) (.fields (bldFs h b))) (allD h T b items R) := S.setR 1 (.fields (bldFs h b)) rfl
theorem u_foster (S : Sat H (allD h T f items R)) (b : Bool) : setattrA H (.ref (h + 2)) "is_foster" (.bool b) = some (H.set (h + 1) (.fields (bldFs h b))) := by
  unfold setattrA
  simp only [b_bld S, b_fs S]
  have e : setF "is_foster" (.bool b) (bldFs h f) = bldFs h b := rfl
  rw [if_pos ⟨by show 21 ≤ 900; decide, by decide⟩, e]

theorem c_push (S : Sat H (allD h T f items R)) (hl : items.length ≤ lim) (q : ∀ H', Sat H' (allD h T f (items ++ [x]) R) → Q .none H') : WC (d + 1) f_OpenStack_push [.ref (h + 16), .int x] H Q := by
  refine wc_of (ρ := [("node", .int x), ("self", .ref (h + 16))]) rfl ?_
  unfold f_OpenStack_push
  dsimp only
  ((with_reducible refine sc ?_))
  ((with_reducible refine bs_expr (be_meth (be_attr ?_))); refine bvar rfl ?_; (with_reducible refine battr (a_items S) ?_); (with_reducible refine bkl (kind_list (b_items S)) rfl ?_); (with_reducible refine bes_cons ?_); refine bvar rfl ?_; (with_reducible refine bkEs1_nil ?_); (with_reducible refine bml (app_i (b_items S) hl) ?_); (with_reducible refine bkEx_n (bcont_next (bwSs_nil (bkFn_n ?_)))))
  exact q _ (s_items S _)

theorem c_current (S : Sat H (allD h T f items R)) (hl : items.length ≤ lim) (q : Q (.int (lastOf items)) H) : WC (d + 1) f_OpenStack_current [.ref (h + 16)] H Q := by
  refine wc_of (ρ := [("self", .ref (h + 16))]) rfl ?_
  unfold f_OpenStack_current
  dsimp only
  ((with_reducible refine sc ?_))
  have hl2 : (iV items).length ≤ lim := by rw [List.length_map]; exact hl
  ((with_reducible refine bs_ifs (bt_cmp (be_call (bes_cons (be_attr ?_))))); refine bvar rfl ?_; (with_reducible refine battr (a_items S) ?_); (with_reducible refine bkEs1_nil ?_); (with_reducible refine blen (len_ch (b_items S) hl2) ?_); (with_reducible refine bkc1_eq (bwE_int ?_)); (with_reducible refine bcmp cmp_eq_i ?_); simp only [decide_eq_true_eq, decide_eq_false_iff_not, cont_next, wSs_nil, kIf_eq, a_items S, len_ch (b_items S) hl2])
  unfold lastOf at q
  by_cases e : items = []
  · subst e
    refine ⟨fun _ => ?_, fun e => absurd rfl e⟩
    ((with_reducible refine sc ?_))
    ((with_reducible refine bs_ret (be_neg1 (bkRet_c (bcont_ret (bkFn_r ?_))))))
    exact q
  · have hp : 0 < items.length := List.length_pos_iff.mpr e
    rw [if_neg (by rw [List.isEmpty_iff]; exact e)] at q
    refine ⟨fun e2 => by lia, fun _ => ?_⟩
    ((with_reducible refine sc ?_))
    ((with_reducible refine bs_ret (be_sub (be_attr ?_))); refine bvar rfl ?_; (with_reducible refine battr (a_items S) ?_); (with_reducible refine bkSub1_eq (be_bin (be_call (bes_cons (be_attr ?_))))); refine bvar rfl ?_; (with_reducible refine battr (a_items S) ?_); (with_reducible refine bkEs1_nil ?_); (with_reducible refine blen (len_ch (b_items S) hl2) ?_); (with_reducible refine bkBin1_eq (bwE_int ?_)); (with_reducible refine bbin bin_sub ?_); (with_reducible refine bsub2 (sub_i (b_items S) (x := (items.length : Int) - 1) (by lia) (by lia) hl) ?_); (with_reducible refine bkRet_c (bkFn_r ?_)))
    exact q

/-- foster_place -/
noncomputable def fdown (T : Tr) (items : List Int) : Nat → Nat
  | 0 => 0
  | n + 1 => if isHtml T (gi items ((n + 1 : Nat) : Int)) "table" || isHtml T (gi items ((n + 1 : Nat) : Int)) "template" then n + 1 else fdown T items n
theorem fdown_le (T : Tr) (items : List Int) (n : Nat) : fdown T items n ≤ n := by
  induction n with
  | zero => exact Nat.le_refl _
  | succ n ih => unfold fdown; split; exact Nat.le_refl _; lia
noncomputable def fosterP (T : Tr) (items : List Int) : Int × Int :=
  let a := fdown T items (items.length - 1)
  let node := gi items (a : Int)
  if isHtml T node "table" = false then (node, -1)
  else if gi T.parents node ≠ -1 then (gi T.parents node, node)
  else if 0 < a then (gi items ((a : Int) - 1), -1) else (node, -1)

theorem gi_mem {l : List Int} (h0 : 0 ≤ x) (h1 : x < l.length) : gi l x ∈ l := by
  unfold gi; rw [List.getD_eq_getElem?_getD, List.getElem?_eq_getElem (toNat_lt h0 h1)]; exact List.getElem_mem _

theorem fp_loop (S : Sat H (treeD h T ++ R)) (L : Ln B T) (hI : ∀ y ∈ items, Ok T y) (hl : items.length ≤ lim) {it : Nat} (hit : H[it]? = some (.list (iV items))) {Q : AF → AE → AH → Prop} :
    ∀ (n : Nat) (ρ : AE), n < items.length → ρ.lookup "at" = some (.int (n : Int)) → ρ.lookup "items" = some (.ref it) → ρ.lookup "tree" = some (.ref (h + 4)) →
      (∀ ρ' : AE, ρ'.lookup "at" = some (.int (fdown T items n : Int)) → ρ'.lookup "items" = some (.ref it) → ρ'.lookup "tree" = some (.ref (h + 4)) → Q .next ρ' H) →
      XWh (d + 1) (.and (.cons (.cmp .Gt (.var "at") (.int 0)) (.cons (.not (.meth (.var "tree") "is_html" (.cons (.sub (.var "items") (.var "at")) (.cons (.str "table") .nil)))) (.cons (.not (.meth (.var "tree") "is_html" (.cons (.sub (.var "items") (.var "at")) (.cons (.str "template") .nil)))) .nil)))) (.cons (.aug "at" .Sub (.int 1)) .nil) (n + 1) ρ H Q := by
  intro n
  induction n with
  | zero =>
    intro ρ hn h1 h2 h3 hq
    refine wh_of ?_
    ((with_reducible refine bt_and (bts_cons (bt_cmp ?_))); (with_reducible refine bvar (by assumption) ?_); (with_reducible refine bkc1_eq (bwE_int ?_)); (with_reducible refine bcmp cmp_gt ?_); simp only [decide_false, gt_iff_lt, Int.lt_irrefl, Int.natCast_zero]; (with_reducible refine bkTs_tf (bkWt_f ?_)))
    exact hq ρ (by unfold fdown; exact h1) h2 h3
  | succ n ih =>
    intro ρ hn h1 h2 h3 hq
    have g0 : ((n + 1 : Nat) : Int) > 0 := by lia
    have oI : Ok T (gi items ((n + 1 : Nat) : Int)) := hI _ (gi_mem (by lia) (by lia))
    have gI := sub_i hit (x := ((n + 1 : Nat) : Int)) (by lia) (by lia) hl
    refine wh_of ?_
    ((with_reducible refine bt_and (bts_cons (bt_cmp ?_))); (with_reducible refine bvar (by assumption) ?_); (with_reducible refine bkc1_eq (bwE_int ?_)); (with_reducible refine bcmp cmp_gt ?_); simp only [decide_true, g0, k_tree S (f := "is_html") rfl]; (with_reducible refine bkTs_tt (bts_cons (bt_not (bt_meth (be_meth ?_))))); (with_reducible refine bvar (by assumption) ?_); (with_reducible refine bki (k_tree S (f := "is_html") rfl) fm_is_html ?_); (with_reducible refine bes_cons (be_sub ?_)); (with_reducible refine bvar (by assumption) ?_); (with_reducible refine bkSub1_eq ?_); (with_reducible refine bvar (by assumption) ?_); (with_reducible refine bsub2 (by assumption) ?_); (with_reducible refine bkEs1_cons (bwE_str (bkEs1_nil (bkEs2_eq (bkM4_eq ?_))))))
    refine c_is_html S L oI ?_
    ((with_reducible refine bkTr_b (bkTn_eq ?_)); simp only [opt_some, kv_eq, e_var, e_meth, kM1_eq, t_not, t_meth, ts_cons, kTs_t, kWt_eq, h3])
    have stop : (isHtml T (gi items ((n + 1 : Nat) : Int)) "table" || isHtml T (gi items ((n + 1 : Nat) : Int)) "template") = true → Q .next ρ H := fun e => by
      refine hq ρ ?_ h2 h3
      unfold fdown; rw [if_pos e]; exact h1
    have go : (isHtml T (gi items ((n + 1 : Nat) : Int)) "table" || isHtml T (gi items ((n + 1 : Nat) : Int)) "template") = false →
        wSs (d + 1) (.cons (.aug "at" .Sub (.int 1)) .nil) ρ H (kWh (d + 1) (.and (.cons (.cmp .Gt (.var "at") (.int 0)) (.cons (.not (.meth (.var "tree") "is_html" (.cons (.sub (.var "items") (.var "at")) (.cons (.str "table") .nil)))) (.cons (.not (.meth (.var "tree") "is_html" (.cons (.sub (.var "items") (.var "at")) (.cons (.str "template") .nil)))) .nil)))) (.cons (.aug "at" .Sub (.int 1)) .nil) (n + 1) Q) := fun e => by
      ((with_reducible refine sc ?_))
      (simp only [opt_some, setE, intOf, cont_next, wSs_nil, wE_int, s_aug, kWh_n, h1])
      refine ih _ (by lia) ?_ ?_ ?_ ?_
      · (simp only [BEq.rfl, List.lookup_cons])
        have : (((n + 1 : Nat) : Int) - 1) = (n : Int) := by lia
        rw [this]
      · (simp only [String.reduceBEq, List.lookup_cons, eq_self, h2])
      · (simp only [String.reduceBEq, List.lookup_cons, eq_self, h3])
      · intro ρ' a b c
        refine hq ρ' ?_ b c
        unfold fdown; rw [if_neg (by rw [e]; decide)]; exact a
    cases e1 : isHtml T (gi items ((n + 1 : Nat) : Int)) "table" with
    | true =>
      rw [e1] at stop
      (simp only [Bool.not_true, eq_self]; simp only [true_implies, false_implies, true_and, Bool.false_eq_true])
      exact stop rfl
    | false =>
      (simp only [Bool.not_false, eq_self, k_tree S (f := "is_html") rfl]; simp only [opt_some, true_implies, false_implies, and_true, Bool.true_eq_false, fm_is_html, wE_str, kv_eq, e_var, e_sub, kSub1_eq, kSub2_eq, kM2_inst, kM3_eq, kM4_eq, es_cons, kEs1_nil, kEs1_cons, kEs2_eq, k_tree S (f := "is_html") rfl, gI, h1, h2])
      refine c_is_html S L oI ?_
      rw [e1] at stop go
      cases e2 : isHtml T (gi items ((n + 1 : Nat) : Int)) "template" with
      | true =>
        rw [e2] at stop
        ((with_reducible refine bkTr_b (bkTn_eq ?_)); simp only [Bool.not_true]; (with_reducible refine bkTs_tf (bkWt_f ?_)))
        exact stop rfl
      | false =>
        rw [e2] at go
        ((with_reducible refine bkTr_b (bkTn_eq ?_)); simp only [Bool.not_false]; (with_reducible refine bkTs_tt (bts_nil (bkWt_t ?_))))
        exact go rfl

theorem c_foster_place (S : Sat H (allD h T f items R)) (L : Ln B T) (hI : ∀ y ∈ items, Ok T y) (h0 : 0 < items.length) (hl : items.length ≤ lim)
    (q : Q (.tup [.int (fosterP T items).1, .int (fosterP T items).2]) H) : WC (d + 2) f_foster_place [.ref (h + 2)] H Q := by
  refine wc_of (ρ := [("builder", .ref (h + 2))]) rfl ?_
  unfold f_foster_place
  dsimp only
  have hl2 : (iV items).length ≤ lim := by rw [List.length_map]; exact hl
  ((with_reducible refine sc ?_))
  ((with_reducible refine bs_assign (be_attr ?_)); refine bvar rfl ?_; (with_reducible refine battr (a_tree S) ?_); (with_reducible refine bkAs_c ?_); simp only [setE, a_tree S])
  ((with_reducible refine sc ?_))
  ((with_reducible refine bs_assign (be_attr (be_attr ?_))); refine bvar rfl ?_; (with_reducible refine battr (a_stack S) ?_); (with_reducible refine battr (a_items S) ?_); (with_reducible refine bkAs_c ?_); simp only [setE, a_stack S, a_items S])
  ((with_reducible refine sc ?_))
  ((with_reducible refine bs_assign (be_bin (be_call (bes_cons ?_)))); refine bvar rfl ?_; (with_reducible refine bkEs1_nil ?_); (with_reducible refine blen (len_ch (b_items S) hl2) ?_); (with_reducible refine bkBin1_eq (bwE_int ?_)); (with_reducible refine bbin bin_sub ?_); (with_reducible refine bkAs_c ?_); simp only [setE, len_ch (b_items S) hl2])
  have e0 : (items.length : Int) - 1 = ((items.length - 1 : Nat) : Int) := by lia
  rw [e0, wSs_cons]
  ((with_reducible refine bs_while ?_))
  refine ⟨items.length - 1 + 1, fp_loop S L hI hl (b_items S) (items.length - 1) _ (by lia) (by simp only [BEq.rfl, List.lookup_cons, eq_self]) (by simp only [String.reduceBEq, BEq.rfl, List.lookup_cons, eq_self]) (by simp only [String.reduceBEq, BEq.rfl, List.lookup_cons, eq_self]) fun ρ h1 h2 h3 => ?_⟩
  ((with_reducible refine bcont_next ?_))
  have hd := fdown_le T items (items.length - 1)
  generalize ha : fdown T items (items.length - 1) = a at h1 hd
  have q' : Q (.tup [.int (fosterP T items).1, .int (fosterP T items).2]) H := q
  unfold fosterP at q'
  rw [ha] at q'
  dsimp only at q'
  have oI : Ok T (gi items (a : Int)) := hI _ (gi_mem (by lia) (by lia))
  have gI := sub_i (b_items S) (x := (a : Int)) (by lia) (by lia) hl
  ((with_reducible refine sc ?_))
  ((with_reducible refine bs_assign (be_sub ?_)); (with_reducible refine bvar (by assumption) ?_); (with_reducible refine bkSub1_eq ?_); (with_reducible refine bvar (by assumption) ?_); (with_reducible refine bsub2 (by assumption) ?_); (with_reducible refine bkAs_c ?_); simp only [setE])
  ((with_reducible refine sc ?_))
  ((with_reducible refine bs_ifs (bt_not (bt_meth (be_meth ?_)))); refine bvar (by (simp only [List.lookup_cons, String.reduceBEq]; first | done | assumption | rfl)) ?_; (with_reducible refine bki (k_tree S (f := "is_html") rfl) fm_is_html ?_); (with_reducible refine bes_cons ?_); refine bvar rfl ?_; (with_reducible refine bkEs1_cons (bwE_str (bkEs1_nil (bkEs2_eq (bkM4_eq ?_))))))
  refine c_is_html S L oI ?_
  ((with_reducible refine bkTr_b (bkTn_eq ?_)); simp only [cont_next, wSs_nil, kIf_eq])
  cases e1 : isHtml T (gi items (a : Int)) "table" with
  | false =>
    rw [if_pos e1] at q'
    (simp only [Bool.not_false, eq_self]; simp only [true_implies, false_implies, and_true, Bool.true_eq_false])
    ((with_reducible refine sc ?_))
    ((with_reducible refine bs_ret (be_tup (bes_cons ?_))); refine bvar rfl ?_; (with_reducible refine bkEs1_cons (be_neg1 (bkEs1_nil (bkEs2_eq (bkTup_2 (bkRet_c (bcont_ret (bkFn_r ?_)))))))))
    exact q'
  | true =>
    rw [if_neg (by rw [e1]; decide)] at q'
    (simp only [Bool.not_true, eq_self]; simp only [true_implies, false_implies, true_and, Bool.false_eq_true])
    ((with_reducible refine sc ?_))
    ((with_reducible refine bs_ifs (bt_cmp (be_sub (be_attr ?_)))); refine bvar (by (simp only [List.lookup_cons, String.reduceBEq]; first | done | assumption | rfl)) ?_; (with_reducible refine battr (a_parents S) ?_); (with_reducible refine bkSub1_eq ?_); refine bvar rfl ?_; (with_reducible refine bsub2 (g_parents S L oI) ?_); (with_reducible refine bkc1_eq (be_neg1 ?_)); (with_reducible refine bcmp cmp_ne_i ?_); simp only [Int.reduceNeg, cont_next, wSs_nil, kIf_eq, a_parents S, g_parents S L oI])
    by_cases e2 : gi T.parents (gi items (a : Int)) = -1
    · rw [if_neg (by rw [e2]; decide)] at q'
      (simp only [Int.reduceNeg, decide_true, Bool.not_true, eq_self, e2]; simp only [true_implies, false_implies, true_and, Bool.false_eq_true])
      ((with_reducible refine sc ?_))
      ((with_reducible refine bs_ifs (bt_cmp ?_)); refine bvar (by (simp only [List.lookup_cons, String.reduceBEq]; first | done | assumption | rfl)) ?_; (with_reducible refine bkc1_eq (bwE_int ?_)); (with_reducible refine bcmp cmp_gt ?_); simp only [decide_eq_true_eq, decide_eq_false_iff_not, cont_next, wSs_nil, kIf_eq])
      by_cases e3 : 0 < a
      · rw [if_pos e3] at q'
        have g0 : (a : Int) > 0 := by lia
        have gI2 := sub_i (b_items S) (x := (a : Int) - 1) (by lia) (by lia) hl
        (simp only [not_true_eq_false, g0]; simp only [true_implies, false_implies, and_true])
        ((with_reducible refine sc ?_))
        ((with_reducible refine bs_assign (be_sub ?_)); refine bvar (by (simp only [List.lookup_cons, String.reduceBEq]; first | done | assumption | rfl)) ?_; (with_reducible refine bkSub1_eq (be_bin ?_)); refine bvar (by (simp only [List.lookup_cons, String.reduceBEq]; first | done | assumption | rfl)) ?_; (with_reducible refine bkBin1_eq (bwE_int ?_)); (with_reducible refine bbin bin_sub ?_); (with_reducible refine bsub2 (by assumption) ?_); (with_reducible refine bkAs_c (bwSs_nil (bcont_next ?_))); simp only [setE])
        ((with_reducible refine sc ?_))
        ((with_reducible refine bs_ret (be_tup (bes_cons ?_))); refine bvar rfl ?_; (with_reducible refine bkEs1_cons (be_neg1 (bkEs1_nil (bkEs2_eq (bkTup_2 (bkRet_c (bkFn_r ?_))))))))
        exact q'
      · rw [if_neg e3] at q'
        have g0 : ¬ (a : Int) > 0 := by lia
        (simp only [not_false_eq_true, g0]; simp only [true_implies, false_implies, true_and])
        ((with_reducible refine sc ?_))
        ((with_reducible refine bs_ret (be_tup (bes_cons ?_))); refine bvar rfl ?_; (with_reducible refine bkEs1_cons (be_neg1 (bkEs1_nil (bkEs2_eq (bkTup_2 (bkRet_c (bkFn_r ?_))))))))
        exact q'
    · rw [if_pos e2] at q'
      (simp only [Int.reduceNeg, decide_false, Bool.not_false, eq_self, e2]; simp only [true_implies, false_implies, and_true, Bool.true_eq_false])
      ((with_reducible refine sc ?_))
      ((with_reducible refine bs_ret (be_tup (bes_cons (be_sub (be_attr ?_))))); refine bvar (by (simp only [List.lookup_cons, String.reduceBEq]; first | done | assumption | rfl)) ?_; (with_reducible refine battr (a_parents S) ?_); (with_reducible refine bkSub1_eq ?_); refine bvar rfl ?_; (with_reducible refine bsub2 (g_parents S L oI) ?_); (with_reducible refine bkEs1_cons ?_); refine bvar rfl ?_; (with_reducible refine bkEs1_nil (bkEs2_eq (bkTup_2 (bkRet_c (bcont_ret (bkFn_r ?_)))))))
      exact q'

noncomputable def contGet (l : List (Int × Int)) (x : Int) : Int := (l.lookup x).getD 0
theorem lookup_contD : ∀ (l : List (Int × Int)) (x : Int), (contD l).lookup x = (l.lookup x).map .int
  | [], _ => rfl
  | (k, v) :: r, x => by
    show List.lookup x ((k, AV.int v) :: contD r) = _
    rw [List.lookup_cons, List.lookup_cons]
    split
    · rfl
    · exact lookup_contD r x
theorem hasK_lookup : ∀ (l : List (Int × Int)) (x : Int), hasK l x = true → l.lookup x = some (contGet l x)
  | [], _, h => by cases h
  | (k, v) :: r, x, h => by
    unfold contGet
    rw [List.lookup_cons]
    cases e : x == k with
    | true => rfl
    | false =>
      have : hasK r x = true := by
        unfold hasK at h ⊢
        rw [List.any_cons] at h
        have e' : (k == x) = false := by rw [beq_eq_false_iff_ne] at e ⊢; exact fun q => e q.symm
        rw [e'] at h; exact h
      exact hasK_lookup r x this
theorem sub_d {a : Nat} {l : List (Int × Int)} (h : H[a]? = some (.dict (contD l))) (hk : hasK l x = true) : subA H (.ref a) (.int x) = some (.int (contGet l x)) := by
  unfold subA; simp only [h]
  rw [lookup_contD, hasK_lookup l x hk]; rfl

noncomputable def placeP (T : Tr) (items : List Int) (f : Bool) (target : Int) : Int × Int :=
  let here := if target = -1 then lastOf items else target
  if here = -1 then (0, -1)
  else
    let hb := if (f && (decide (gs T.spaces here = "html") && isPart (gs T.names here))) = true then fosterP T items else (here, -1)
    if hasK T.cont hb.1 = true then (contGet T.cont hb.1, -1) else hb

theorem place_body (S : Sat H (allD h T f items R)) (L : Ln B T) (hI : ∀ y ∈ items, Ok T y) (hl : items.length ≤ lim) {t : Int} (ht : t = -1 ∨ Ok T t) (hne : t = -1 ∨ 0 < items.length)
    (q : Q (.tup [.int (placeP T items f t).1, .int (placeP T items f t).2]) H) : wSs (d + 2) f_place_for.body [("target", .int t), ("builder", .ref (h + 2))] H (kFn Q) := by
  unfold f_place_for
  dsimp only
  ((with_reducible refine sc ?_))
  ((with_reducible refine bs_assign (be_attr ?_)); refine bvar rfl ?_; (with_reducible refine battr (a_tree S) ?_); (with_reducible refine bkAs_c ?_); simp only [setE, a_tree S])
  ((with_reducible refine sc ?_))
  ((with_reducible refine bs_assign ?_); refine bvar rfl ?_; (with_reducible refine bkAs_c ?_); simp only [setE])
  ((with_reducible refine sc ?_))
  ((with_reducible refine bs_ifs (bt_cmp ?_)); refine bvar rfl ?_; (with_reducible refine bkc1_eq (be_neg1 ?_)); (with_reducible refine bcmp cmp_eq_i ?_); simp only [Int.reduceNeg, decide_eq_true_eq, decide_eq_false_iff_not, cont_next, wSs_nil, kIf_eq])
  unfold placeP at q
  dsimp only at q
  -- behind the first if
  have rest : ∀ (here : Int) (ρ : AE), (here = -1 ∨ Ok T here) → (here = -1 ∨ 0 < items.length) → here = (if t = -1 then lastOf items else t) → ρ.lookup "here" = some (.int here) → ρ.lookup "tree" = some (.ref (h + 4)) → ρ.lookup "builder" = some (.ref (h + 2)) →
      wSs (d + 2) (.cons (.ifs (.cmp .Eq (.var "here") (.neg (.int 1))) (.cons (.ret (.tup (.cons (.int 0) (.cons (.neg (.int 1)) .nil)))) .nil) .nil) (.cons (.assign "before" (.neg (.int 1))) (.cons (.ifs (.and (.cons (.attr (.var "builder") "is_foster") (.cons (.cmp .Eq (.sub (.attr (.var "tree") "spaces") (.var "here")) (.str "html")) (.cons (.call "is_table_part" (.cons (.sub (.attr (.var "tree") "names") (.var "here")) .nil)) .nil)))) (.cons (.unpack ["here", "before"] (.call "foster_place" (.cons (.var "builder") .nil))) .nil) .nil) (.cons (.ifs (.cmp .In (.var "here") (.attr (.var "tree") "contents")) (.cons (.ret (.tup (.cons (.sub (.attr (.var "tree") "contents") (.var "here")) (.cons (.neg (.int 1)) .nil)))) .nil) .nil) (.cons (.ret (.tup (.cons (.var "here") (.cons (.var "before") .nil)))) .nil))))) ρ H (kFn Q) := by
    intro here ρ oh hn he h1 h2 h3
    rw [← he] at q
    ((with_reducible refine sc ?_))
    ((with_reducible refine bs_ifs (bt_cmp ?_)); (with_reducible refine bvar (by assumption) ?_); (with_reducible refine bkc1_eq (be_neg1 ?_)); (with_reducible refine bcmp cmp_eq_i ?_); simp only [Int.reduceNeg, decide_eq_true_eq, decide_eq_false_iff_not, cont_next, wSs_nil, kIf_eq])
    by_cases e1 : here = -1
    · rw [if_pos e1] at q
      (simp only [Int.reduceNeg, not_true_eq_false, eq_self, e1]; simp only [true_implies, false_implies, and_true])
      ((with_reducible refine sc ?_))
      ((with_reducible refine bs_ret (be_tup (bes_cons (bwE_int (bkEs1_cons (be_neg1 (bkEs1_nil (bkEs2_eq (bkTup_2 (bkRet_c (bcont_ret (bkFn_r ?_)))))))))))))
      exact q
    · rw [if_neg e1] at q
      (simp only [Int.reduceNeg, not_false_eq_true, e1]; simp only [true_implies, false_implies, true_and])
      have ok := oh.resolve_left e1
      have pos := hn.resolve_left e1
      have tail : ∀ (hb : Int × Int) (ρ : AE), hb = (if (f && (decide (gs T.spaces here = "html") && isPart (gs T.names here))) = true then fosterP T items else (here, -1)) → ρ.lookup "here" = some (.int hb.1) → ρ.lookup "before" = some (.int hb.2) → ρ.lookup "tree" = some (.ref (h + 4)) →
          wSs (d + 2) (.cons (.ifs (.cmp .In (.var "here") (.attr (.var "tree") "contents")) (.cons (.ret (.tup (.cons (.sub (.attr (.var "tree") "contents") (.var "here")) (.cons (.neg (.int 1)) .nil)))) .nil) .nil) (.cons (.ret (.tup (.cons (.var "here") (.cons (.var "before") .nil)))) .nil)) ρ H (kFn Q) := by
        intro hb ρ hhb k1 k2 k3
        rw [← hhb] at q
        ((with_reducible refine sc ?_))
        ((with_reducible refine bs_ifs (bt_cmp ?_)); (with_reducible refine bvar (by assumption) ?_); (with_reducible refine bkc1_eq (be_attr ?_)); (with_reducible refine bvar (by assumption) ?_); (with_reducible refine battr (a_contents S) ?_); (with_reducible refine bcmp (cmp_in_d (t_contents S)) ?_); simp only [cont_next, wSs_nil, kIf_eq, a_contents S, cmp_in_d (t_contents S)])
        cases e2 : hasK T.cont hb.1 with
        | true =>
          rw [if_pos e2] at q
          (simp only [eq_self]; simp only [true_implies, false_implies, and_true, Bool.true_eq_false])
          ((with_reducible refine sc ?_))
          ((with_reducible refine bs_ret (be_tup (bes_cons (be_sub (be_attr ?_))))); (with_reducible refine bvar (by assumption) ?_); (with_reducible refine battr (a_contents S) ?_); (with_reducible refine bkSub1_eq ?_); (with_reducible refine bvar (by assumption) ?_); (with_reducible refine bsub2 (sub_d (t_contents S) e2) ?_); (with_reducible refine bkEs1_cons (be_neg1 (bkEs1_nil (bkEs2_eq (bkTup_2 (bkRet_c (bcont_ret (bkFn_r ?_)))))))))
          exact q
        | false =>
          rw [if_neg (by rw [e2]; decide)] at q
          (simp only [eq_self]; simp only [true_implies, false_implies, true_and, Bool.false_eq_true])
          ((with_reducible refine sc ?_))
          ((with_reducible refine bs_ret (be_tup (bes_cons ?_))); (with_reducible refine bvar (by assumption) ?_); (with_reducible refine bkEs1_cons ?_); (with_reducible refine bvar (by assumption) ?_); (with_reducible refine bkEs1_nil (bkEs2_eq (bkTup_2 (bkRet_c (bkFn_r ?_))))))
          exact q
      ((with_reducible refine sc ?_))
      ((with_reducible refine bs_assign (be_neg1 (bkAs_c ?_))); simp only [Int.reduceNeg, setE])
      ((with_reducible refine sc ?_))
      ((with_reducible refine bs_ifs (bt_and (bts_cons (bt_attr (be_attr ?_))))); refine bvar (by (simp only [List.lookup_cons, String.reduceBEq]; first | done | assumption | rfl)) ?_; (with_reducible refine battr (a_foster S) ?_); (with_reducible refine bkTr_b ?_); simp only [String.reduceBEq, Int.reduceNeg, opt_some, List.lookup_cons, cont_next, wSs_nil, kv_eq, e_var, e_attr, kAttr_eq, e_sub, t_cmp, ts_cons, kTs_t, kIf_eq, h2, a_foster S])
      cases f with
      | false =>
        (simp only [Int.reduceNeg, eq_self]; simp only [Int.reduceNeg, true_implies, false_implies, true_and, Bool.false_eq_true])
        exact tail (here, -1) _ (by rw [if_neg (by simp)]) (by simp only [String.reduceBEq, Int.reduceNeg, List.lookup_cons, eq_self, h1]) (by simp only [BEq.rfl, Int.reduceNeg, List.lookup_cons, eq_self]) (by simp only [String.reduceBEq, Int.reduceNeg, List.lookup_cons, eq_self, h2])
      | true =>
        (simp only [Int.reduceNeg, eq_self, a_spaces S, g_spaces S L ok]; simp only [String.reduceBEq, Int.reduceNeg, opt_some, List.lookup_cons, cmp_eq_s, decide_eq_true_eq, decide_eq_false_iff_not, true_implies, false_implies, and_true, Bool.true_eq_false, cont_next, wSs_nil, wE_str, kv_eq, e_var, e_attr, kAttr_eq, e_sub, kSub1_eq, kSub2_eq, kc1_eq, kc2_eq, e_call, es_cons, t_call, ts_cons, kTs_t, kIf_eq, h1, h2, a_spaces S, g_spaces S L ok])
        by_cases e2 : gs T.spaces here = "html"
        · (simp only [Int.reduceNeg, not_true_eq_false, eq_self, e2, a_names S, g_names S L ok]; simp only [String.reduceBEq, Int.reduceNeg, opt_some, List.lookup_cons, true_implies, false_implies, and_true, kv_eq, e_var, kSub1_eq, kSub2_eq, kEs1_nil, c_g1, h1, a_names S, g_names S L ok])
          refine c_is_table_part ?_
          cases e3 : isPart (gs T.names here) with
          | true =>
            ((with_reducible refine bkTr_b (bkTs_tt (bts_nil (bkIf_t ?_)))))
            ((with_reducible refine sc ?_))
            ((with_reducible refine bs_unpack (be_call (bes_cons ?_))); refine bvar (by (simp only [List.lookup_cons, String.reduceBEq]; first | done | assumption | rfl)) ?_; (with_reducible refine bkEs1_nil (bc_g2 ?_)))
            refine c_foster_place S L hI pos hl ?_
            (simp only [Int.reduceNeg, true_and, eq_self, List.length_cons, List.length_nil, Nat.reduceAdd, Nat.zero_add, List.zip_cons_cons, List.zip_nil_right, List.reverse_cons, List.reverse_nil, List.cons_append, List.nil_append, cont_next, wSs_nil, kUn_eq])
            exact tail (fosterP T items) _ (by rw [if_pos (by rw [e2, e3]; rfl)]) (by simp only [String.reduceBEq, BEq.rfl, Int.reduceNeg, List.lookup_cons, eq_self]) (by simp only [BEq.rfl, Int.reduceNeg, List.lookup_cons, eq_self]) (by simp only [String.reduceBEq, Int.reduceNeg, List.lookup_cons, eq_self, h2])
          | false =>
            ((with_reducible refine bkTr_b (bkTs_tf (bkIf_f (bwSs_nil (bcont_next ?_))))))
            exact tail (here, -1) _ (by rw [if_neg (by rw [e3]; simp)]) (by simp only [String.reduceBEq, Int.reduceNeg, List.lookup_cons, eq_self, h1]) (by simp only [BEq.rfl, Int.reduceNeg, List.lookup_cons, eq_self]) (by simp only [String.reduceBEq, Int.reduceNeg, List.lookup_cons, eq_self, h2])
        · (simp only [Int.reduceNeg, not_false_eq_true, e2]; simp only [Int.reduceNeg, true_implies, false_implies, true_and])
          exact tail (here, -1) _ (by rw [if_neg (by simp [e2])]) (by simp only [String.reduceBEq, Int.reduceNeg, List.lookup_cons, eq_self, h1]) (by simp only [BEq.rfl, Int.reduceNeg, List.lookup_cons, eq_self]) (by simp only [String.reduceBEq, Int.reduceNeg, List.lookup_cons, eq_self, h2])
  by_cases e0 : t = -1
  · (simp only [Int.reduceNeg, not_true_eq_false, eq_self, e0]; simp only [Int.reduceNeg, true_implies, false_implies, and_true])
    ((with_reducible refine sc ?_))
    ((with_reducible refine bs_assign (be_meth (be_attr ?_))); refine bvar rfl ?_; (with_reducible refine battr (a_stack S) ?_); (with_reducible refine bki (k_current S) fm_current ?_); (with_reducible refine bes_nil (bkM4_eq ?_)))
    refine c_current S hl ?_
    have hlast : lastOf items = -1 ∨ (Ok T (lastOf items) ∧ 0 < items.length) := by
      unfold lastOf
      by_cases e : items = []
      · subst e; exact .inl rfl
      · have hp : 0 < items.length := List.length_pos_iff.mpr e
        rw [if_neg (by rw [List.isEmpty_iff]; exact e)]
        exact .inr ⟨hI _ (gi_mem (by lia) (by lia)), hp⟩
    ((with_reducible refine bkAs_c (bwSs_nil (bcont_next ?_))); simp only [Int.reduceNeg, setE])
    refine rest (lastOf items) _ (hlast.imp id And.left) (hlast.imp id And.right) (by rw [if_pos e0]) (by simp only [BEq.rfl, Int.reduceNeg, List.lookup_cons, eq_self]) (by simp only [String.reduceBEq, BEq.rfl, Int.reduceNeg, List.lookup_cons, eq_self]) (by simp only [String.reduceBEq, BEq.rfl, Int.reduceNeg, List.lookup_cons, eq_self])
  · (simp only [Int.reduceNeg, not_false_eq_true, e0]; simp only [true_implies, false_implies, true_and])
    exact rest t _ ht hne (by rw [if_neg e0]) (by simp only [BEq.rfl, List.lookup_cons, eq_self]) (by simp only [String.reduceBEq, BEq.rfl, List.lookup_cons, eq_self]) (by simp only [String.reduceBEq, BEq.rfl, List.lookup_cons, eq_self])

theorem c_place_for (S : Sat H (allD h T f items R)) (L : Ln B T) (hI : ∀ y ∈ items, Ok T y) (hl : items.length ≤ lim) {t : Int} (ht : t = -1 ∨ Ok T t) (hne : t = -1 ∨ 0 < items.length)
    (q : Q (.tup [.int (placeP T items f t).1, .int (placeP T items f t).2]) H) : WC (d + 3) f_place_for [.ref (h + 2), .int t] H Q := WC_of rfl (place_body S L hI hl ht hne q)
theorem c_place_for1 (S : Sat H (allD h T f items R)) (L : Ln B T) (hI : ∀ y ∈ items, Ok T y) (hl : items.length ≤ lim)
    (q : Q (.tup [.int (placeP T items f (-1)).1, .int (placeP T items f (-1)).2]) H) : WC (d + 3) f_place_for [.ref (h + 2)] H Q := WC_of rfl (place_body S L hI hl (.inl rfl) (.inl rfl) q)
end
end Mine
end
section
set_option maxRecDepth 100000
namespace Mine

section
variable {l m : List String} {li : List Int} {lc : List (Nat × List Int)} {x y : Int}
theorem gs_l (h0 : 0 ≤ x) (h1 : x < l.length) : gs (l ++ m) x = gs l x := by
  unfold gs; rw [List.getD_eq_getElem?_getD, List.getD_eq_getElem?_getD, List.getElem?_append_left (toNat_lt h0 h1)]
theorem gs_r {s : String} : gs (l ++ [s]) (l.length : Int) = s := by
  unfold gs; rw [List.getD_eq_getElem?_getD, Int.toNat_natCast, List.getElem?_append_right (Nat.le_refl _), Nat.sub_self]; rfl
theorem gi_l {m : List Int} (h0 : 0 ≤ x) (h1 : x < li.length) : gi (li ++ m) x = gi li x := by
  unfold gi; rw [List.getD_eq_getElem?_getD, List.getD_eq_getElem?_getD, List.getElem?_append_left (toNat_lt h0 h1)]
theorem gi_r {s : Int} : gi (li ++ [s]) (li.length : Int) = s := by
  unfold gi; rw [List.getD_eq_getElem?_getD, Int.toNat_natCast, List.getElem?_append_right (Nat.le_refl _), Nat.sub_self]; rfl
theorem gc_l {m : List (Nat × List Int)} (h0 : 0 ≤ x) (h1 : x < lc.length) : gc (lc ++ m) x = gc lc x := by
  unfold gc; rw [List.getD_eq_getElem?_getD, List.getD_eq_getElem?_getD, List.getElem?_append_left (toNat_lt h0 h1)]
theorem gc_r {s : Nat × List Int} : gc (lc ++ [s]) (lc.length : Int) = s.2 := by
  unfold gc; rw [List.getD_eq_getElem?_getD, Int.toNat_natCast, List.getElem?_append_right (Nat.le_refl _), Nat.sub_self]; rfl
theorem gr_l {m : List (Nat × List Int)} (h0 : 0 ≤ x) (h1 : x < lc.length) : gr (lc ++ m) x = gr lc x := by
  unfold gr; rw [List.getD_eq_getElem?_getD, List.getD_eq_getElem?_getD, List.getElem?_append_left (toNat_lt h0 h1)]
theorem gi_set {v : Int} (h0 : 0 ≤ x) (h1 : x < li.length) (hy : 0 ≤ y) : gi (li.set x.toNat v) y = if y = x then v else gi li y := by
  unfold gi; rw [List.getD_eq_getElem?_getD, List.getD_eq_getElem?_getD, List.getElem?_set]
  by_cases e : y = x
  · subst e; rw [if_pos rfl, if_pos rfl, if_pos (toNat_lt h0 h1)]; rfl
  · rw [if_neg e, if_neg (fun q => e (by lia))]
theorem gc_set {v : Nat × List Int} (h0 : 0 ≤ x) (h1 : x < lc.length) (hy : 0 ≤ y) : gc (lc.set x.toNat v) y = if y = x then v.2 else gc lc y := by
  unfold gc; rw [List.getD_eq_getElem?_getD, List.getD_eq_getElem?_getD, List.getElem?_set]
  by_cases e : y = x
  · subst e; rw [if_pos rfl, if_pos rfl, if_pos (toNat_lt h0 h1)]; rfl
  · rw [if_neg e, if_neg (fun q => e (by lia))]
end

structure Inv (B : Nat) (T : Tr) : Prop where
  ln : Ln B T
  par : Par T
  cok : ∀ p, Ok T p → ∀ c ∈ gc T.ch p, Ok T c
  pch : ∀ i, Ok T i → gi T.parents i ≠ -1 → i ∈ gc T.ch (gi T.parents i)
  kk : ∀ p ∈ T.cont, Ok T p.1 ∧ Ok T p.2
  doc : ∀ i, Ok T i → (gs T.kinds i = "document" ↔ i = 0)
  n0 : 0 < T.kinds.length
  cl : T.cont.length ≤ B

section
variable {T : Tr} {B : Nat} {x y p i : Int} {k s n t : String} {r1 r2 : Nat}
theorem add_len : (T.add k s n t r1 r2).kinds.length = T.kinds.length + 1 := by
  show (T.kinds ++ [k]).length = _; rw [List.length_append]; rfl
theorem ok_add (o : Ok T x) : Ok (T.add k s n t r1 r2) x := ⟨o.1, by rw [add_len]; have := o.2; lia⟩
theorem ok_new : Ok (T.add k s n t r1 r2) (T.kinds.length : Int) := ⟨by lia, by rw [add_len]; lia⟩
theorem ok_add_inv (o : Ok (T.add k s n t r1 r2) x) : Ok T x ∨ x = (T.kinds.length : Int) := by
  have a := o.1
  have b := o.2
  rw [add_len] at b
  by_cases e : x = (T.kinds.length : Int)
  · exact .inr e
  · exact .inl ⟨a, by lia⟩
theorem par_add (L : Ln B T) (o : Ok T x) : gi (T.add k s n t r1 r2).parents x = gi T.parents x := gi_l o.1 (by rw [L.parents]; exact o.2)
theorem par_new (L : Ln B T) : gi (T.add k s n t r1 r2).parents (T.kinds.length : Int) = -1 := by rw [← L.parents]; exact gi_r
theorem gc_add (L : Ln B T) (o : Ok T x) : gc (T.add k s n t r1 r2).ch x = gc T.ch x := gc_l o.1 (by rw [L.ch]; exact o.2)
theorem gc_new (L : Ln B T) : gc (T.add k s n t r1 r2).ch (T.kinds.length : Int) = [] := by rw [← L.ch]; exact gc_r
theorem kind_add (o : Ok T x) : gs (T.add k s n t r1 r2).kinds x = gs T.kinds x := gs_l o.1 o.2
theorem kind_new : gs (T.add k s n t r1 r2).kinds (T.kinds.length : Int) = k := gs_r
theorem name_add (L : Ln B T) (o : Ok T x) : gs (T.add k s n t r1 r2).names x = gs T.names x := gs_l o.1 (by rw [L.names]; exact o.2)
theorem space_add (L : Ln B T) (o : Ok T x) : gs (T.add k s n t r1 r2).spaces x = gs T.spaces x := gs_l o.1 (by rw [L.spaces]; exact o.2)
theorem name_new (L : Ln B T) : gs (T.add k s n t r1 r2).names (T.kinds.length : Int) = n := by rw [← L.names]; exact gs_r
theorem space_new (L : Ln B T) : gs (T.add k s n t r1 r2).spaces (T.kinds.length : Int) = s := by rw [← L.spaces]; exact gs_r

theorem Inv.add (I : Inv B T) (hB : B < 1000) (hk : k ≠ "document") (ht : t.length ≤ B + 1) : Inv (B + 1) (T.add k s n t r1 r2) := by
  have L := I.ln
  refine ⟨L.add hB k s n t ht r1 r2, fun i o => ?_, fun p o c hc => ?_, fun i o hp => ?_, fun p hp => ⟨ok_add (I.kk p hp).1, ok_add (I.kk p hp).2⟩, fun i o => ?_, by rw [add_len]; lia, by have := I.cl; show T.cont.length ≤ B + 1; lia⟩
  · rcases ok_add_inv o with o | rfl
    · rw [par_add L o]; exact I.par i o
    · rw [par_new L]; exact .inl rfl
  · rcases ok_add_inv o with o | rfl
    · rw [gc_add L o] at hc; exact ok_add (I.cok p o c hc)
    · rw [gc_new L] at hc; cases hc
  · rcases ok_add_inv o with o | rfl
    · rw [par_add L o] at hp ⊢
      have op : Ok T (gi T.parents i) := by
        rcases I.par i o with e | e
        · exact absurd e hp
        · exact ⟨e.1, by have := o.2; lia⟩
      rw [gc_add L op]; exact I.pch i o hp
    · rw [par_new L] at hp; exact absurd rfl hp
  · rcases ok_add_inv o with o | rfl
    · rw [kind_add o]; exact I.doc i o
    · rw [kind_new]
      have := I.n0
      exact ⟨fun e => absurd e hk, fun e => by lia⟩

theorem Inv.ins (I : Inv B T) (hB : B < 1000) (op : Ok T p) (ox : Ok T x) (hpx : p < x) (j : Nat) : Inv (B + 1) (T.ins p x j) := by
  have L := I.ln
  have ch : ∀ y, 0 ≤ y → gc (T.ins p x j).ch y = if y = p then (gc T.ch p).take j ++ x :: (gc T.ch p).drop j else gc T.ch y := fun y hy => gc_set op.1 (by rw [L.ch]; exact op.2) hy
  have pr : ∀ y, 0 ≤ y → gi (T.ins p x j).parents y = if y = x then p else gi T.parents y := fun y hy => gi_set ox.1 (by rw [L.parents]; exact ox.2) hy
  have mem : ∀ c, c ∈ (gc T.ch p).take j ++ x :: (gc T.ch p).drop j ↔ c ∈ gc T.ch p ∨ c = x := fun c => by
    rw [List.mem_append, List.mem_cons]
    have e : c ∈ gc T.ch p ↔ c ∈ (gc T.ch p).take j ∨ c ∈ (gc T.ch p).drop j := by rw [← List.mem_append, List.take_append_drop]
    rw [e]
    exact ⟨fun h => h.elim (fun q => .inl (.inl q)) (fun h => h.elim .inr fun q => .inl (.inr q)), fun h => h.elim (fun h => h.elim .inl fun q => .inr (.inr q)) fun q => .inr (.inl q)⟩
  refine ⟨⟨L.spaces, L.names, L.ar, L.texts, ?_, ?_, by have := L.le; show T.kinds.length ≤ B + 1; lia, ?_, fun t ht => by have := L.tle t ht; lia, by lia⟩, fun i o => ?_, fun q o c hc => ?_, fun i o hp => ?_, I.kk, I.doc, I.n0, by have := I.cl; show T.cont.length ≤ B + 1; lia⟩
  · show (T.parents.set _ _).length = _; rw [List.length_set]; exact L.parents
  · show (T.ch.set _ _).length = _; rw [List.length_set]; exact L.ch
  · intro q hq
    rcases List.mem_or_eq_of_mem_set hq with m | rfl
    · have := L.cle q m; lia
    · have := gc_le L op
      dsimp only
      rw [List.length_append, List.length_cons, List.length_take, List.length_drop]; lia
  · rw [pr i o.1]
    split
    · rename_i e; exact .inr ⟨op.1, by lia⟩
    · exact I.par i o
  · rw [ch q o.1] at hc
    split at hc
    · rcases (mem c).mp hc with m | rfl
      · exact I.cok p op c m
      · exact ox
    · exact I.cok q o c hc
  · rw [pr i o.1] at hp ⊢
    split
    · rename_i e; subst e
      rw [ch p op.1, if_pos rfl]; exact (mem i).mpr (.inr rfl)
    · rename_i e
      rw [if_neg e] at hp
      have oq : 0 ≤ gi T.parents i := by
        rcases I.par i o with e | e
        · exact absurd e hp
        · exact e.1
      rw [ch _ oq]
      split
      · rename_i e2; exact (mem i).mpr (.inl (e2 ▸ I.pch i o hp))
      · exact I.pch i o hp

theorem Inv.text (I : Inv B T) (hB : B < 1000) (ht : t.length ≤ B + 1) (j : Nat) : Inv (B + 1) { T with texts := T.texts.set j t } := by
  have L := I.ln
  refine ⟨⟨L.spaces, L.names, L.ar, ?_, L.parents, L.ch, by have := L.le; show T.kinds.length ≤ B + 1; lia, fun p hp => by have := L.cle p hp; lia, fun t ht' => ?_, by lia⟩, I.par, I.cok, I.pch, I.kk, I.doc, I.n0, by have := I.cl; show T.cont.length ≤ B + 1; lia⟩
  · show (T.texts.set _ _).length = _; rw [List.length_set]; exact L.texts
  · rcases List.mem_or_eq_of_mem_set ht' with m | rfl
    · have := L.tle t m; lia
    · exact ht

theorem Inv.elem (I : Inv B T) (hB : B + 1 < 1000) {r1 r2 r3 r4 : Nat} : Inv (B + 2) (T.elem n s r1 r2 r3 r4) := by
  have I1 : Inv (B + 1) (T.add "element" s n "" r1 r2) := I.add (by lia) (by decide) (by simp)
  unfold Tr.elem
  split
  · have I2 : Inv (B + 2) ((T.add "element" s n "" r1 r2).add "fragment" "" "" "" r3 r4) := I1.add (by lia) (by decide) (by simp)
    refine ⟨⟨I2.ln.spaces, I2.ln.names, I2.ln.ar, I2.ln.texts, I2.ln.parents, I2.ln.ch, I2.ln.le, I2.ln.cle, I2.ln.tle, I2.ln.hB⟩, I2.par, I2.cok, I2.pch, fun p hp => ?_, I2.doc, I2.n0, ?_⟩
    · rcases List.mem_append.mp hp with m | m
      · exact I2.kk p m
      · rw [List.mem_singleton.mp m]
        refine ⟨ok_add (T := T.add "element" s n "" r1 r2) (k := "fragment") (s := "") (n := "") (t := "") (r1 := r3) (r2 := r4) (ok_new (T := T)), ?_⟩
        have := ok_new (T := T.add "element" s n "" r1 r2) (k := "fragment") (s := "") (n := "") (t := "") (r1 := r3) (r2 := r4)
        rw [add_len] at this
        exact this
    · show (T.cont ++ [_]).length ≤ _
      rw [List.length_append]
      have := I.cl
      simp only [List.length_singleton]; lia
  · refine ⟨⟨I1.ln.spaces, I1.ln.names, I1.ln.ar, I1.ln.texts, I1.ln.parents, I1.ln.ch, by have := I1.ln.le; lia, fun p hp => by have := I1.ln.cle p hp; lia, fun p hp => by have := I1.ln.tle p hp; lia, by lia⟩, I1.par, I1.cok, I1.pch, I1.kk, I1.doc, I1.n0, by have := I1.cl; lia⟩
theorem Inv.mono {B' : Nat} (I : Inv B T) (h : B ≤ B') (hB : B' ≤ 1000) : Inv B' T := by
  have L := I.ln
  exact ⟨⟨L.spaces, L.names, L.ar, L.texts, L.parents, L.ch, by have := L.le; lia, fun p hp => by have := L.cle p hp; lia, fun p hp => by have := L.tle p hp; lia, by lia⟩, I.par, I.cok, I.pch, I.kk, I.doc, I.n0, by have := I.cl; lia⟩
end

/-- a place: the parent, and what it is put before -/
structure Spot (T : Tr) (p b : Int) : Prop where
  ok : Ok T p
  before : b = -1 ∨ (Ok T b ∧ gi T.parents b = p ∧ b ∈ gc T.ch p)

theorem contGet_mem {l : List (Int × Int)} {x : Int} (h : hasK l x = true) : (x, contGet l x) ∈ l := by
  have := hasK_lookup l x h
  rw [List.lookup_eq_some_iff] at this
  obtain ⟨l1, l2, e, _⟩ := this
  have m : (x, contGet l x) ∈ l1 ++ (x, contGet l x) :: l2 := List.mem_append_right _ List.mem_cons_self
  rwa [← e] at m

theorem spot_of {T : Tr} {B : Nat} {items : List Int} {f : Bool} {t : Int} (I : Inv B T) (hI : ∀ y ∈ items, Ok T y) (ht : t = -1 ∨ Ok T t) (hne : t = -1 ∨ 0 < items.length) : Spot T (placeP T items f t).1 (placeP T items f t).2 := by
  unfold placeP
  dsimp only
  have hlast : lastOf items = -1 ∨ (Ok T (lastOf items) ∧ 0 < items.length) := by
    unfold lastOf
    by_cases e : items = []
    · subst e; exact .inl rfl
    · have hp : 0 < items.length := List.length_pos_iff.mpr e
      rw [if_neg (by rw [List.isEmpty_iff]; exact e)]
      exact .inr ⟨hI _ (gi_mem (by lia) (by lia)), hp⟩
  have hh : ∀ here, here = (if t = -1 then lastOf items else t) → here = -1 ∨ (Ok T here ∧ 0 < items.length) := by
    intro here e
    by_cases e0 : t = -1
    · rw [if_pos e0] at e; rw [e]; exact hlast
    · rw [if_neg e0] at e; rw [e]; exact .inr ⟨ht.resolve_left e0, hne.resolve_left e0⟩
  generalize he : (if t = -1 then lastOf items else t) = here
  by_cases e1 : here = -1
  · rw [if_pos e1]; exact ⟨⟨by decide, by have := I.n0; show (0 : Int) < _; lia⟩, .inl rfl⟩
  · rw [if_neg e1]
    obtain ⟨ok, hp⟩ := (hh here he.symm).resolve_left e1
    have key : ∀ hb : Int × Int, Spot T hb.1 hb.2 → Spot T (if hasK T.cont hb.1 = true then (contGet T.cont hb.1, -1) else hb).1 (if hasK T.cont hb.1 = true then (contGet T.cont hb.1, -1) else hb).2 := by
      intro hb h
      split
      · rename_i hk; exact ⟨(I.kk _ (contGet_mem hk)).2, .inl rfl⟩
      · exact h
    refine key _ ?_
    split
    · unfold fosterP
      dsimp only
      have hd := fdown_le T items (items.length - 1)
      generalize fdown T items (items.length - 1) = a at hd
      have oI : Ok T (gi items (a : Int)) := hI _ (gi_mem (by lia) (by lia))
      split
      · exact ⟨oI, .inl rfl⟩
      · split
        · rename_i hpp
          refine ⟨?_, .inr ⟨oI, rfl, I.pch _ oI hpp⟩⟩
          rcases I.par _ oI with e | e
          · exact absurd e hpp
          · exact ⟨e.1, by have := oI.2; lia⟩
        · split
          · exact ⟨hI _ (gi_mem (by lia) (by lia)), .inl rfl⟩
          · exact ⟨oI, .inl rfl⟩
    · exact ⟨ok, .inl rfl⟩

noncomputable def aheadP (T : Tr) (p b : Int) : Int := if b = -1 then lastOf (gc T.ch p) else if 0 < (gc T.ch p).idxOf b then gi (gc T.ch p) (((gc T.ch p).idxOf b : Int) - 1) else -1
noncomputable def Tr.put (T : Tr) (k t : String) (p b : Int) (r1 r2 : Nat) : Tr := (T.add k "" "" t r1 r2).ins p (T.kinds.length : Int) (insPos (gc T.ch p) b)
noncomputable def Tr.sign (T : Tr) (t : String) (p b : Int) (r1 r2 : Nat) : Tr :=
  if gs T.kinds p = "document" then T
  else if aheadP T p b ≠ -1 ∧ gs T.kinds (aheadP T p b) = "text" then { T with texts := T.texts.set (aheadP T p b).toNat (gs T.texts (aheadP T p b) ++ t) }
  else T.put "text" t p b r1 r2

theorem aheadP_ok {T : Tr} {B : Nat} (I : Inv B T) {p b : Int} (o : Ok T p) : aheadP T p b = -1 ∨ Ok T (aheadP T p b) := by
  unfold aheadP lastOf
  split
  · split
    · exact .inl rfl
    · rename_i e
      have hp : 0 < (gc T.ch p).length := List.length_pos_iff.mpr (by rwa [List.isEmpty_iff] at e)
      exact .inr (I.cok p o _ (gi_mem (by lia) (by lia)))
  · split
    · have := List.idxOf_le_length (l := gc T.ch p) (a := b)
      exact .inr (I.cok p o _ (gi_mem (by lia) (by lia)))
    · exact .inl rfl

theorem Inv.put {T : Tr} {B : Nat} {k t : String} {p b : Int} {r1 r2 : Nat} (I : Inv B T) (hB : B + 1 < 1000) (hk : k ≠ "document") (ht : t.length ≤ B + 1) (o : Ok T p) : Inv (B + 2) (T.put k t p b r1 r2) := by
  unfold Tr.put
  exact (I.add (by lia) hk ht).ins (by lia) (ok_add o) ok_new o.2 _
theorem Inv.sign {T : Tr} {B : Nat} {t : String} {p b : Int} {r1 r2 : Nat} (I : Inv B T) (hB : B + 1 < 1000) (ht : t.length ≤ 1) (o : Ok T p) : Inv (B + 2) (T.sign t p b r1 r2) := by
  unfold Tr.sign
  split
  · exact I.mono (by lia) (by lia)
  · split
    · rename_i h
      refine (I.text (by lia) (t := gs T.texts (aheadP T p b) ++ t) ?_ _).mono (by lia) (by lia)
      rw [String.length_append]
      have : (gs T.texts (aheadP T p b)).length ≤ B := by
        have oa := (aheadP_ok I o).resolve_left h.1
        have hl : (aheadP T p b).toNat < T.texts.length := by rw [I.ln.texts]; exact toNat_lt oa.1 oa.2
        unfold gs
        rw [List.getD_eq_getElem?_getD, List.getElem?_eq_getElem hl]
        exact I.ln.tle _ (List.getElem_mem _)
      lia
    · exact I.put hB (by decide) (by lia) o
end Mine
end
section
set_option maxRecDepth 100000
namespace Mine
section
variable {H : AH} {h : Nat} {T : Tr} {f : Bool} {items : List Int} {R : List (Nat × AO)} {Q : AV → AH → Prop} {d B : Nat} {x y p : Int}

theorem set_s {a : Nat} {l : List String} {t : String} (h : H[a]? = some (.list (sV l))) (h0 : 0 ≤ x) (h1 : x < l.length) (h2 : l.length ≤ lim) : setsubA H (.ref a) (.int x) (.str t) = some (H.set a (.list (sV (l.set x.toNat t)))) := by
  have e : (sV l).length = l.length := List.length_map ..
  unfold setsubA; simp only [h]
  rw [e, idx_ok h0 h1 h2, if_pos h0, Option.map_some]; simp only [List.map_set]
theorem cat_s {s t : String} (hl : s.length + t.length ≤ lim) : binA H .Add (.str s) (.str t) = some (.str (s ++ t), H) := by
  unfold binA; dsimp only; rw [if_pos hl]

/-- tree.insert(p, a new text or comment, b) -/
theorem put_step (I : Inv B T) (hB : B < 1000) {k t : String} (hk : k ≠ "document") (ht : t.length ≤ 1) {b : Int} (sp : Spot T p b) {r1 r2 : Nat} (S1 : Sat H (treeD h (T.add k "" "" t r1 r2) ++ R))
    (q : ∀ H', Sat H' (treeD h (T.put k t p b r1 r2) ++ R) → Q .none H') : WC (d + 2) f_Tree_insert [.ref (h + 4), .int p, .int T.kinds.length, .int b] H Q := by
  have L := I.ln
  have I1 : Inv (B + 1) (T.add k "" "" t r1 r2) := I.add hB hk (by lia)
  have e := gc_add (k := k) (s := "") (n := "") (t := t) (r1 := r1) (r2 := r2) L sp.ok
  refine c_insert S1 I1.ln I1.par (ok_add sp.ok) ok_new sp.ok.2 (par_new L) (b := b) ?_ ?_ ?_
  · rw [e]; exact sp.before.imp id fun q => q.2.2
  · rcases sp.before with rfl | q
    · lia
    · have := q.1.2; lia
  · intro H' S'
    rw [e] at S'
    exact q H' S'

theorem c_insert_sign (S : Sat H (allD h T f items R)) (I : Inv B T) (hB : B + 1 < 1000) (hI : ∀ y ∈ items, Ok T y) (hl : items.length ≤ lim) {t : String} (ht : t.length ≤ 1)
    (q : ∀ H' r1 r2, Sat H' (allD h (T.sign t (placeP T items f (-1)).1 (placeP T items f (-1)).2 r1 r2) f items R) → Q .none H') : WC (d + 4) f_insert_sign [.ref (h + 2), .str t] H Q := by
  refine wc_of (ρ := [("sign", .str t), ("builder", .ref (h + 2))]) rfl ?_
  unfold f_insert_sign
  dsimp only
  have L := I.ln
  have sp := spot_of (f := f) I hI (t := -1) (.inl rfl) (.inl rfl)
  ((with_reducible refine sc ?_))
  ((with_reducible refine bs_assign (be_attr ?_)); refine bvar rfl ?_; (with_reducible refine battr (a_tree S) ?_); (with_reducible refine bkAs_c ?_); simp only [setE, a_tree S])
  ((with_reducible refine sc ?_))
  ((with_reducible refine bs_unpack (be_call (bes_cons ?_))); refine bvar rfl ?_; (with_reducible refine bkEs1_nil (bc_g3 ?_)))
  refine c_place_for1 S L hI hl ?_
  (simp only [Int.reduceNeg, true_and, eq_self, List.length_cons, List.length_nil, Nat.reduceAdd, Nat.zero_add, List.zip_cons_cons, List.zip_nil_right, List.reverse_cons, List.reverse_nil, List.cons_append, List.nil_append, cont_next, kUn_eq])
  generalize (placeP T items f (-1)).1 = p at q sp
  generalize (placeP T items f (-1)).2 = b at q sp
  ((with_reducible refine sc ?_))
  ((with_reducible refine bs_ifs (bt_cmp (be_sub (be_attr ?_)))); refine bvar rfl ?_; (with_reducible refine battr (a_kinds S) ?_); (with_reducible refine bkSub1_eq ?_); refine bvar rfl ?_; (with_reducible refine bsub2 (g_kinds S L sp.ok) ?_); (with_reducible refine bkc1_eq (bwE_str ?_)); (with_reducible refine bcmp cmp_eq_s ?_); simp only [decide_eq_true_eq, decide_eq_false_iff_not, cont_next, wSs_nil, kIf_eq, a_kinds S, g_kinds S L sp.ok])
  unfold Tr.sign at q
  by_cases e1 : gs T.kinds p = "document"
  · simp only [if_pos e1] at q
    (simp only [not_true_eq_false, eq_self, e1]; simp only [true_implies, false_implies, and_true])
    ((with_reducible refine sc ?_))
    ((with_reducible refine bs_retNone (bcont_ret (bcont_ret (bkFn_r ?_)))))
    exact q H 0 0 S
  · simp only [if_neg e1] at q
    (simp only [not_false_eq_true, e1]; simp only [true_implies, false_implies, true_and])
    ((with_reducible refine sc ?_))
    ((with_reducible refine bs_assign (be_meth ?_)); refine bvar rfl ?_; (with_reducible refine bki (k_tree S (f := "last") rfl) fm_last ?_); (with_reducible refine bes_cons ?_); refine bvar rfl ?_; (with_reducible refine bkEs1_nil (bkM4_eq ?_)))
    refine c_last S L sp.ok ?_
    have hok := aheadP_ok (b := b) I sp.ok
    have tail : ∀ ρ : AE, ρ.lookup "ahead" = some (.int (aheadP T p b)) → ρ.lookup "tree" = some (.ref (h + 4)) → ρ.lookup "parent" = some (.int p) → ρ.lookup "before" = some (.int b) → ρ.lookup "sign" = some (.str t) →
        wSs (d + 3) (.cons (.ifs (.and (.cons (.cmp .NotEq (.var "ahead") (.neg (.int 1))) (.cons (.cmp .Eq (.sub (.attr (.var "tree") "kinds") (.var "ahead")) (.str "text")) .nil))) (.cons (.setsub (.attr (.var "tree") "texts") (.var "ahead") (.bin .Add (.sub (.attr (.var "tree") "texts") (.var "ahead")) (.var "sign"))) .nil) (.cons (.expr (.meth (.var "tree") "insert" (.cons (.var "parent") (.cons (.meth (.var "tree") "text" (.cons (.var "sign") .nil)) (.cons (.var "before") .nil))))) .nil)) .nil) ρ H (kFn Q) := by
      intro ρ h1 h2 h3 h4 h5
      generalize aheadP T p b = ah at h1 hok q
      ((with_reducible refine sc ?_))
      ((with_reducible refine bs_ifs (bt_and (bts_cons (bt_cmp ?_)))); (with_reducible refine bvar (by assumption) ?_); (with_reducible refine bkc1_eq (be_neg1 ?_)); (with_reducible refine bcmp cmp_ne_i ?_); simp only [Int.reduceNeg, opt_some, kv_eq, e_var, e_attr, kAttr_eq, e_sub, t_cmp, ts_cons, kTs_t, kIf_eq, h2])
      have other : ¬ (ah ≠ -1 ∧ gs T.kinds ah = "text") → wSs (d + 3) (.cons (.expr (.meth (.var "tree") "insert" (.cons (.var "parent") (.cons (.meth (.var "tree") "text" (.cons (.var "sign") .nil)) (.cons (.var "before") .nil))))) .nil) ρ H (cont (d + 3) .nil (kFn Q)) := by
        intro hn
        simp only [if_neg hn] at q
        ((with_reducible refine sc ?_))
        ((with_reducible refine bs_expr (be_meth ?_)); (with_reducible refine bvar (by assumption) ?_); (with_reducible refine bki (k_tree S (f := "insert") rfl) fm_insert ?_); (with_reducible refine bes_cons ?_); (with_reducible refine bvar (by assumption) ?_); (with_reducible refine bkEs1_cons (be_meth ?_)); (with_reducible refine bvar (by assumption) ?_); (with_reducible refine bki (k_tree S (f := "text") rfl) fm_text ?_); (with_reducible refine bes_cons ?_); (with_reducible refine bvar (by assumption) ?_); (with_reducible refine bkEs1_nil (bkM4_eq ?_)))
        refine c_text S L fun H1 r1 r2 S1 => ?_
        ((with_reducible refine bkEs1_cons ?_); (with_reducible refine bvar (by assumption) ?_); (with_reducible refine bkEs1_nil (bkEs2_eq (bkEs2_eq (bkM4_eq ?_)))))
        refine put_step (d := d + 1) (T := T) (h := h) (R := bldD h f items ++ R) (B := B) (H := H1) I (by lia) (by decide) ht sp S1 fun H' S' => ?_
        ((with_reducible refine bkEx_n (bcont_next (bwSs_nil (bcont_next (bwSs_nil (bkFn_n ?_)))))))
        exact q H' r1 r2 S'
      by_cases e2 : ah = -1
      · (simp only [Int.reduceNeg, decide_true, Bool.not_true, eq_self, e2]; simp only [true_implies, false_implies, true_and, Bool.false_eq_true])
        exact other fun q => q.1 e2
      · have oa := hok.resolve_left e2
        (simp only [Int.reduceNeg, decide_false, Bool.not_false, eq_self, e2, a_kinds S, g_kinds S L oa]; simp only [opt_some, cmp_eq_s, decide_eq_true_eq, decide_eq_false_iff_not, true_implies, false_implies, and_true, Bool.true_eq_false, eq_self, wE_str, kv_eq, e_var, kSub1_eq, kSub2_eq, kc1_eq, kc2_eq, ts_nil, kTs_t, kIf_eq, h1, a_kinds S, g_kinds S L oa])
        by_cases e3 : gs T.kinds ah = "text"
        · simp only [if_pos (⟨e2, e3⟩ : ah ≠ -1 ∧ gs T.kinds ah = "text")] at q
          (simp only [not_true_eq_false, eq_self, e3]; simp only [true_implies, false_implies, and_true])
          ((with_reducible refine sc ?_))
          have lt : (gs T.texts ah).length ≤ B := by
            have hl : ah.toNat < T.texts.length := by rw [L.texts]; exact toNat_lt oa.1 oa.2
            unfold gs
            rw [List.getD_eq_getElem?_getD, List.getElem?_eq_getElem hl]
            exact L.tle _ (List.getElem_mem _)
          have := lim_ge
          have ll := L.lim
          have l4 := L.texts
          ((with_reducible refine bs_setsub (be_bin (be_sub (be_attr ?_)))); (with_reducible refine bvar (by assumption) ?_); (with_reducible refine battr (a_texts S) ?_); (with_reducible refine bkSub1_eq ?_); (with_reducible refine bvar (by assumption) ?_); (with_reducible refine bsub2 (g_texts S L oa) ?_); (with_reducible refine bkBin1_eq ?_); (with_reducible refine bvar (by assumption) ?_); (with_reducible refine bbin (cat_s (s := gs T.texts ah) (t := t) (by lia)) ?_); (with_reducible refine bkSs1_eq (be_attr ?_)); (with_reducible refine bvar (by assumption) ?_); (with_reducible refine battr (a_texts S) ?_); (with_reducible refine bkSs2_eq ?_); (with_reducible refine bvar (by assumption) ?_); (with_reducible refine bss (set_s (t_texts S) oa.1 (by rw [l4]; exact oa.2) (by lia)) ?_); (with_reducible refine bcont_next (bwSs_nil (bcont_next (bwSs_nil (bkFn_n ?_))))))
          exact q _ 0 0 (s_texts S _)
        · (simp only [not_false_eq_true, e3]; simp only [true_implies, false_implies, true_and])
          exact other fun q => e3 q.2
    ((with_reducible refine bkAs_c ?_); (with_reducible refine sc ?_))
    by_cases e2 : b = -1
    · ((with_reducible refine bs_ifs (bt_cmp ?_)); refine bvar rfl ?_; (with_reducible refine bkc1_eq (be_neg1 ?_)); (with_reducible refine bcmp cmp_ne_i ?_); simp only [Int.reduceNeg, decide_true, Bool.not_true, eq_self, e2]; (with_reducible refine bkIf_f (bwSs_nil (bcont_next ?_))); simp only [Int.reduceNeg, setE])
      refine tail _ ?_ (by simp only [String.reduceBEq, BEq.rfl, Int.reduceNeg, List.lookup_cons, eq_self]) (by simp only [String.reduceBEq, BEq.rfl, Int.reduceNeg, List.lookup_cons, eq_self]) (by simp only [String.reduceBEq, BEq.rfl, Int.reduceNeg, List.lookup_cons, eq_self, e2]) (by simp only [String.reduceBEq, BEq.rfl, Int.reduceNeg, List.lookup_cons, eq_self])
      (simp only [BEq.rfl, Int.reduceNeg, List.lookup_cons])
      unfold aheadP; rw [if_pos e2]
    · ((with_reducible refine bs_ifs (bt_cmp ?_)); refine bvar rfl ?_; (with_reducible refine bkc1_eq (be_neg1 ?_)); (with_reducible refine bcmp cmp_ne_i ?_); simp only [Int.reduceNeg, decide_false, Bool.not_false, e2]; (with_reducible refine bkIf_t ?_); simp only [setE])
      obtain ⟨ob, hpb, hmb⟩ := sp.before.resolve_left e2
      ((with_reducible refine sc ?_))
      ((with_reducible refine bs_assign (be_meth ?_)); refine bvar rfl ?_; (with_reducible refine bki (k_tree S (f := "place") rfl) fm_place ?_); (with_reducible refine bes_cons ?_); refine bvar rfl ?_; (with_reducible refine bkEs1_nil (bkM4_eq ?_)))
      refine c_place S L ob hpb sp.ok hmb ?_
      ((with_reducible refine bkAs_c ?_); (with_reducible refine sc ?_))
      ((with_reducible refine bs_assign (be_neg1 (bkAs_c ?_))); simp only [Int.reduceNeg, setE])
      ((with_reducible refine sc ?_))
      ((with_reducible refine bs_ifs (bt_cmp ?_)); refine bvar rfl ?_; (with_reducible refine bkc1_eq (bwE_int ?_)); (with_reducible refine bcmp cmp_gt ?_); simp only [Int.reduceNeg, decide_eq_true_eq, decide_eq_false_iff_not, cont_next, wSs_nil, kIf_eq])
      by_cases e3 : 0 < (gc T.ch p).idxOf b
      · have g0 : (((gc T.ch p).idxOf b : Nat) : Int) > 0 := by lia
        (simp only [Int.reduceNeg, not_true_eq_false, g0]; simp only [Int.reduceNeg, true_implies, false_implies, and_true])
        ((with_reducible refine sc ?_))
        have := List.idxOf_le_length (l := gc T.ch p) (a := b)
        have hcl := gc_lim L sp.ok
        rw [List.length_map] at hcl
        ((with_reducible refine bs_assign (be_sub (be_sub (be_attr ?_)))); refine bvar rfl ?_; (with_reducible refine battr (a_children S) ?_); (with_reducible refine bkSub1_eq ?_); refine bvar rfl ?_; (with_reducible refine bsub2 (g_children S L sp.ok) ?_); (with_reducible refine bkSub1_eq (be_bin ?_)); refine bvar rfl ?_; (with_reducible refine bkBin1_eq (bwE_int ?_)); (with_reducible refine bbin bin_sub ?_); (with_reducible refine bsub2 (sub_i (g_ch S L sp.ok) (x := (((gc T.ch p).idxOf b : Nat) : Int) - 1) (by lia) (by lia) hcl) ?_); (with_reducible refine bkAs_c (bwSs_nil (bcont_next (bwSs_nil (bcont_next ?_))))); simp only [Int.reduceNeg, setE, a_children S, g_children S L sp.ok, sub_i (g_ch S L sp.ok) (x := (((gc T.ch p).idxOf b : Nat) : Int) - 1) (by lia) (by lia) hcl])
        refine tail _ ?_ (by simp only [String.reduceBEq, BEq.rfl, Int.reduceNeg, List.lookup_cons, eq_self]) (by simp only [String.reduceBEq, BEq.rfl, Int.reduceNeg, List.lookup_cons, eq_self]) (by simp only [String.reduceBEq, BEq.rfl, Int.reduceNeg, List.lookup_cons, eq_self]) (by simp only [String.reduceBEq, BEq.rfl, Int.reduceNeg, List.lookup_cons, eq_self])
        (simp only [BEq.rfl, Int.reduceNeg, List.lookup_cons])
        unfold aheadP; rw [if_neg e2, if_pos e3]
      · have g0 : ¬ (((gc T.ch p).idxOf b : Nat) : Int) > 0 := by lia
        (simp only [Int.reduceNeg, not_false_eq_true, g0]; simp only [Int.reduceNeg, true_implies, false_implies, true_and])
        refine tail _ ?_ (by simp only [String.reduceBEq, BEq.rfl, Int.reduceNeg, List.lookup_cons, eq_self]) (by simp only [String.reduceBEq, BEq.rfl, Int.reduceNeg, List.lookup_cons, eq_self]) (by simp only [String.reduceBEq, BEq.rfl, Int.reduceNeg, List.lookup_cons, eq_self]) (by simp only [String.reduceBEq, BEq.rfl, Int.reduceNeg, List.lookup_cons, eq_self])
        (simp only [BEq.rfl, Int.reduceNeg, List.lookup_cons])
        unfold aheadP; rw [if_neg e2, if_neg e3]

theorem comment_body (S : Sat H (allD h T f items R)) (I : Inv B T) (hB : B + 1 < 1000) (hI : ∀ y ∈ items, Ok T y) (hl : items.length ≤ lim) {t : String} (ht : t.length ≤ 1) {p0 : Int} (hp : p0 = -1 ∨ Ok T p0)
    (q : ∀ H' r1 r2, Sat H' (allD h (T.put "comment" t (if p0 = -1 then (placeP T items f (-1)).1 else p0) (if p0 = -1 then (placeP T items f (-1)).2 else -1) r1 r2) f items R) → Q .none H') :
    wSs (d + 3) f_insert_comment.body [("parent", .int p0), ("text", .str t), ("builder", .ref (h + 2))] H (kFn Q) := by
  unfold f_insert_comment
  dsimp only
  have L := I.ln
  ((with_reducible refine sc ?_))
  ((with_reducible refine bs_assign (be_neg1 (bkAs_c ?_))); simp only [Int.reduceNeg, setE])
  ((with_reducible refine sc ?_))
  ((with_reducible refine bs_ifs (bt_cmp ?_)); refine bvar rfl ?_; (with_reducible refine bkc1_eq (be_neg1 ?_)); (with_reducible refine bcmp cmp_eq_i ?_); simp only [Int.reduceNeg, decide_eq_true_eq, decide_eq_false_iff_not, cont_next, wSs_nil, kIf_eq])
  have tail : ∀ (p b : Int) (ρ : AE), Spot T p b → p = (if p0 = -1 then (placeP T items f (-1)).1 else p0) → b = (if p0 = -1 then (placeP T items f (-1)).2 else -1) → ρ.lookup "parent" = some (.int p) → ρ.lookup "before" = some (.int b) → ρ.lookup "text" = some (.str t) → ρ.lookup "builder" = some (.ref (h + 2)) →
      wSs (d + 3) (.cons (.expr (.meth (.attr (.var "builder") "tree") "insert" (.cons (.var "parent") (.cons (.meth (.attr (.var "builder") "tree") "comment" (.cons (.var "text") .nil)) (.cons (.var "before") .nil))))) .nil) ρ H (kFn Q) := by
    intro p b ρ sp e1 e2 h1 h2 h3 h4
    rw [← e1, ← e2] at q
    ((with_reducible refine sc ?_))
    ((with_reducible refine bs_expr (be_meth (be_attr ?_))); (with_reducible refine bvar (by assumption) ?_); (with_reducible refine battr (a_tree S) ?_); (with_reducible refine bki (k_tree S (f := "insert") rfl) fm_insert ?_); (with_reducible refine bes_cons ?_); (with_reducible refine bvar (by assumption) ?_); (with_reducible refine bkEs1_cons (be_meth (be_attr ?_))); (with_reducible refine bvar (by assumption) ?_); (with_reducible refine battr (a_tree S) ?_); (with_reducible refine bki (k_tree S (f := "comment") rfl) fm_comment ?_); (with_reducible refine bes_cons ?_); (with_reducible refine bvar (by assumption) ?_); (with_reducible refine bkEs1_nil (bkM4_eq ?_)))
    refine c_comment S L fun H1 r1 r2 S1 => ?_
    ((with_reducible refine bkEs1_cons ?_); (with_reducible refine bvar (by assumption) ?_); (with_reducible refine bkEs1_nil (bkEs2_eq (bkEs2_eq (bkM4_eq ?_)))))
    refine put_step (d := d + 1) (T := T) (h := h) (R := bldD h f items ++ R) (B := B) (H := H1) I (by lia) (by decide) ht sp S1 fun H' S' => ?_
    ((with_reducible refine bkEx_n (bcont_next (bwSs_nil (bkFn_n ?_)))))
    exact q H' r1 r2 S'
  by_cases e : p0 = -1
  · (simp only [Int.reduceNeg, not_true_eq_false, eq_self, e]; simp only [Int.reduceNeg, true_implies, false_implies, and_true])
    ((with_reducible refine sc ?_))
    ((with_reducible refine bs_unpack (be_call (bes_cons ?_))); refine bvar rfl ?_; (with_reducible refine bkEs1_nil (bc_g3 ?_)))
    refine c_place_for1 S L hI hl ?_
    (simp only [Int.reduceNeg, true_and, eq_self, List.length_cons, List.length_nil, Nat.reduceAdd, Nat.zero_add, List.zip_cons_cons, List.zip_nil_right, List.reverse_cons, List.reverse_nil, List.cons_append, List.nil_append, cont_next, wSs_nil, kUn_eq])
    exact tail _ _ _ (spot_of (f := f) I hI (t := -1) (.inl rfl) (.inl rfl)) (by rw [if_pos e]) (by rw [if_pos e]) (by simp only [String.reduceBEq, BEq.rfl, Int.reduceNeg, List.lookup_cons, eq_self]) (by simp only [BEq.rfl, Int.reduceNeg, List.lookup_cons, eq_self]) (by simp only [String.reduceBEq, BEq.rfl, Int.reduceNeg, List.lookup_cons, eq_self]) (by simp only [String.reduceBEq, BEq.rfl, Int.reduceNeg, List.lookup_cons, eq_self])
  · (simp only [Int.reduceNeg, not_false_eq_true, e]; simp only [Int.reduceNeg, true_implies, false_implies, true_and])
    exact tail p0 (-1) _ ⟨hp.resolve_left e, .inl rfl⟩ (by rw [if_neg e]) (by rw [if_neg e]) (by simp only [String.reduceBEq, BEq.rfl, Int.reduceNeg, List.lookup_cons, eq_self]) (by simp only [BEq.rfl, Int.reduceNeg, List.lookup_cons, eq_self]) (by simp only [String.reduceBEq, BEq.rfl, Int.reduceNeg, List.lookup_cons, eq_self]) (by simp only [String.reduceBEq, BEq.rfl, Int.reduceNeg, List.lookup_cons, eq_self])
theorem c_insert_comment (S : Sat H (allD h T f items R)) (I : Inv B T) (hB : B + 1 < 1000) (hI : ∀ y ∈ items, Ok T y) (hl : items.length ≤ lim) {t : String} (ht : t.length ≤ 1)
    (q : ∀ H' r1 r2, Sat H' (allD h (T.put "comment" t (placeP T items f (-1)).1 (placeP T items f (-1)).2 r1 r2) f items R) → Q .none H') : WC (d + 4) f_insert_comment [.ref (h + 2), .str t] H Q :=
  WC_of rfl (comment_body S I hB hI hl ht (p0 := -1) (.inl rfl) q)
theorem c_insert_comment2 (S : Sat H (allD h T f items R)) (I : Inv B T) (hB : B + 1 < 1000) (hI : ∀ y ∈ items, Ok T y) (hl : items.length ≤ lim) {t : String} (ht : t.length ≤ 1) {p0 : Int} (hp : Ok T p0)
    (q : ∀ H' r1 r2, Sat H' (allD h (T.put "comment" t p0 (-1) r1 r2) f items R) → Q .none H') : WC (d + 4) f_insert_comment [.ref (h + 2), .str t, .int p0] H Q := by
  have e : p0 ≠ -1 := by have := hp.1; lia
  refine WC_of rfl (comment_body S I hB hI hl ht (p0 := p0) (.inr hp) ?_)
  simp only [if_neg e]
  exact q
end
end Mine
end
section
set_option maxRecDepth 100000
namespace Mine
noncomputable abbrev namD (l : List (Int × String)) : List (Int × AV) := l.map fun p => (p.1, .str p.2)
noncomputable def nameOf (l : List (Int × String)) (y : Int) : String := (l.lookup y).getD ""
theorem lookup_namD : ∀ (l : List (Int × String)) (x : Int), (namD l).lookup x = (l.lookup x).map .str
  | [], _ => rfl
  | (k, v) :: r, x => by
    show List.lookup x ((k, AV.str v) :: namD r) = _
    rw [List.lookup_cons, List.lookup_cons]
    split
    · rfl
    · exact lookup_namD r x
noncomputable def tabs (line : List Int) (named : List (Int × String)) (s : String) : List Int := ((List.range line.length).filter fun (k : Nat) => decide (nameOf named (gi line (k : Int)) = s)).map fun (j : Nat) => (j : Int)
noncomputable def lastL (l : List Int) : Int := gi l (l.length - 1 : Int)
noncomputable def spotP (line : List Int) (named : List (Int × String)) (ups wraps : List (Int × Int)) (here : Int) (foster : Bool) : Int × Int :=
  let sp := if (foster && isPart (nameOf named here)) = true then
      if 0 < (tabs line named "template").length ∧ ((tabs line named "table").length = 0 ∨ lastL (tabs line named "template") > lastL (tabs line named "table")) then (gi line (lastL (tabs line named "template")), -1)
      else if (tabs line named "table").length = 0 then (gi line 0, -1)
      else if contGet ups (gi line (lastL (tabs line named "table"))) ≠ -1 then (contGet ups (gi line (lastL (tabs line named "table"))), gi line (lastL (tabs line named "table")))
      else (gi line (lastL (tabs line named "table") - 1), -1)
    else (here, -1)
  if hasK wraps sp.1 = true then (contGet wraps sp.1, -1) else sp

theorem tabs_mem {line : List Int} {named : List (Int × String)} {s : String} {k : Int} (h : k ∈ tabs line named s) : 0 ≤ k ∧ k < line.length ∧ nameOf named (gi line k) = s := by
  unfold tabs at h
  obtain ⟨j, hj, rfl⟩ := List.mem_map.mp h
  obtain ⟨h1, h2⟩ := List.mem_filter.mp hj
  exact ⟨by lia, by have := List.mem_range.mp h1; lia, by simpa using h2⟩
theorem tabs_le {line : List Int} {named : List (Int × String)} {s : String} : (tabs line named s).length ≤ line.length := by
  unfold tabs
  rw [List.length_map]
  exact Nat.le_trans (List.length_filter_le ..) (by rw [List.length_range]; exact Nat.le_refl _)
theorem lastL_mem {l : List Int} (h : 0 < l.length) : lastL l ∈ l := gi_mem (by lia) (by lia)

section
variable {H : AH} {D : List (Nat × AO)} {Q : AV → AH → Prop} {d : Nat} {x : Int} {ln nm up wr : Nat} {line : List Int} {named : List (Int × String)} {ups wraps : List (Int × Int)}
theorem sub_dn {a : Nat} {l : List (Int × String)} {s : String} (h : H[a]? = some (.dict (namD l))) (hk : l.lookup x = some s) : subA H (.ref a) (.int x) = some (.str s) := by
  unfold subA; simp only [h]
  rw [lookup_namD, hk]; rfl
theorem sub_dc {a : Nat} {l : List (Int × Int)} {s : Int} (h : H[a]? = some (.dict (contD l))) (hk : l.lookup x = some s) : subA H (.ref a) (.int x) = some (.int s) := by
  unfold subA; simp only [h]
  rw [lookup_contD, hk]; rfl
theorem ap_m {a : Nat} {l : List Int} {s : Int} (h : H[a]? = some (.list (iV l))) (h2 : l.length ≤ lim) : methA H a "append" [.int s] = some (.none, H.set a (.list (iV (l ++ [s])))) := by
  unfold methA; simp only [h]; rw [if_pos (by rw [List.length_map]; exact h2)]
  simp only [List.map_append, List.map_cons, List.map_nil]

theorem comp_tab {s : String} {ρ : AE} (r1 : ρ.lookup "line" = some (.ref ln)) (r2 : ρ.lookup "named" = some (.ref nm)) (h1 : (ln, .list (iV line)) ∈ D) (h2 : (nm, .dict (namD named)) ∈ D)
    (hn : ∀ y ∈ line, named.lookup y = some (nameOf named y)) (hl : line.length ≤ 1000) {acc : Nat} :
    ∀ (ks : List Nat) (xs : List Int) (H : AH), (∀ k ∈ ks, k < line.length) → xs.length + ks.length ≤ 1000 → Sat H ((acc, .list (iV xs)) :: D) →
      (∀ H', Sat H' ((acc, .list (iV (xs ++ (ks.filter fun (k : Nat) => decide (nameOf named (gi line (k : Int)) = s)).map fun (j : Nat) => (j : Int)))) :: D) → Q (.ref acc) H') →
      XCv d ρ (.var "k") "k" (.cmp .Eq (.sub (.var "named") (.sub (.var "line") (.var "k"))) (.str s)) acc (ks.map fun (j : Nat) => .int j) H Q := by
  intro ks
  induction ks with
  | nil =>
    intro xs H _ _ S hq
    refine XCv_nil (hq H ?_)
    rw [List.filter_nil, List.map_nil, List.append_nil]; exact S
  | cons k r ih =>
    intro xs H hk hx S hq
    rw [List.map_cons]
    refine XCv_cons (ct_if ?_)
    have kl : k < line.length := hk k List.mem_cons_self
    have := lim_ge
    have g1 := sub_i (S.get (List.mem_cons_of_mem _ h1)) (x := (k : Int)) (by lia) (by lia) (by lia)
    have g2 := sub_dn (S.get (List.mem_cons_of_mem _ h2)) (hn (gi line (k : Int)) (gi_mem (by lia) (by lia)))
    have ga := S.getj 0 rfl
    rw [List.length_cons] at hx
    ((try have ff4 := ap_m ga (by lia)); (with_reducible refine bt_cmp (be_sub ?_)); refine bvar (by (simp only [List.lookup_cons, String.reduceBEq]; first | done | assumption | rfl)) ?_; (with_reducible refine bkSub1_eq (be_sub ?_)); refine bvar (by (simp only [List.lookup_cons, String.reduceBEq]; first | done | assumption | rfl)) ?_; (with_reducible refine bkSub1_eq ?_); refine bvar rfl ?_; (with_reducible refine bsub2 (by assumption) ?_); (with_reducible refine bsub2 (by assumption) ?_); (with_reducible refine bkc1_eq (bwE_str ?_)); (with_reducible refine bcmp cmp_eq_s ?_); simp only [BEq.rfl, opt_some, List.lookup_cons, decide_eq_true_eq, decide_eq_false_iff_not, kv_eq, e_var, kAp_eq, kCi_eq, ap_m ga (by lia)]; (try clear ff4))
    refine ⟨fun e => ?_, fun e => ?_⟩
    · have S1 : Sat (H.set acc (.list (iV (xs ++ [(k : Int)])))) ((acc, .list (iV (xs ++ [(k : Int)]))) :: D) := S.setj 0 _ rfl
      refine ih (xs ++ [(k : Int)]) _ (fun y hy => hk y (List.mem_cons_of_mem _ hy)) (by rw [List.length_append, List.length_singleton]; lia) S1 fun H' S' => hq H' ?_
      rw [List.filter_cons, if_pos (by rw [decide_eq_true_eq]; exact e), List.map_cons]
      rw [List.append_assoc, List.singleton_append] at S'
      exact S'
    · refine ih xs _ (fun y hy => hk y (List.mem_cons_of_mem _ hy)) (by lia) S fun H' S' => hq H' ?_
      rw [List.filter_cons, if_neg (by rw [decide_eq_true_eq]; exact e)]
      exact S'

theorem c_law_spot {here : Int} {foster : Bool} (S : Sat H D) (h1 : (ln, .list (iV line)) ∈ D) (h2 : (nm, .dict (namD named)) ∈ D) (h3 : (up, .dict (contD ups)) ∈ D) (h4 : (wr, .dict (contD wraps)) ∈ D)
    (hn : ∀ y ∈ line, named.lookup y = some (nameOf named y)) (hu : ∀ y ∈ line, ups.lookup y = some (contGet ups y)) (hp : 0 < line.length) (hl : line.length ≤ 1000) (h0 : nameOf named (gi line 0) ≠ "table") (hh : named.lookup here = some (nameOf named here))
    (q : ∀ H', Sat H' D → Q (.tup [.int (spotP line named ups wraps here foster).1, .int (spotP line named ups wraps here foster).2]) H') :
    WC (d + 1) f_law_spot [.tup [.ref ln, .ref nm, .ref up, .ref wr], .int here, .bool foster] H Q := by
  refine wc_of (ρ := [("foster", .bool foster), ("here", .int here), ("facts", .tup [.ref ln, .ref nm, .ref up, .ref wr])]) rfl ?_
  unfold f_law_spot
  dsimp only
  ((with_reducible refine sc ?_))
  ((with_reducible refine bs_unpack ?_); refine bvar rfl ?_; simp only [true_and, eq_self, List.length_cons, List.length_nil, Nat.reduceAdd, Nat.zero_add, List.zip_cons_cons, List.zip_nil_right, List.reverse_cons, List.reverse_nil, List.cons_append, List.nil_append, cont_next, kUn_eq])
  ((with_reducible refine sc ?_))
  ((with_reducible refine bs_assign (be_tup (bes_cons ?_))); refine bvar rfl ?_; (with_reducible refine bkEs1_cons (be_neg1 (bkEs1_nil (bkEs2_eq (bkTup_2 (bkAs_c ?_)))))); simp only [Int.reduceNeg, setE])
  unfold spotP at q
  have := lim_ge
  -- the end
  have tail : ∀ (sp : Int × Int) (ρ : AE) (H : AH), Sat H D → (∀ H', Sat H' D → Q (.tup [.int (if hasK wraps sp.1 = true then (contGet wraps sp.1, -1) else sp).1, .int (if hasK wraps sp.1 = true then (contGet wraps sp.1, -1) else sp).2]) H') →
      ρ.lookup "spot" = some (.tup [.int sp.1, .int sp.2]) → ρ.lookup "wraps" = some (.ref wr) →
      wSs d (.cons (.ifs (.cmp .In (.sub (.var "spot") (.int 0)) (.var "wraps")) (.cons (.ret (.tup (.cons (.sub (.var "wraps") (.sub (.var "spot") (.int 0))) (.cons (.neg (.int 1)) .nil)))) .nil) .nil) (.cons (.ret (.var "spot")) .nil)) ρ H (kFn Q) := by
    intro sp ρ H S q k1 k2
    have s0 : subA H (.tup [.int sp.1, .int sp.2]) (.int 0) = some (.int sp.1) := rfl
    ((with_reducible refine sc ?_))
    ((with_reducible refine bs_ifs (bt_cmp (be_sub ?_))); (with_reducible refine bvar (by assumption) ?_); (with_reducible refine bkSub1_eq (bwE_int ?_)); (with_reducible refine bsub2 (by assumption) ?_); (with_reducible refine bkc1_eq ?_); (with_reducible refine bvar (by assumption) ?_); (with_reducible refine bcmp (cmp_in_d (S.get h4)) ?_); simp only [cont_next, wSs_nil, kIf_eq, cmp_in_d (S.get h4)])
    cases e : hasK wraps sp.1 with
    | true =>
      simp only [e, if_true] at q
      (simp only [eq_self]; simp only [true_implies, false_implies, and_true, Bool.true_eq_false])
      ((with_reducible refine sc ?_))
      ((with_reducible refine bs_ret (be_tup (bes_cons (be_sub ?_)))); (with_reducible refine bvar (by assumption) ?_); (with_reducible refine bkSub1_eq (be_sub ?_)); (with_reducible refine bvar (by assumption) ?_); (with_reducible refine bkSub1_eq (bwE_int ?_)); (with_reducible refine bsub2 (by assumption) ?_); (with_reducible refine bsub2 (sub_d (S.get h4) e) ?_); (with_reducible refine bkEs1_cons (be_neg1 (bkEs1_nil (bkEs2_eq (bkTup_2 (bkRet_c (bcont_ret (bkFn_r ?_)))))))))
      exact q H S
    | false =>
      simp only [e, Bool.false_eq_true, if_false] at q
      (simp only [eq_self]; simp only [true_implies, false_implies, true_and, Bool.false_eq_true])
      ((with_reducible refine sc ?_))
      ((with_reducible refine bs_ret ?_); (with_reducible refine bvar (by assumption) ?_); (with_reducible refine bkRet_c (bkFn_r ?_)))
      exact q H S
  ((with_reducible refine sc ?_))
  ((with_reducible refine bs_ifs (bt_and (bts_cons (bt_var ?_)))); refine bvar rfl ?_; (with_reducible refine bkTr_b ?_); simp only [String.reduceBEq, BEq.rfl, Int.reduceNeg, opt_some, List.lookup_cons, cont_next, wSs_nil, kv_eq, e_var, e_sub, kSub1_eq, kSub2_eq, t_cmp, ts_cons, kTs_t, kIf_eq])
  cases foster with
  | false =>
    simp only [Bool.false_and, Bool.false_eq_true, if_false] at q
    (simp only [Int.reduceNeg, eq_self]; simp only [Int.reduceNeg, true_implies, false_implies, true_and, Bool.false_eq_true])
    exact tail (here, -1) _ H S q (by simp only [BEq.rfl, Int.reduceNeg, List.lookup_cons, eq_self]) (by simp only [String.reduceBEq, BEq.rfl, Int.reduceNeg, List.lookup_cons, eq_self])
  | true =>
    simp only [Bool.true_and] at q
    (simp only [Int.reduceNeg, eq_self, sub_dn (S.get h2) hh]; simp only [Int.reduceNeg, opt_some, true_implies, false_implies, and_true, true_and, Bool.true_eq_false, eq_self, List.length_cons, List.length_nil, Nat.reduceAdd, Nat.zero_add, lim_5, cont_next, wSs_nil, wE_str, kv_eq, kc1_eq, kc2_eq, e_tup, kTup_eq, es_cons, kEs1_nil, kEs1_cons, kEs2_eq, ts_nil, kTs_t, kIf_eq, sub_dn (S.get h2) hh, cmp_part])
    cases e0 : isPart (nameOf named here) with
    | false =>
      simp only [e0, Bool.false_eq_true, if_false] at q
      (simp only [Int.reduceNeg, eq_self]; simp only [Int.reduceNeg, true_implies, false_implies, true_and, Bool.false_eq_true])
      exact tail (here, -1) _ H S q (by simp only [BEq.rfl, Int.reduceNeg, List.lookup_cons, eq_self]) (by simp only [String.reduceBEq, BEq.rfl, Int.reduceNeg, List.lookup_cons, eq_self])
    | true =>
      simp only [e0, if_true] at q
      (simp only [Int.reduceNeg, eq_self]; simp only [Int.reduceNeg, true_implies, false_implies, and_true, Bool.true_eq_false])
      have hlV : (iV line).length ≤ lim := by rw [List.length_map]; lia
      have lim0 : (line.length : Int) ≤ lim := by lia
      ((with_reducible refine sc ?_))
      ((with_reducible refine bs_assign (be_comp (be_call (bes_cons (be_call (bes_cons ?_)))))); refine bvar rfl ?_; (with_reducible refine bkEs1_nil ?_); (with_reducible refine blen (len_ch (S.get h1) hlV) ?_); (with_reducible refine bkEs1_nil ?_); simp only [Int.reduceNeg, true_and, kComp_rng, c_range, len_ch (S.get h1) hlV, lim0, Int.natCast_nonneg, Int.toNat_natCast])
      refine comp_tab (D := D) (ln := ln) (nm := nm) (line := line) (named := named) ?_ ?_ h1 h2 hn hl (List.range line.length) [] _ (fun k hk => List.mem_range.mp hk) (by rw [List.length_range, List.length_nil]; lia) (S.push _) fun H1 S1 => ?_
      · rfl
      · rfl
      rw [List.nil_append] at S1
      have e1 : ((List.range line.length).filter fun (k : Nat) => decide (nameOf named (gi line (k : Int)) = "table")).map (fun (j : Nat) => (j : Int)) = tabs line named "table" := rfl
      rw [e1] at S1
      clear S e1
      generalize H.length = tt at S1 ⊢
      ((with_reducible refine bkAs_c ?_); (with_reducible refine sc ?_))
      ((with_reducible refine bs_assign (be_comp (be_call (bes_cons (be_call (bes_cons ?_)))))); refine bvar rfl ?_; (with_reducible refine bkEs1_nil ?_); (with_reducible refine blen (len_ch (S1.get (List.mem_cons_of_mem _ h1)) hlV) ?_); (with_reducible refine bkEs1_nil ?_); simp only [Int.reduceNeg, setE, true_and, kComp_rng, c_range, len_ch (S1.get (List.mem_cons_of_mem _ h1)) hlV, lim0, Int.natCast_nonneg, Int.toNat_natCast])
      refine comp_tab (D := (tt, .list (iV (tabs line named "table"))) :: D) (ln := ln) (nm := nm) (line := line) (named := named) ?_ ?_ (List.mem_cons_of_mem _ h1) (List.mem_cons_of_mem _ h2) hn hl (List.range line.length) [] _ (fun k hk => List.mem_range.mp hk) (by rw [List.length_range, List.length_nil]; lia) (S1.push _) fun H2 S2 => ?_
      · rfl
      · rfl
      rw [List.nil_append] at S2
      have e1 : ((List.range line.length).filter fun (k : Nat) => decide (nameOf named (gi line (k : Int)) = "template")).map (fun (j : Nat) => (j : Int)) = tabs line named "template" := rfl
      rw [e1] at S2
      clear S1 e1
      generalize H1.length = ss at S2 ⊢
      have S : Sat H2 D := S2.sub (((List.Sublist.refl D).cons _).cons _)
      have gt := S2.getj 1 rfl
      have gS := S2.getj 0 rfl
      have l1 := tabs_le (line := line) (named := named) (s := "table")
      have l2 := tabs_le (line := line) (named := named) (s := "template")
      have m1 : ∀ h, _ := fun h : 0 < (tabs line named "table").length => tabs_mem (lastL_mem h)
      have m2 : ∀ h, _ := fun h : 0 < (tabs line named "template").length => tabs_mem (lastL_mem h)
      have st := fun h : 0 < (tabs line named "table").length => sub_last gt h (by lia)
      have ss' := fun h : 0 < (tabs line named "template").length => sub_last gS h (by lia)
      have lt := len_ch gt (by rw [List.length_map]; lia)
      have ls := len_ch gS (by rw [List.length_map]; lia)
      change ∀ _ : _, subA H2 (.ref tt) (.int (-1)) = some (.int (lastL (tabs line named "table"))) at st
      change ∀ _ : _, subA H2 (.ref ss) (.int (-1)) = some (.int (lastL (tabs line named "template"))) at ss'
      generalize tabs line named "table" = t at *
      generalize tabs line named "template" = s at *
      have gl := S.get h1
      -- what is left when the first test fails
      have second : ¬ (0 < s.length ∧ (t.length = 0 ∨ lastL s > lastL t)) → ∀ ρ : AE, ρ.lookup "tables" = some (.ref tt) → ρ.lookup "line" = some (.ref ln) → ρ.lookup "ups" = some (.ref up) → ρ.lookup "wraps" = some (.ref wr) →
          wSs d (.cons (.ifs (.cmp .Eq (.call "len" (.cons (.var "tables") .nil)) (.int 0)) (.cons (.assign "spot" (.tup (.cons (.sub (.var "line") (.int 0)) (.cons (.neg (.int 1)) .nil)))) .nil) (.cons (.ifs (.cmp .NotEq (.sub (.var "ups") (.sub (.var "line") (.sub (.var "tables") (.neg (.int 1))))) (.neg (.int 1))) (.cons (.assign "spot" (.tup (.cons (.sub (.var "ups") (.sub (.var "line") (.sub (.var "tables") (.neg (.int 1))))) (.cons (.sub (.var "line") (.sub (.var "tables") (.neg (.int 1)))) .nil)))) .nil) (.cons (.assign "spot" (.tup (.cons (.sub (.var "line") (.bin .Sub (.sub (.var "tables") (.neg (.int 1))) (.int 1))) (.cons (.neg (.int 1)) .nil)))) .nil)) .nil)) .nil) ρ H2
            (cont d .nil (cont d (.cons (.ifs (.cmp .In (.sub (.var "spot") (.int 0)) (.var "wraps")) (.cons (.ret (.tup (.cons (.sub (.var "wraps") (.sub (.var "spot") (.int 0))) (.cons (.neg (.int 1)) .nil)))) .nil) .nil) (.cons (.ret (.var "spot")) .nil)) (kFn Q))) := by
        intro hneg ρ k1 k2 k3 k4
        simp only [if_neg hneg] at q
        ((with_reducible refine sc ?_))
        ((with_reducible refine bs_ifs (bt_cmp (be_call (bes_cons ?_)))); (with_reducible refine bvar (by assumption) ?_); (with_reducible refine bkEs1_nil ?_); (with_reducible refine blen (by assumption) ?_); (with_reducible refine bkc1_eq (bwE_int ?_)); (with_reducible refine bcmp cmp_eq_i ?_); simp only [decide_eq_true_eq, decide_eq_false_iff_not, kIf_eq])
        by_cases et : t.length = 0
        · simp only [if_pos et] at q
          have et' : (t.length : Int) = 0 := by lia
          (simp only [not_true_eq_false, eq_self, et']; simp only [true_implies, false_implies, and_true])
          ((with_reducible refine sc ?_))
          ((with_reducible refine bs_assign (be_tup (bes_cons (be_sub ?_)))); (with_reducible refine bvar (by assumption) ?_); (with_reducible refine bkSub1_eq (bwE_int ?_)); (with_reducible refine bsub2 (sub_i gl (x := 0) (by lia) (by lia) (by lia)) ?_); (with_reducible refine bkEs1_cons (be_neg1 (bkEs1_nil (bkEs2_eq (bkTup_2 (bkAs_c (bwSs_nil (bcont_next (bwSs_nil (bcont_next (bwSs_nil (bcont_next ?_)))))))))))); simp only [Int.reduceNeg, setE, sub_i gl (x := 0) (by lia) (by lia) (by lia)])
          exact tail (gi line 0, -1) _ H2 S q (by simp only [BEq.rfl, Int.reduceNeg, List.lookup_cons, eq_self]) (by simp only [String.reduceBEq, Int.reduceNeg, List.lookup_cons, eq_self, k4])
        · simp only [if_neg et] at q
          have et' : ¬ (t.length : Int) = 0 := by lia
          have pos : 0 < t.length := by lia
          obtain ⟨b0, b1, b2⟩ := m1 pos
          have gl1 := sub_i gl (x := lastL t) b0 b1 (by lia)
          have inl : gi line (lastL t) ∈ line := gi_mem b0 b1
          have gu := sub_dc (S.get h3) (hu _ inl)
          (simp only [not_false_eq_true, et']; simp only [true_implies, false_implies, true_and])
          ((with_reducible refine sc ?_))
          ((try have ff3 := st pos); (with_reducible refine bs_ifs (bt_cmp (be_sub ?_))); (with_reducible refine bvar (by assumption) ?_); (with_reducible refine bkSub1_eq (be_sub ?_)); (with_reducible refine bvar (by assumption) ?_); (with_reducible refine bkSub1_eq (be_sub ?_)); (with_reducible refine bvar (by assumption) ?_); (with_reducible refine bkSub1_eq (be_neg1 ?_)); (with_reducible refine bsub2 (by assumption) ?_); (with_reducible refine bsub2 (by assumption) ?_); (with_reducible refine bsub2 (by assumption) ?_); (with_reducible refine bkc1_eq (be_neg1 ?_)); (with_reducible refine bcmp cmp_ne_i ?_); simp only [Int.reduceNeg, kIf_eq, st pos]; (try clear ff3))
          by_cases ep : contGet ups (gi line (lastL t)) = -1
          · simp only [ep, ne_eq, not_true_eq_false, if_false] at q
            have one : 1 ≤ lastL t := by
              by_cases z : lastL t = 0
              · rw [z] at b2; exact absurd b2 h0
              · lia
            (simp only [Int.reduceNeg, decide_true, Bool.not_true, eq_self, ep]; simp only [true_implies, false_implies, true_and, Bool.false_eq_true])
            ((with_reducible refine sc ?_))
            ((try have ff2 := st pos); (with_reducible refine bs_assign (be_tup (bes_cons (be_sub ?_)))); (with_reducible refine bvar (by assumption) ?_); (with_reducible refine bkSub1_eq (be_bin (be_sub ?_))); (with_reducible refine bvar (by assumption) ?_); (with_reducible refine bkSub1_eq (be_neg1 ?_)); (with_reducible refine bsub2 (by assumption) ?_); (with_reducible refine bkBin1_eq (bwE_int ?_)); (with_reducible refine bbin bin_add ?_); (with_reducible apply bsub2); exact sub_i gl (x := lastL t - 1) (by lia) (by lia) (by lia); (with_reducible refine bkEs1_cons (be_neg1 (bkEs1_nil (bkEs2_eq (bkTup_2 (bkAs_c (bwSs_nil (bcont_next (bwSs_nil (bcont_next (bwSs_nil (bcont_next (bwSs_nil (bcont_next ?_)))))))))))))); simp only [Int.reduceNeg, setE, st pos, sub_i gl (x := lastL t - 1) (by lia) (by lia) (by lia)]; (try clear ff2))
            exact tail (gi line (lastL t - 1), -1) _ H2 S q (by simp only [BEq.rfl, Int.reduceNeg, List.lookup_cons, eq_self]) (by simp only [String.reduceBEq, Int.reduceNeg, List.lookup_cons, eq_self, k4])
          · simp only [ne_eq, ep, not_false_eq_true, if_true] at q
            (simp only [Int.reduceNeg, decide_false, Bool.not_false, eq_self, ep]; simp only [true_implies, false_implies, and_true, Bool.true_eq_false])
            ((with_reducible refine sc ?_))
            ((try have ff3 := st pos); (with_reducible refine bs_assign (be_tup (bes_cons (be_sub ?_)))); (with_reducible refine bvar (by assumption) ?_); (with_reducible refine bkSub1_eq (be_sub ?_)); (with_reducible refine bvar (by assumption) ?_); (with_reducible refine bkSub1_eq (be_sub ?_)); (with_reducible refine bvar (by assumption) ?_); (with_reducible refine bkSub1_eq (be_neg1 ?_)); (with_reducible refine bsub2 (by assumption) ?_); (with_reducible refine bsub2 (by assumption) ?_); (with_reducible refine bsub2 (by assumption) ?_); (with_reducible refine bkEs1_cons (be_sub ?_)); (with_reducible refine bvar (by assumption) ?_); (with_reducible refine bkSub1_eq (be_sub ?_)); (with_reducible refine bvar (by assumption) ?_); (with_reducible refine bkSub1_eq (be_neg1 ?_)); (with_reducible refine bsub2 (by assumption) ?_); (with_reducible refine bsub2 (by assumption) ?_); (with_reducible refine bkEs1_nil (bkEs2_eq (bkTup_2 (bkAs_c (bwSs_nil (bcont_next (bwSs_nil (bcont_next (bwSs_nil (bcont_next (bwSs_nil (bcont_next ?_)))))))))))); simp only [setE, st pos]; (try clear ff3))
            exact tail (contGet ups (gi line (lastL t)), gi line (lastL t)) _ H2 S q (by simp only [BEq.rfl, List.lookup_cons, eq_self]) (by simp only [String.reduceBEq, List.lookup_cons, eq_self, k4])
      have first : (0 < s.length ∧ (t.length = 0 ∨ lastL s > lastL t)) → ∀ ρ : AE, ρ.lookup "shells" = some (.ref ss) → ρ.lookup "line" = some (.ref ln) → ρ.lookup "wraps" = some (.ref wr) →
          wSs d (.cons (.assign "spot" (.tup (.cons (.sub (.var "line") (.sub (.var "shells") (.neg (.int 1)))) (.cons (.neg (.int 1)) .nil)))) .nil) ρ H2
            (cont d .nil (cont d (.cons (.ifs (.cmp .In (.sub (.var "spot") (.int 0)) (.var "wraps")) (.cons (.ret (.tup (.cons (.sub (.var "wraps") (.sub (.var "spot") (.int 0))) (.cons (.neg (.int 1)) .nil)))) .nil) .nil) (.cons (.ret (.var "spot")) .nil)) (kFn Q))) := by
        intro hpos ρ k1 k2 k3
        simp only [if_pos hpos] at q
        obtain ⟨b0, b1, b2⟩ := m2 hpos.1
        ((with_reducible refine sc ?_))
        ((try have ff2 := ss' hpos.1); (with_reducible refine bs_assign (be_tup (bes_cons (be_sub ?_)))); (with_reducible refine bvar (by assumption) ?_); (with_reducible refine bkSub1_eq (be_sub ?_)); (with_reducible refine bvar (by assumption) ?_); (with_reducible refine bkSub1_eq (be_neg1 ?_)); (with_reducible refine bsub2 (by assumption) ?_); (with_reducible refine bsub2 (sub_i gl (x := lastL s) b0 b1 (by lia)) ?_); (with_reducible refine bkEs1_cons (be_neg1 (bkEs1_nil (bkEs2_eq (bkTup_2 (bkAs_c (bwSs_nil (bcont_next (bwSs_nil (bcont_next ?_)))))))))); simp only [Int.reduceNeg, setE, ss' hpos.1, sub_i gl (x := lastL s) b0 b1 (by lia)]; (try clear ff2))
        exact tail (gi line (lastL s), -1) _ H2 S q (by simp only [BEq.rfl, Int.reduceNeg, List.lookup_cons, eq_self]) (by simp only [String.reduceBEq, Int.reduceNeg, List.lookup_cons, eq_self, k3])
      ((with_reducible refine bkAs_c ?_); (with_reducible refine sc ?_))
      ((with_reducible refine bs_ifs (bt_and (bts_cons (bt_cmp (be_call (bes_cons ?_)))))); refine bvar rfl ?_; (with_reducible refine bkEs1_nil ?_); (with_reducible refine blen (by assumption) ?_); (with_reducible refine bkc1_eq (bwE_int ?_)); (with_reducible refine bcmp cmp_gt ?_); simp only [String.reduceBEq, BEq.rfl, Int.reduceNeg, opt_some, List.lookup_cons, setE, cmp_eq_i, decide_eq_true_eq, decide_eq_false_iff_not, true_implies, false_implies, and_true, Bool.true_eq_false, eq_self, wE_int, kv_eq, e_var, e_sub, kSub1_eq, kSub2_eq, e_neg, kNeg_eq, kc1_eq, kc2_eq, e_call, kLen_e, es_cons, kEs1_nil, t_or, t_cmp, ts_nil, ts_cons, kTs_t, kTs_f, kIf_eq, c_len, lt])
      by_cases es : 0 < s.length
      · have es' : (s.length : Int) > 0 := by lia
        (simp only [Int.reduceNeg, not_true_eq_false, es']; simp only [Int.reduceNeg, true_implies, false_implies, and_true])
        by_cases et : t.length = 0
        · have et' : (t.length : Int) = 0 := by lia
          (simp only [Int.reduceNeg, not_true_eq_false, eq_self, et']; simp only [Int.reduceNeg, true_implies, false_implies, and_true, true_and])
          exact first ⟨es, .inl et⟩ _ (by simp only [BEq.rfl, Int.reduceNeg, List.lookup_cons, eq_self]) (by simp only [String.reduceBEq, BEq.rfl, Int.reduceNeg, List.lookup_cons, eq_self]) (by simp only [String.reduceBEq, BEq.rfl, Int.reduceNeg, List.lookup_cons, eq_self])
        · have et' : ¬ (t.length : Int) = 0 := by lia
          have pos : 0 < t.length := by lia
          ((try have ff1 := st pos); (try have ff2 := ss' es); simp only [Int.reduceNeg, not_false_eq_true, et', st pos, ss' es]; simp only [String.reduceBEq, BEq.rfl, Int.reduceNeg, opt_some, List.lookup_cons, cmp_gt, decide_eq_true_eq, decide_eq_false_iff_not, true_implies, false_implies, and_true, true_and, Bool.true_eq_false, Bool.false_eq_true, eq_self, wE_int, kv_eq, e_var, e_sub, kSub1_eq, kSub2_eq, e_neg, kNeg_eq, kc1_eq, kc2_eq, ts_nil, kTs_t, kTs_f, kIf_eq, st pos, ss' es]; (try clear ff1 ff2))
          by_cases eg : lastL s > lastL t
          · (simp only [Int.reduceNeg, not_true_eq_false, eg]; simp only [Int.reduceNeg, true_implies, false_implies, and_true, true_and])
            exact first ⟨es, .inr eg⟩ _ (by simp only [BEq.rfl, Int.reduceNeg, List.lookup_cons, eq_self]) (by simp only [String.reduceBEq, BEq.rfl, Int.reduceNeg, List.lookup_cons, eq_self]) (by simp only [String.reduceBEq, BEq.rfl, Int.reduceNeg, List.lookup_cons, eq_self])
          · (simp only [Int.reduceNeg, not_false_eq_true, eg]; simp only [Int.reduceNeg, true_implies, false_implies, and_true, true_and])
            exact second (fun q => q.2.elim et eg) _ (by simp only [String.reduceBEq, BEq.rfl, Int.reduceNeg, List.lookup_cons, eq_self]) (by simp only [String.reduceBEq, BEq.rfl, Int.reduceNeg, List.lookup_cons, eq_self]) (by simp only [String.reduceBEq, BEq.rfl, Int.reduceNeg, List.lookup_cons, eq_self]) (by simp only [String.reduceBEq, BEq.rfl, Int.reduceNeg, List.lookup_cons, eq_self])
      · have es' : ¬ (s.length : Int) > 0 := by lia
        (simp only [Int.reduceNeg, not_false_eq_true, es']; simp only [Int.reduceNeg, true_implies, false_implies, true_and])
        exact second (fun q => es q.1) _ (by simp only [String.reduceBEq, BEq.rfl, Int.reduceNeg, List.lookup_cons, eq_self]) (by simp only [String.reduceBEq, BEq.rfl, Int.reduceNeg, List.lookup_cons, eq_self]) (by simp only [String.reduceBEq, BEq.rfl, Int.reduceNeg, List.lookup_cons, eq_self]) (by simp only [String.reduceBEq, BEq.rfl, Int.reduceNeg, List.lookup_cons, eq_self])
end
end Mine
end
section
set_option maxRecDepth 100000
namespace Mine
structure Kp where
  kinds : List String
  texts : List String
  parents : List Int
  ch : List (Nat × List Int)
noncomputable def keptF (k0 k1 k2 k3 : Nat) (K : Kp) : List (Nat × AO) := [(k0, .list (sV K.kinds)), (k1, .list (sV K.texts)), (k2, .list (iV K.parents)), (k3, .list (chRefs K.ch))]
noncomputable def keptD (k0 k1 k2 k3 : Nat) (K : Kp) : List (Nat × AO) := keptF k0 k1 k2 k3 K ++ chD K.ch

section
variable {H : AH} {A : List (Nat × AO)} {k0 k1 k2 k3 : Nat} {K : Kp} {x y : Int} {Q : AV → AH → Prop} {d : Nat}
theorem q_kinds (S : Sat H (A ++ keptD k0 k1 k2 k3 K)) : H[k0]? = some (.list (sV K.kinds)) := S.getR 0 rfl
theorem q_texts (S : Sat H (A ++ keptD k0 k1 k2 k3 K)) : H[k1]? = some (.list (sV K.texts)) := S.getR 1 rfl
theorem q_parents (S : Sat H (A ++ keptD k0 k1 k2 k3 K)) : H[k2]? = some (.list (iV K.parents)) := S.getR 2 rfl
theorem q_children (S : Sat H (A ++ keptD k0 k1 k2 k3 K)) : H[k3]? = some (.list (chRefs K.ch)) := S.getR 3 rfl
theorem q_ch (S : Sat H (A ++ keptD k0 k1 k2 k3 K)) (h0 : 0 ≤ x) (h1 : x < K.ch.length) : H[gr K.ch x]? = some (.list (iV (gc K.ch x))) := by
  have e : K.ch[x.toNat]? = some (gr K.ch x, gc K.ch x) := by
    rw [List.getElem?_eq_getElem (toNat_lt h0 h1)]
    unfold gr gc
    rw [List.getD_eq_getElem?_getD, List.getElem?_eq_getElem (toNat_lt h0 h1)]; rfl
  exact S.get (List.mem_append_right _ (List.mem_append_right _ (List.mem_map.mpr ⟨_, List.mem_of_getElem? e, rfl⟩)))
theorem w_kinds (S : Sat H (A ++ keptD k0 k1 k2 k3 K)) (l : List String) : Sat (H.set k0 (.list (sV l))) (A ++ keptD k0 k1 k2 k3 { K with kinds := l }) := S.setR 0 (.list (sV l)) rfl
theorem w_texts (S : Sat H (A ++ keptD k0 k1 k2 k3 K)) (l : List String) : Sat (H.set k1 (.list (sV l))) (A ++ keptD k0 k1 k2 k3 { K with texts := l }) := S.setR 1 (.list (sV l)) rfl
theorem w_parents (S : Sat H (A ++ keptD k0 k1 k2 k3 K)) (l : List Int) : Sat (H.set k2 (.list (iV l))) (A ++ keptD k0 k1 k2 k3 { K with parents := l }) := S.setR 2 (.list (iV l)) rfl
theorem w_chn (S : Sat H (A ++ keptD k0 k1 k2 k3 K)) : Sat ((H ++ [AO.list []]).set k3 (.list (chRefs (K.ch ++ [(H.length, [])])))) (A ++ keptD k0 k1 k2 k3 { K with ch := K.ch ++ [(H.length, [])] }) := by
  have S0 := S.pushE (AO.list [])
  have e0 : (A ++ keptD k0 k1 k2 k3 K) ++ [(H.length, AO.list [])] = A ++ (keptF k0 k1 k2 k3 K ++ (chD K.ch ++ [(H.length, AO.list [])])) := by
    unfold keptD; simp only [List.append_assoc]
  rw [e0] at S0
  have S1 : Sat ((H ++ [AO.list []]).set k3 (.list (chRefs (K.ch ++ [(H.length, [])])))) (A ++ (keptF k0 k1 k2 k3 { K with ch := K.ch ++ [(H.length, [])] } ++ (chD K.ch ++ [(H.length, AO.list [])]))) :=
    S0.setR 3 (.list (chRefs (K.ch ++ [(H.length, [])]))) rfl
  have e1 : chD (K.ch ++ [(H.length, [])]) = chD K.ch ++ [(H.length, AO.list [])] := by simp only [List.map_append, List.map_cons, List.map_nil]
  unfold keptD
  dsimp only
  rw [e1]; exact S1
/-- a child list by a new one -/
theorem w_ch {r : Nat} {l : List Int} {j : Nat} (S : Sat H ((r, .list (iV l)) :: (A ++ keptD k0 k1 k2 k3 K))) (hj : j < K.ch.length) : Sat (H.set k3 (.list (chRefs (K.ch.set j (r, l))))) (A ++ keptD k0 k1 k2 k3 { K with ch := K.ch.set j (r, l) }) := by
  have S0 : Sat H (((r, AO.list (iV l)) :: A) ++ keptD k0 k1 k2 k3 K) := S
  have S1 : Sat (H.set k3 (.list (chRefs (K.ch.set j (r, l))))) (((r, AO.list (iV l)) :: A) ++ (keptF k0 k1 k2 k3 { K with ch := K.ch.set j (r, l) } ++ chD K.ch)) := S0.setR 3 (.list (chRefs (K.ch.set j (r, l)))) rfl
  have e1 : chD K.ch = chD (K.ch.take j) ++ ((K.ch[j].1, AO.list (iV K.ch[j].2)) :: chD (K.ch.drop (j + 1))) := by
    conv => lhs; rw [← List.take_append_drop j K.ch, List.drop_eq_getElem_cons hj]
    simp only [List.map_append, List.map_cons]
  have e2 : chD (K.ch.set j (r, l)) = chD (K.ch.take j) ++ ((r, AO.list (iV l)) :: chD (K.ch.drop (j + 1))) := by
    rw [List.set_eq_take_append_cons_drop, if_pos hj]
    simp only [List.map_append, List.map_cons]
  rw [e1] at S1
  have S2 : Sat (H.set k3 (.list (chRefs (K.ch.set j (r, l))))) ((r, AO.list (iV l)) :: ((A ++ (keptF k0 k1 k2 k3 { K with ch := K.ch.set j (r, l) } ++ chD (K.ch.take j))) ++ chD (K.ch.drop (j + 1)))) := by
    refine S1.sub ?_
    rw [List.cons_append]
    refine List.Sublist.cons_cons _ ?_
    rw [List.append_assoc, List.append_assoc]
    refine List.Sublist.append_left (List.Sublist.append_left (List.Sublist.append_left (List.sublist_cons_self _ _) _) _) _
  have S3 := S2.perm List.perm_middle.symm
  unfold keptD
  dsimp only
  rw [e2]
  simp only [List.append_assoc] at S3 ⊢
  exact S3

theorem sl_to {a k : Nat} {l : List Int} (h : H[a]? = some (.list (iV l))) (hk : k ≤ l.length) (h2 : l.length ≤ lim) : sliceH H (.ref a) Option.none (some (k : Int)) = some (.ref H.length, H ++ [.list (iV (l.take k))]) := by
  unfold sliceH; simp only [h]
  rw [if_pos (by rw [List.length_map]; exact h2)]
  unfold sliceA
  dsimp only
  rw [if_pos ⟨by lia, by rw [List.length_map]; lia⟩, Option.map_some, Int.toNat_natCast]
  simp only [List.map_take]
theorem sl_from {a k : Nat} {l : List Int} (h : H[a]? = some (.list (iV l))) (hk : k ≤ l.length) (h2 : l.length ≤ lim) : sliceH H (.ref a) (some (k : Int)) Option.none = some (.ref H.length, H ++ [.list (iV (l.drop k))]) := by
  unfold sliceH; simp only [h]
  rw [if_pos (by rw [List.length_map]; exact h2)]
  unfold sliceA
  dsimp only
  rw [if_pos ⟨by lia, by rw [List.length_map]; lia⟩, Option.map_some, Int.toNat_natCast]
  simp only [List.map_drop]
theorem sl_last {a : Nat} {l : List Int} (h : H[a]? = some (.list (iV l))) (h2 : l.length ≤ lim) : sliceH H (.ref a) (some (-1)) Option.none = some (.ref H.length, H ++ [.list (iV (l.drop (l.length - 1)))]) := by
  unfold sliceH; simp only [h]
  rw [if_pos (by rw [List.length_map]; exact h2)]
  unfold sliceA
  dsimp only
  rw [if_neg (by lia), if_pos rfl, Option.map_some, List.length_map]
  simp only [List.map_drop]
theorem cat_l {a b : Nat} {l m : List Int} (h : H[a]? = some (.list (iV l))) (h' : H[b]? = some (.list (iV m))) (h2 : l.length + m.length ≤ lim) : binA H .Add (.ref a) (.ref b) = some (.ref H.length, H ++ [.list (iV (l ++ m))]) := by
  unfold binA; simp only [h, h']
  rw [if_pos (by rw [List.length_map, List.length_map]; exact h2)]
  simp only [List.map_append]
theorem ap_ms {a : Nat} {l : List String} {s : String} (h : H[a]? = some (.list (sV l))) (h2 : l.length ≤ lim) : methA H a "append" [.str s] = some (.none, H.set a (.list (sV (l ++ [s])))) := by
  unfold methA; simp only [h]; rw [if_pos (by rw [List.length_map]; exact h2)]
  simp only [List.map_append, List.map_cons, List.map_nil]
theorem eq_text0 {a b : Nat} (h : H[a]? = some (.list [])) (h' : H[b]? = some (.list [.str "text"])) : cmpA H .Eq (.ref a) (.ref b) = some false := by
  unfold cmpA aeq; simp only [h, h']; rfl
theorem eq_text1 {a b : Nat} {s : String} (h : H[a]? = some (.list [.str s])) (h' : H[b]? = some (.list [.str "text"])) : cmpA H .Eq (.ref a) (.ref b) = some (decide (s = "text")) := by
  unfold cmpA aeq; simp only [h, h']
  show some (decide (s = "text") && true) = _
  rw [Bool.and_true]
theorem set_r {a : Nat} {l : List (Nat × List Int)} {r : Nat} {m : List Int} (h : H[a]? = some (.list (chRefs l))) (h0 : 0 ≤ x) (h1 : x < l.length) (h2 : l.length ≤ lim) : setsubA H (.ref a) (.int x) (.ref r) = some (H.set a (.list (chRefs (l.set x.toNat (r, m))))) := by
  have e : (chRefs l).length = l.length := List.length_map ..
  unfold setsubA; simp only [h]
  rw [e, idx_ok h0 h1 h2, if_pos h0, Option.map_some]; simp only [List.map_set]

structure KLn (K : Kp) : Prop where
  texts : K.texts.length = K.kinds.length
  parents : K.parents.length = K.kinds.length
  ch : K.ch.length = K.kinds.length
  le : K.kinds.length ≤ 1000
  cle : ∀ p ∈ K.ch, p.2.length ≤ 1000
  tle : ∀ t ∈ K.texts, t.length ≤ 1000
  cok : ∀ p ∈ K.ch, ∀ c ∈ p.2, 0 ≤ c ∧ c < K.kinds.length

noncomputable def Kp.put (K : Kp) (k t : String) (p b : Int) (r1 r2 : Nat) : Kp :=
  if k = "text" ∧ p = 0 then K
  else if k = "text" ∧ (gc K.ch p).take (insPos (gc K.ch p) b) ≠ [] ∧ gs K.kinds (lastL ((gc K.ch p).take (insPos (gc K.ch p) b))) = "text" then
    { K with texts := K.texts.set (lastL ((gc K.ch p).take (insPos (gc K.ch p) b))).toNat (gs K.texts (lastL ((gc K.ch p).take (insPos (gc K.ch p) b))) ++ t) }
  else { kinds := K.kinds ++ [k], texts := K.texts ++ [t], parents := K.parents ++ [p],
         ch := K.ch.set p.toNat (r1, ((gc K.ch p).take (insPos (gc K.ch p) b) ++ [(K.kinds.length : Int)]) ++ (gc K.ch p).drop (insPos (gc K.ch p) b)) ++ [(r2, [])] }

theorem drop_last {l : List Int} (h : l ≠ []) : l.drop (l.length - 1) = [lastL l] := by
  have hp : 0 < l.length := List.length_pos_iff.mpr h
  rw [List.drop_eq_getElem_cons (by lia)]
  have e : l.length - 1 + 1 = l.length := by lia
  rw [e, List.drop_length]
  unfold lastL gi
  have e2 : ((l.length : Int) - 1).toNat = l.length - 1 := by lia
  rw [List.getD_eq_getElem?_getD, e2, List.getElem?_eq_getElem (by lia)]; rfl

theorem c_law_put (S : Sat H (A ++ keptD k0 k1 k2 k3 K)) (L : KLn K) {p b : Int} (p0 : 0 ≤ p) (p1 : p < K.kinds.length) (hb : b = -1 ∨ b ∈ gc K.ch p) {k t : String} (ht : t.length ≤ 1)
    (q : ∀ H' r1 r2, Sat H' (A ++ keptD k0 k1 k2 k3 (K.put k t p b r1 r2)) → Q .none H') :
    WC (d + 1) f_law_put [.tup [.ref k0, .ref k1, .ref k2, .ref k3], .tup [.int p, .int b], .str k, .str t] H Q := by
  refine wc_of (ρ := [("text", .str t), ("kind", .str k), ("spot", .tup [.int p, .int b]), ("kept", .tup [.ref k0, .ref k1, .ref k2, .ref k3])]) rfl ?_
  unfold f_law_put
  dsimp only
  ((with_reducible refine sc ?_))
  ((with_reducible refine bs_unpack ?_); refine bvar rfl ?_; simp only [true_and, eq_self, List.length_cons, List.length_nil, Nat.reduceAdd, Nat.zero_add, List.zip_cons_cons, List.zip_nil_right, List.reverse_cons, List.reverse_nil, List.cons_append, List.nil_append, cont_next, kUn_eq])
  ((with_reducible refine sc ?_))
  ((with_reducible refine bs_unpack ?_); refine bvar rfl ?_; simp only [true_and, eq_self, List.length_cons, List.length_nil, Nat.reduceAdd, Nat.zero_add, List.zip_cons_cons, List.zip_nil_right, List.reverse_cons, List.reverse_nil, List.cons_append, List.nil_append, cont_next, kUn_eq])
  have hlim := lim_ge
  have l1 := L.texts
  have l2 := L.parents
  have l3 := L.ch
  have l4 := L.le
  have pc : p < K.ch.length := by rw [l3]; exact p1
  have hg : (gc K.ch p).length ≤ 1000 := by
    unfold gc
    rw [List.getD_eq_getElem?_getD, List.getElem?_eq_getElem (toNat_lt p0 pc)]
    exact L.cle _ (List.getElem_mem _)
  have hco : ∀ c ∈ gc K.ch p, 0 ≤ c ∧ c < K.kinds.length := by
    intro c hc
    unfold gc at hc
    rw [List.getD_eq_getElem?_getD, List.getElem?_eq_getElem (toNat_lt p0 pc)] at hc
    exact L.cok _ (List.getElem_mem _) c hc
  have hgl : (iV (gc K.ch p)).length ≤ lim := by rw [List.length_map]; lia
  have gC := q_ch S p0 pc
  have gc1 := sub_c (q_children S) p0 pc (by lia)
  have hk : insPos (gc K.ch p) b ≤ (gc K.ch p).length := by
    unfold insPos; split
    · exact Nat.le_refl _
    · exact List.idxOf_le_length
  ((with_reducible refine sc ?_))
  ((with_reducible refine bs_assign (be_ite (bt_cmp ?_))); refine bvar rfl ?_; (with_reducible refine bkc1_eq (be_neg1 ?_)); (with_reducible refine bcmp cmp_eq_i ?_); simp only [String.reduceBEq, BEq.rfl, Int.reduceNeg, opt_some, List.lookup_cons, decide_eq_true_eq, decide_eq_false_iff_not, kv_eq, e_var, e_sub, kSub1_eq, kSub2_eq, kIte_eq, e_call, e_meth, kM1_eq, es_cons, kEs1_nil, c_len, gc1])
  have rest : ∀ ρ : AE, ρ.lookup "at" = some (.int (insPos (gc K.ch p) b : Int)) → ρ.lookup "kinds" = some (.ref k0) → ρ.lookup "texts" = some (.ref k1) → ρ.lookup "parents" = some (.ref k2) → ρ.lookup "children" = some (.ref k3) → ρ.lookup "here" = some (.int p) → ρ.lookup "kind" = some (.str k) → ρ.lookup "text" = some (.str t) →
      wSs d (.cons (.assign "ahead" (.slice (.sub (.var "children") (.var "here")) .absent (.var "at"))) (.cons (.ifs (.and (.cons (.cmp .Eq (.var "kind") (.str "text")) (.cons (.cmp .Eq (.var "here") (.int 0)) .nil))) (.cons .retNone .nil) .nil) (.cons (.ifs (.and (.cons (.cmp .Eq (.var "kind") (.str "text")) (.cons (.cmp .Eq (.comp (.sub (.var "kinds") (.var "node")) "node" (.slice (.var "ahead") (.neg (.int 1)) .absent) .absent ["kinds"]) (.lst (.cons (.str "text") .nil))) .nil))) (.cons (.setsub (.var "texts") (.sub (.var "ahead") (.neg (.int 1))) (.bin .Add (.sub (.var "texts") (.sub (.var "ahead") (.neg (.int 1)))) (.var "text"))) (.cons .retNone .nil)) .nil) (.cons (.setsub (.var "children") (.var "here") (.bin .Add (.bin .Add (.var "ahead") (.lst (.cons (.call "len" (.cons (.var "kinds") .nil)) .nil))) (.slice (.sub (.var "children") (.var "here")) (.var "at") .absent))) (.cons (.expr (.meth (.var "kinds") "append" (.cons (.var "kind") .nil))) (.cons (.expr (.meth (.var "texts") "append" (.cons (.var "text") .nil))) (.cons (.expr (.meth (.var "parents") "append" (.cons (.var "here") .nil))) (.cons (.expr (.meth (.var "children") "append" (.cons (.lst .nil) .nil))) .nil)))))))) ρ H (kFn Q) := by
    intro ρ e1 e2 e3 e4 e5 e6 e7 e8
    unfold Kp.put at q
    ((with_reducible refine sc ?_))
    ((with_reducible refine bs_assign (be_slice (be_sub ?_))); (with_reducible refine bvar (by assumption) ?_); (with_reducible refine bkSub1_eq ?_); (with_reducible refine bvar (by assumption) ?_); (with_reducible refine bsub2 (by assumption) ?_); (with_reducible refine bkSl1_eq (bo_absent (bkSl3_eq (bo_var ?_)))); (with_reducible refine bvar (by assumption) ?_); (with_reducible refine bkO_eq ?_); (with_reducible refine bslc (sl_to gC hk (by lia)) ?_); (with_reducible refine bkAs_c ?_); simp only [setE, sl_to gC hk (by lia)])
    have S1 : Sat (H ++ [.list (iV ((gc K.ch p).take (insPos (gc K.ch p) b)))]) (((H.length, .list (iV ((gc K.ch p).take (insPos (gc K.ch p) b)))) :: A) ++ keptD k0 k1 k2 k3 K) := S.push _
    have hal : ((gc K.ch p).take (insPos (gc K.ch p) b)).length ≤ 1000 := by rw [List.length_take]; lia
    have hdl : ((gc K.ch p).drop (insPos (gc K.ch p) b)).length ≤ 1000 := by rw [List.length_drop]; lia
    have hao : ∀ c ∈ (gc K.ch p).take (insPos (gc K.ch p) b), 0 ≤ c ∧ c < K.kinds.length := fun c hc => hco c (List.mem_of_mem_take hc)
    generalize hah : (gc K.ch p).take (insPos (gc K.ch p) b) = ah at *
    generalize hdr : (gc K.ch p).drop (insPos (gc K.ch p) b) = dr at *
    generalize hH1 : H ++ [AO.list (iV ah)] = H1 at *
    generalize H.length = ra at *
    ((with_reducible refine sc ?_))
    ((with_reducible refine bs_ifs (bt_and (bts_cons (bt_cmp ?_)))); refine bvar (by (simp only [List.lookup_cons, String.reduceBEq]; first | done | assumption | rfl)) ?_; (with_reducible refine bkc1_eq (bwE_str ?_)); (with_reducible refine bcmp cmp_eq_s ?_); simp only [String.reduceBEq, opt_some, List.lookup_cons, cmp_eq_i, decide_eq_true_eq, decide_eq_false_iff_not, true_implies, false_implies, and_true, Bool.true_eq_false, eq_self, cont_next, wSs_nil, wE_int, kv_eq, e_var, kc1_eq, kc2_eq, t_cmp, ts_nil, ts_cons, kTs_t, kIf_eq, e6])
    have goal2 : ¬ (k = "text" ∧ p = 0) → wSs d (.cons (.ifs (.and (.cons (.cmp .Eq (.var "kind") (.str "text")) (.cons (.cmp .Eq (.comp (.sub (.var "kinds") (.var "node")) "node" (.slice (.var "ahead") (.neg (.int 1)) .absent) .absent ["kinds"]) (.lst (.cons (.str "text") .nil))) .nil))) (.cons (.setsub (.var "texts") (.sub (.var "ahead") (.neg (.int 1))) (.bin .Add (.sub (.var "texts") (.sub (.var "ahead") (.neg (.int 1)))) (.var "text"))) (.cons .retNone .nil)) .nil) (.cons (.setsub (.var "children") (.var "here") (.bin .Add (.bin .Add (.var "ahead") (.lst (.cons (.call "len" (.cons (.var "kinds") .nil)) .nil))) (.slice (.sub (.var "children") (.var "here")) (.var "at") .absent))) (.cons (.expr (.meth (.var "kinds") "append" (.cons (.var "kind") .nil))) (.cons (.expr (.meth (.var "texts") "append" (.cons (.var "text") .nil))) (.cons (.expr (.meth (.var "parents") "append" (.cons (.var "here") .nil))) (.cons (.expr (.meth (.var "children") "append" (.cons (.lst .nil) .nil))) .nil)))))) (("ahead", .ref ra) :: ρ) H1 (kFn Q) := by
      intro hn1
      simp only [if_neg hn1] at q
      -- the last part
      have goal3 : ∀ H2, Sat H2 (((ra, .list (iV ah)) :: A) ++ keptD k0 k1 k2 k3 K) → ¬ (k = "text" ∧ ah ≠ [] ∧ gs K.kinds (lastL ah) = "text") →
          wSs d (.cons (.setsub (.var "children") (.var "here") (.bin .Add (.bin .Add (.var "ahead") (.lst (.cons (.call "len" (.cons (.var "kinds") .nil)) .nil))) (.slice (.sub (.var "children") (.var "here")) (.var "at") .absent))) (.cons (.expr (.meth (.var "kinds") "append" (.cons (.var "kind") .nil))) (.cons (.expr (.meth (.var "texts") "append" (.cons (.var "text") .nil))) (.cons (.expr (.meth (.var "parents") "append" (.cons (.var "here") .nil))) (.cons (.expr (.meth (.var "children") "append" (.cons (.lst .nil) .nil))) .nil))))) (("ahead", .ref ra) :: ρ) H2 (kFn Q) := by
        intro H2 S2 hn2
        simp only [if_neg hn2] at q
        have hkl : (sV K.kinds).length ≤ lim := by rw [List.length_map]; lia
        have lk : lenA H2 (.ref k0) = some (K.kinds.length : Int) := by rw [len_l (q_kinds S2) hkl, List.length_map]
        have eI : ([AV.int (K.kinds.length : Int)] : List AV) = iV [(K.kinds.length : Int)] := rfl
        have S3 := S2.push (AO.list (iV [(K.kinds.length : Int)]))
        have S3' : Sat (H2 ++ [AO.list (iV [(K.kinds.length : Int)])]) ((((H2.length, .list (iV [(K.kinds.length : Int)])) :: (ra, .list (iV ah)) :: A)) ++ keptD k0 k1 k2 k3 K) := S3
        have g1 := S3'.getj 0 rfl
        have g2 := S3'.getj 1 rfl
        have S4 : Sat (H2 ++ [AO.list (iV [(K.kinds.length : Int)])] ++ [AO.list (iV (ah ++ [(K.kinds.length : Int)]))]) ((((H2 ++ [AO.list (iV [(K.kinds.length : Int)])]).length, .list (iV (ah ++ [(K.kinds.length : Int)]))) :: ((H2.length, .list (iV [(K.kinds.length : Int)])) :: (ra, .list (iV ah)) :: A)) ++ keptD k0 k1 k2 k3 K) := S3'.push _
        have g3 := S4.getj 0 rfl
        have gC4 := q_ch S4 p0 pc
        have gc4 := sub_c (q_children S4) p0 pc (by lia)
        have s4 := sl_from gC4 hk (by lia)
        rw [hdr] at s4
        have S5 : Sat (H2 ++ [AO.list (iV [(K.kinds.length : Int)])] ++ [AO.list (iV (ah ++ [(K.kinds.length : Int)]))] ++ [AO.list (iV dr)]) (((H2 ++ [AO.list (iV [(K.kinds.length : Int)])] ++ [AO.list (iV (ah ++ [(K.kinds.length : Int)]))]).length, .list (iV dr)) :: (((H2 ++ [AO.list (iV [(K.kinds.length : Int)])]).length, .list (iV (ah ++ [(K.kinds.length : Int)]))) :: ((H2.length, .list (iV [(K.kinds.length : Int)])) :: (ra, .list (iV ah)) :: A)) ++ keptD k0 k1 k2 k3 K) := S4.push _
        have g5 := S5.getj 0 rfl
        have g6 := S5.getj 1 rfl
        have c1 := cat_l g2 g1 (by simp only [List.length_cons, List.length_nil]; lia)
        have c2 := cat_l g6 g5 (by simp only [List.length_append, List.length_cons, List.length_nil]; lia)
        have S6 := S5.push (AO.list (iV ((ah ++ [(K.kinds.length : Int)]) ++ dr)))
        ((with_reducible refine sc ?_))
        ((with_reducible refine bs_setsub (be_bin (be_bin ?_))); refine bvar rfl ?_; (with_reducible refine bkBin1_eq (be_lst (bes_cons (be_call (bes_cons ?_))))); refine bvar (by (simp only [List.lookup_cons, String.reduceBEq]; first | done | assumption | rfl)) ?_; (with_reducible refine bkEs1_nil ?_); (with_reducible refine blen (by assumption) ?_); (with_reducible refine bkEs1_nil (bkLst_1 ?_)); simp only [eI]; (with_reducible refine bbin (by assumption) ?_); (with_reducible refine bkBin1_eq (be_slice (be_sub ?_))); refine bvar (by (simp only [List.lookup_cons, String.reduceBEq]; first | done | assumption | rfl)) ?_; (with_reducible refine bkSub1_eq ?_); refine bvar (by (simp only [List.lookup_cons, String.reduceBEq]; first | done | assumption | rfl)) ?_; (with_reducible refine bsub2 (by assumption) ?_); (with_reducible refine bkSl1_eq (bo_var ?_)); refine bvar (by (simp only [List.lookup_cons, String.reduceBEq]; first | done | assumption | rfl)) ?_; (with_reducible refine bkO_eq (bkSl3_eq (bo_absent ?_))); (with_reducible refine bslc (by assumption) ?_); (with_reducible refine bbin (by assumption) ?_); (with_reducible refine bkSs1_eq ?_); refine bvar (by (simp only [List.lookup_cons, String.reduceBEq]; first | done | assumption | rfl)) ?_; (with_reducible refine bkSs2_eq ?_); refine bvar (by (simp only [List.lookup_cons, String.reduceBEq]; first | done | assumption | rfl)) ?_; simp only [kSs3_eq])
        have S6' : Sat (H2 ++ [AO.list (iV [(K.kinds.length : Int)])] ++ [AO.list (iV (ah ++ [(K.kinds.length : Int)]))] ++ [AO.list (iV dr)] ++ [AO.list (iV ((ah ++ [(K.kinds.length : Int)]) ++ dr))])
            (((H2 ++ [AO.list (iV [(K.kinds.length : Int)])] ++ [AO.list (iV (ah ++ [(K.kinds.length : Int)]))] ++ [AO.list (iV dr)]).length, AO.list (iV ((ah ++ [(K.kinds.length : Int)]) ++ dr))) :: (A ++ keptD k0 k1 k2 k3 K)) :=
          S6.sub (List.Sublist.cons_cons _ ((((List.Sublist.refl _).cons _).cons _).cons _ |>.cons _))
        generalize (H2 ++ [AO.list (iV [(K.kinds.length : Int)])] ++ [AO.list (iV (ah ++ [(K.kinds.length : Int)]))] ++ [AO.list (iV dr)]).length = rn at S6' ⊢
        generalize (H2 ++ [AO.list (iV [(K.kinds.length : Int)])] ++ [AO.list (iV (ah ++ [(K.kinds.length : Int)]))] ++ [AO.list (iV dr)] ++ [AO.list (iV ((ah ++ [(K.kinds.length : Int)]) ++ dr))]) = H6 at S6' ⊢
        have S6k : Sat H6 (((rn, AO.list (iV ((ah ++ [(K.kinds.length : Int)]) ++ dr))) :: A) ++ keptD k0 k1 k2 k3 K) := S6'
        (simp only [set_r (m := (ah ++ [(K.kinds.length : Int)]) ++ dr) (q_children S6k) p0 pc (by lia)]; simp only [opt_some, cont_next, kN_eq, set_r (m := (ah ++ [(K.kinds.length : Int)]) ++ dr) (q_children S6k) p0 pc (by lia)])
        have S7 := w_ch S6' (j := p.toNat) (toNat_lt p0 pc)
        ((with_reducible refine sc ?_))
        ((with_reducible refine bs_expr (be_meth ?_)); refine bvar (by (simp only [List.lookup_cons, String.reduceBEq]; first | done | assumption | rfl)) ?_; (with_reducible refine bkl (kind_list (q_kinds S7)) rfl ?_); (with_reducible refine bes_cons ?_); refine bvar (by (simp only [List.lookup_cons, String.reduceBEq]; first | done | assumption | rfl)) ?_; (with_reducible refine bkEs1_nil ?_); (with_reducible refine bml (app_s (q_kinds S7) (by dsimp only; lia)) ?_); (with_reducible refine bkEx_n (bcont_next ?_)); simp only [kind_list (q_kinds S7), app_s (q_kinds S7) (by dsimp only; lia)])
        have S8 := w_kinds S7 (K.kinds ++ [k])
        ((with_reducible refine sc ?_))
        ((with_reducible refine bs_expr (be_meth ?_)); refine bvar (by (simp only [List.lookup_cons, String.reduceBEq]; first | done | assumption | rfl)) ?_; (with_reducible refine bkl (kind_list (q_texts S8)) rfl ?_); (with_reducible refine bes_cons ?_); refine bvar (by (simp only [List.lookup_cons, String.reduceBEq]; first | done | assumption | rfl)) ?_; (with_reducible refine bkEs1_nil ?_); (with_reducible refine bml (app_s (q_texts S8) (by dsimp only; lia)) ?_); (with_reducible refine bkEx_n (bcont_next ?_)); simp only [kind_list (q_texts S8), app_s (q_texts S8) (by dsimp only; lia)])
        have S9 := w_texts S8 (K.texts ++ [t])
        ((with_reducible refine sc ?_))
        ((with_reducible refine bs_expr (be_meth ?_)); refine bvar (by (simp only [List.lookup_cons, String.reduceBEq]; first | done | assumption | rfl)) ?_; (with_reducible refine bkl (kind_list (q_parents S9)) rfl ?_); (with_reducible refine bes_cons ?_); refine bvar (by (simp only [List.lookup_cons, String.reduceBEq]; first | done | assumption | rfl)) ?_; (with_reducible refine bkEs1_nil ?_); (with_reducible refine bml (app_i (q_parents S9) (by dsimp only; lia)) ?_); (with_reducible refine bkEx_n (bcont_next ?_)); simp only [kind_list (q_parents S9), app_i (q_parents S9) (by dsimp only; lia)])
        have S10 := w_parents S9 (K.parents ++ [p])
        ((with_reducible refine sc ?_))
        have S10' := S10.keep [.list []]
        ((with_reducible refine bs_expr (be_meth ?_)); refine bvar (by (simp only [List.lookup_cons, String.reduceBEq]; first | done | assumption | rfl)) ?_; (with_reducible refine bkl (kind_list (q_children S10)) rfl ?_); (with_reducible refine bes_cons (be_lst (bes_nil (bkLst_0 (bkEs1_nil ?_))))); (with_reducible refine bml (app_c (m := []) (q_children S10') (by dsimp only; rw [List.length_set]; lia)) ?_); (with_reducible refine bkEx_n (bcont_next (bwSs_nil (bkFn_n ?_)))); simp only [kind_list (q_children S10), app_c (m := []) (q_children S10') (by dsimp only; rw [List.length_set]; lia)])
        exact q _ _ _ (w_chn S10)
      have S1' : Sat H1 (((ra, .list (iV ah)) :: A) ++ keptD k0 k1 k2 k3 K) := S1
      have gA := S1'.getj 0 rfl
      ((with_reducible refine sc ?_))
      ((with_reducible refine bs_ifs (bt_and (bts_cons (bt_cmp ?_)))); refine bvar (by (simp only [List.lookup_cons, String.reduceBEq]; first | done | assumption | rfl)) ?_; (with_reducible refine bkc1_eq (bwE_str ?_)); (with_reducible refine bcmp cmp_eq_s ?_); simp only [BEq.rfl, Int.reduceNeg, opt_some, List.lookup_cons, decide_eq_true_eq, decide_eq_false_iff_not, cont_next, wSs_nil, wE_int, kv_eq, e_var, e_slice, kSl1_eq, kSl3_eq, kSl4_eq, e_neg, kNeg_eq, t_cmp, ts_cons, kTs_t, o_absent, o_neg, kO_eq, e_comp, kIf_eq])
      by_cases ek : k = "text"
      · subst ek
        have sll := sl_last gA (by lia)
        have fl : ((("ahead", AV.ref ra) :: ρ).filter fun p => (["kinds"] : List String).contains p.1).lookup "kinds" = some (.ref k0) := by
          have : ∀ (l : AE) v, l.lookup "kinds" = some v → (l.filter fun p => (["kinds"] : List String).contains p.1).lookup "kinds" = some v := by
            intro l
            induction l with
            | nil => intro v h; cases h
            | cons a r ih =>
              intro v h
              obtain ⟨n, w⟩ := a
              rw [List.lookup_cons] at h
              by_cases en : n = "kinds"
              · subst en
                rw [List.filter_cons, if_pos (by simp), List.lookup_cons]
                exact h
              · have : ("kinds" == n) = false := beq_eq_false_iff_ne.mpr fun q => en q.symm
                rw [this] at h
                rw [List.filter_cons]
                split
                · rename_i hc
                  have : n = "kinds" := by simpa using hc
                  exact absurd this en
                · exact ih v h
          exact this _ _ (by simp only [String.reduceBEq, List.lookup_cons, eq_self, e2])
        (simp only [Int.reduceNeg, not_true_eq_false, eq_self, sll]; simp only [opt_some, true_implies, false_implies, and_true, kr_eq, kComp_ref])
        by_cases eh : ah = []
        · subst eh
          rw [List.drop_nil]
          have S2 := (S1'.push (AO.list (iV []))).push (AO.list [])
          refine ⟨1, XCl_nil (vs := []) (S2.getj 1 rfl) rfl ?_⟩
          have S3 := S2.push (AO.list [.str "text"])
          ((with_reducible refine bkc1_eq (be_lst (bes_cons (bwE_str (bkEs1_nil (bkLst_1 ?_)))))); (with_reducible refine bcmp (eq_text0 (S3.getj 1 rfl) (S3.getj 0 rfl)) ?_); (with_reducible refine bkTs_tf (bkIf_f (bwSs_nil (bcont_next ?_)))))
          exact goal3 _ (S3.sub (((List.Sublist.refl _).cons _).cons _ |>.cons _)) (fun q => q.2.1 rfl)
        · have dl := drop_last eh
          have hp : 0 < ah.length := List.length_pos_iff.mpr eh
          have lo := hao _ (lastL_mem hp)
          rw [dl]
          have S2 : Sat (H1 ++ [AO.list (iV [lastL ah])] ++ [AO.list []]) ((_, AO.list []) :: (H1.length, AO.list (iV [lastL ah])) :: (((ra, .list (iV ah)) :: A) ++ keptD k0 k1 k2 k3 K)) := (S1'.push (AO.list (iV [lastL ah]))).push (AO.list [])
          generalize (H1 ++ [AO.list (iV [lastL ah])]).length = rc at S2 ⊢
          generalize (H1 ++ [AO.list (iV [lastL ah])] ++ [AO.list []]) = H2 at S2 ⊢
          generalize H1.length = rb at S2 ⊢
          have S2k : Sat H2 (((rc, AO.list []) :: (rb, AO.list (iV [lastL ah])) :: (ra, .list (iV ah)) :: A) ++ keptD k0 k1 k2 k3 K) := S2
          have g0 : H2[rc]? = some (.list (sV [])) := S2.getj 0 rfl
          refine ⟨2, XCl_cons (vs := iV [lastL ah]) (v := .int (lastL ah)) (S2.getj 1 rfl) rfl (ct_plain ?_)⟩
          ((try have ff2 := ap_ms g0 (by simp)); (with_reducible refine be_sub ?_); refine bvar (by (simp only [List.lookup_cons, String.reduceBEq]; first | done | assumption | rfl)) ?_; (with_reducible refine bkSub1_eq ?_); refine bvar rfl ?_; (with_reducible refine bsub2 (sub_s (q_kinds S2k) lo.1 lo.2 (by lia)) ?_); simp only [opt_some, Nat.zero_add, List.nil_append, kAp_eq, sub_s (q_kinds S2k) lo.1 lo.2 (by lia), ap_ms g0 (by simp)]; (try clear ff2))
          have S3 : Sat (H2.set rc (.list (sV [gs K.kinds (lastL ah)]))) ((rc, AO.list (sV [gs K.kinds (lastL ah)])) :: (rb, AO.list (iV [lastL ah])) :: (((ra, .list (iV ah)) :: A) ++ keptD k0 k1 k2 k3 K)) := S2.setj 0 _ rfl
          refine XCl_nil (vs := iV [lastL ah]) (S3.getj 1 rfl) rfl ?_
          have S4 := S3.push (AO.list [.str "text"])
          ((with_reducible refine bkc1_eq (be_lst (bes_cons (bwE_str (bkEs1_nil (bkLst_1 ?_)))))); (with_reducible refine bcmp (eq_text1 (S4.getj 1 rfl) (S4.getj 0 rfl)) ?_); simp only [decide_eq_true_eq, decide_eq_false_iff_not, true_implies, false_implies, and_true, Bool.true_eq_false, eq_self, cont_next, wSs_nil, ts_nil, kTs_t, kIf_eq, eq_text1 (S4.getj 1 rfl) (S4.getj 0 rfl)])
          have S5 : Sat _ (((ra, .list (iV ah)) :: A) ++ keptD k0 k1 k2 k3 K) := S4.sub (((List.Sublist.refl _).cons _).cons _ |>.cons _)
          generalize (H2.set rc (.list (sV [gs K.kinds (lastL ah)]))) ++ [AO.list [.str "text"]] = H3 at S5 ⊢
          by_cases et : gs K.kinds (lastL ah) = "text"
          · (simp only [not_true_eq_false, eq_self, et]; simp only [true_implies, false_implies, and_true])
            have hq := fun H' => q H' 0 0
            rw [if_pos (⟨rfl, eh, et⟩ : "text" = "text" ∧ ah ≠ [] ∧ gs K.kinds (lastL ah) = "text")] at hq
            ((with_reducible refine sc ?_))
            have lt : (gs K.texts (lastL ah)).length ≤ 1000 := by
              have hl : (lastL ah).toNat < K.texts.length := by rw [l1]; exact toNat_lt lo.1 lo.2
              unfold gs
              rw [List.getD_eq_getElem?_getD, List.getElem?_eq_getElem hl]
              exact L.tle _ (List.getElem_mem _)
            have sl := sub_last (S5.getj 0 rfl) hp (by lia)
            change subA H3 (.ref ra) (.int (-1)) = some (.int (lastL ah)) at sl
            ((with_reducible refine bs_setsub (be_bin (be_sub ?_))); refine bvar (by (simp only [List.lookup_cons, String.reduceBEq]; first | done | assumption | rfl)) ?_; (with_reducible refine bkSub1_eq (be_sub ?_)); refine bvar rfl ?_; (with_reducible refine bkSub1_eq (be_neg1 ?_)); (with_reducible refine bsub2 (by assumption) ?_); (with_reducible refine bsub2 (sub_s (q_texts S5) lo.1 (by rw [l1]; exact lo.2) (by lia)) ?_); (with_reducible refine bkBin1_eq ?_); refine bvar (by (simp only [List.lookup_cons, String.reduceBEq]; first | done | assumption | rfl)) ?_; (with_reducible refine bbin (cat_s (s := gs K.texts (lastL ah)) (t := t) (by lia)) ?_); (with_reducible refine bkSs1_eq ?_); refine bvar (by (simp only [List.lookup_cons, String.reduceBEq]; first | done | assumption | rfl)) ?_; (with_reducible refine bkSs2_eq (be_sub ?_)); refine bvar rfl ?_; (with_reducible refine bkSub1_eq (be_neg1 ?_)); (with_reducible refine bsub2 (by assumption) ?_); (with_reducible refine bss (set_s (q_texts S5) lo.1 (by rw [l1]; exact lo.2) (by lia)) ?_); (with_reducible refine bcont_next ?_))
            ((with_reducible refine sc ?_))
            ((with_reducible refine bs_retNone (bcont_ret (bcont_ret (bkFn_r ?_)))))
            exact hq _ ((w_texts S5 _).sub ((List.Sublist.refl _).cons _))
          · (simp only [not_false_eq_true, et]; simp only [true_implies, false_implies, true_and])
            exact goal3 _ S5 (fun q => et q.2.2)
      · (simp only [Int.reduceNeg, not_false_eq_true, ek]; simp only [Int.reduceNeg, true_implies, false_implies, true_and])
        exact goal3 _ S1' (fun q => ek q.1)
    by_cases ek : k = "text"
    · subst ek
      (simp only [not_true_eq_false, eq_self]; simp only [true_implies, false_implies, and_true])
      by_cases ep : p = 0
      · (simp only [not_true_eq_false, eq_self, ep]; simp only [true_implies, false_implies, and_true])
        ((with_reducible refine sc ?_))
        ((with_reducible refine bs_retNone (bcont_ret (bcont_ret (bkFn_r ?_)))))
        have hq := fun H' => q H' 0 0
        rw [if_pos (⟨rfl, ep⟩ : "text" = "text" ∧ p = 0)] at hq
        exact hq _ (S1.sub ((List.Sublist.refl _).cons _))
      · (simp only [not_false_eq_true, ep]; simp only [true_implies, false_implies, true_and])
        exact goal2 fun q => ep q.2
    · (simp only [not_false_eq_true, ek]; simp only [true_implies, false_implies, true_and])
      exact goal2 fun q => ek q.1
  by_cases e1 : b = -1
  · have ei : insPos (gc K.ch p) b = (gc K.ch p).length := by unfold insPos; rw [if_pos e1]
    (simp only [Int.reduceNeg, not_true_eq_false, eq_self, e1, len_ch gC hgl]; simp only [Int.reduceNeg, opt_some, setE, true_implies, false_implies, and_true, cont_next, kLen_e, kAs_eq, len_ch gC hgl])
    exact rest _ (by simp only [BEq.rfl, Int.reduceNeg, List.lookup_cons, eq_self, ei]) (by simp only [String.reduceBEq, BEq.rfl, Int.reduceNeg, List.lookup_cons, eq_self]) (by simp only [String.reduceBEq, BEq.rfl, Int.reduceNeg, List.lookup_cons, eq_self]) (by simp only [String.reduceBEq, BEq.rfl, Int.reduceNeg, List.lookup_cons, eq_self]) (by simp only [String.reduceBEq, BEq.rfl, Int.reduceNeg, List.lookup_cons, eq_self]) (by simp only [String.reduceBEq, BEq.rfl, Int.reduceNeg, List.lookup_cons, eq_self]) (by simp only [String.reduceBEq, BEq.rfl, Int.reduceNeg, List.lookup_cons, eq_self]) (by simp only [String.reduceBEq, BEq.rfl, Int.reduceNeg, List.lookup_cons, eq_self])
  · have ei : insPos (gc K.ch p) b = (gc K.ch p).idxOf b := by unfold insPos; rw [if_neg e1]
    (simp only [Int.reduceNeg, not_false_eq_true, e1, kind_list gC, idx_l gC (hb.resolve_left e1) (by lia)]; simp only [BEq.rfl, opt_some, List.lookup_cons, setE, true_implies, false_implies, true_and, cont_next, kv_eq, kr_eq, e_var, kM2_index, kML_eq, es_cons, kEs1_nil, kAs_eq, kind_list gC, idx_l gC (hb.resolve_left e1) (by lia)])
    exact rest _ (by simp only [BEq.rfl, List.lookup_cons, eq_self, ei]) (by simp only [String.reduceBEq, BEq.rfl, List.lookup_cons, eq_self]) (by simp only [String.reduceBEq, BEq.rfl, List.lookup_cons, eq_self]) (by simp only [String.reduceBEq, BEq.rfl, List.lookup_cons, eq_self]) (by simp only [String.reduceBEq, BEq.rfl, List.lookup_cons, eq_self]) (by simp only [String.reduceBEq, BEq.rfl, List.lookup_cons, eq_self]) (by simp only [String.reduceBEq, BEq.rfl, List.lookup_cons, eq_self]) (by simp only [String.reduceBEq, BEq.rfl, List.lookup_cons, eq_self])
end
end Mine
end
section
set_option maxRecDepth 100000
namespace Mine
structure Scn (B : Nat) (T : Tr) (line : List Int) (named : List (Int × String)) (ups : List (Int × Int)) : Prop where
  inv : Inv B T
  pos : 0 < line.length
  len : line.length ≤ B
  ok : ∀ y ∈ line, Ok T y
  nm : ∀ y ∈ line, named.lookup y = some (if gs T.spaces y = "html" then gs T.names y else "")
  up : ∀ y ∈ line, ups.lookup y = some (gi T.parents y)
  root : gs T.names (gi line 0) = "html"
  nl : named.length ≤ B
  ul : ups.length ≤ B

section
variable {B : Nat} {T : Tr} {line : List Int} {named : List (Int × String)} {ups : List (Int × Int)} {y : Int}
theorem Scn.nmO (C : Scn B T line named ups) (h : y ∈ line) : nameOf named y = if gs T.spaces y = "html" then gs T.names y else "" := by
  unfold nameOf; rw [C.nm y h]; rfl
theorem Scn.nm' (C : Scn B T line named ups) : ∀ y ∈ line, named.lookup y = some (nameOf named y) := fun y h => by rw [C.nmO h]; exact C.nm y h
theorem Scn.upO (C : Scn B T line named ups) (h : y ∈ line) : contGet ups y = gi T.parents y := by
  unfold contGet; rw [C.up y h]; rfl
theorem Scn.up' (C : Scn B T line named ups) : ∀ y ∈ line, ups.lookup y = some (contGet ups y) := fun y h => by rw [C.upO h]; exact C.up y h
theorem Scn.html (C : Scn B T line named ups) (h : y ∈ line) {s : String} (hs : s ≠ "") : isHtml T y s = true ↔ nameOf named y = s := by
  rw [C.nmO h]
  unfold isHtml
  by_cases e : gs T.spaces y = "html"
  · rw [if_pos e, decide_eq_true e, Bool.true_and, decide_eq_true_eq]
  · rw [if_neg e, decide_eq_false e, Bool.false_and]
    exact ⟨fun q => (by cases q), fun q => absurd q.symm hs⟩
theorem Scn.mem0 (C : Scn B T line named ups) : gi line 0 ∈ line := gi_mem (by lia) (by have := C.pos; lia)
theorem Scn.root' (C : Scn B T line named ups) {s : String} (h1 : s ≠ "") (h2 : s ≠ "html") : nameOf named (gi line 0) ≠ s := by
  rw [C.nmO C.mem0, C.root]
  split
  · exact fun q => h2 q.symm
  · exact fun q => h1 q.symm
theorem Scn.part (C : Scn B T line named ups) (h : y ∈ line) : (decide (gs T.spaces y = "html") && isPart (gs T.names y)) = isPart (nameOf named y) := by
  rw [C.nmO h]
  by_cases e : gs T.spaces y = "html"
  · rw [if_pos e, decide_eq_true e, Bool.true_and]
  · rw [if_neg e, decide_eq_false e, Bool.false_and]; rfl

theorem pairwise_tabs (line : List Int) (named : List (Int × String)) (s : String) : (tabs line named s).Pairwise (· < ·) := by
  unfold tabs
  rw [List.pairwise_map]
  refine List.Pairwise.imp (R := (· < ·)) (fun h => by lia) ?_
  exact List.Pairwise.filter _ List.pairwise_lt_range
theorem le_lastL {l : List Int} (hp : l.Pairwise (· < ·)) {k : Int} (h : k ∈ l) : k ≤ lastL l := by
  obtain ⟨i, hi, rfl⟩ := List.mem_iff_getElem.mp h
  unfold lastL gi
  have e : ((l.length : Int) - 1).toNat = l.length - 1 := by lia
  rw [List.getD_eq_getElem?_getD, e, List.getElem?_eq_getElem (by lia), Option.getD_some]
  by_cases q : i = l.length - 1
  · subst q; exact Int.le_refl _
  · exact Int.le_of_lt (List.pairwise_iff_getElem.mp hp i (l.length - 1) hi (by lia) (by lia))
theorem mem_tabs {s : String} {k : Nat} (h : k < line.length) (hn : nameOf named (gi line (k : Int)) = s) : (k : Int) ∈ tabs line named s := by
  unfold tabs
  exact List.mem_map.mpr ⟨k, List.mem_filter.mpr ⟨List.mem_range.mpr h, by rw [decide_eq_true_eq]; exact hn⟩, rfl⟩
noncomputable def stops (T : Tr) (line : List Int) (k : Nat) : Prop := isHtml T (gi line (k : Int)) "table" = true ∨ isHtml T (gi line (k : Int)) "template" = true
theorem fdown_spec (T : Tr) (line : List Int) (n : Nat) : (∀ k, fdown T line n < k → k ≤ n → ¬ stops T line k) ∧ (fdown T line n = 0 ∨ stops T line (fdown T line n)) := by
  induction n with
  | zero => exact ⟨fun k a b => by unfold fdown at a; lia, .inl rfl⟩
  | succ n ih =>
    unfold fdown
    by_cases e : (isHtml T (gi line ((n + 1 : Nat) : Int)) "table" || isHtml T (gi line ((n + 1 : Nat) : Int)) "template") = true
    · rw [if_pos e]
      exact ⟨fun k a b => by lia, .inr (Bool.or_eq_true _ _ |>.mp e)⟩
    · rw [if_neg e]
      refine ⟨fun k a b => ?_, ih.2⟩
      by_cases q : k = n + 1
      · subst q; exact fun s => e (Bool.or_eq_true _ _ |>.mpr s)
      · exact ih.1 k a (by lia)

theorem place_eq0 (C : Scn B T line named ups) {here : Int} (h : here ∈ line) (f : Bool) (target : Int) (ht : (if target = -1 then lastOf line else target) = here) : placeP T line f target = spotP line named ups T.cont here f := by
  unfold placeP spotP
  dsimp only
  rw [ht]
  have ne : here ≠ -1 := by have := (C.ok here h).1; lia
  rw [if_neg ne, C.part h]
  have core : (f && isPart (nameOf named here)) = true → fosterP T line = (if 0 < (tabs line named "template").length ∧ ((tabs line named "table").length = 0 ∨ lastL (tabs line named "template") > lastL (tabs line named "table")) then (gi line (lastL (tabs line named "template")), -1)
      else if (tabs line named "table").length = 0 then (gi line 0, -1)
      else if contGet ups (gi line (lastL (tabs line named "table"))) ≠ -1 then (contGet ups (gi line (lastL (tabs line named "table"))), gi line (lastL (tabs line named "table")))
      else (gi line (lastL (tabs line named "table") - 1), -1)) := by
    intro _
    have hp := C.pos
    have hd := fdown_le T line (line.length - 1)
    obtain ⟨f1, f2⟩ := fdown_spec T line (line.length - 1)
    unfold fosterP
    dsimp only
    generalize fdown T line (line.length - 1) = a at *
    have stop_iff : ∀ k : Nat, k < line.length → (stops T line k ↔ (k : Int) ∈ tabs line named "table" ∨ (k : Int) ∈ tabs line named "template") := by
      intro k hk
      have m : gi line (k : Int) ∈ line := gi_mem (by lia) (by lia)
      unfold stops
      rw [C.html m (by decide), C.html m (by decide)]
      exact ⟨fun q => q.imp (mem_tabs hk) (mem_tabs hk), fun q => q.imp (fun q => (tabs_mem q).2.2) (fun q => (tabs_mem q).2.2)⟩
    have no0 : ∀ s, s ≠ "" → s ≠ "html" → (0 : Int) ∉ tabs line named s := fun s h1 h2 m => C.root' h1 h2 (tabs_mem m).2.2
    have ha : a < line.length := by lia
    have m : gi line (a : Int) ∈ line := gi_mem (by lia) (by lia)
    have tmax : ∀ k ∈ tabs line named "table", k ≤ lastL (tabs line named "table") := fun k hk => le_lastL (pairwise_tabs ..) hk
    have smax : ∀ k ∈ tabs line named "template", k ≤ lastL (tabs line named "template") := fun k hk => le_lastL (pairwise_tabs ..) hk
    have nt := no0 "table" (by decide) (by decide)
    have ns := no0 "template" (by decide) (by decide)
    -- a is the largest stop
    have aged : ∀ k : Int, k ∈ tabs line named "table" ∨ k ∈ tabs line named "template" → k ≤ a := by
      intro k hk
      have b : 0 ≤ k ∧ k < line.length := hk.elim (fun q => ⟨(tabs_mem q).1, (tabs_mem q).2.1⟩) (fun q => ⟨(tabs_mem q).1, (tabs_mem q).2.1⟩)
      obtain ⟨j, rfl⟩ := Int.eq_ofNat_of_zero_le b.1
      refine Int.not_lt.mp fun q => f1 j (by lia) (by lia) ((stop_iff j (by lia)).mpr hk)
    have ain : (∃ k, k ∈ tabs line named "table" ∨ k ∈ tabs line named "template") → (a : Int) ∈ tabs line named "table" ∨ (a : Int) ∈ tabs line named "template" := by
      rintro ⟨k, hk⟩
      rcases f2 with e | e
      · have := aged k hk
        have k0 : k = 0 := by
          have : 0 ≤ k := hk.elim (fun q => (tabs_mem q).1) (fun q => (tabs_mem q).1)
          lia
        rw [k0] at hk
        exact hk.elim (fun q => absurd q nt) (fun q => absurd q ns)
      · exact (stop_iff a ha).mp e
    generalize htt : tabs line named "table" = t at *
    generalize hss : tabs line named "template" = s at *
    by_cases c1 : 0 < s.length ∧ (t.length = 0 ∨ lastL s > lastL t)
    · rw [if_pos c1]
      have ms := lastL_mem c1.1
      have as := ain ⟨_, .inr ms⟩
      have al : (a : Int) = lastL s := by
        have h1 := aged _ (.inr ms)
        rcases as with q | q
        · have h2 := tmax _ q
          rcases c1.2 with z | z
          · rw [List.length_eq_zero_iff.mp z] at q; cases q
          · lia
        · have := smax _ q; lia
      have e : nameOf named (gi line (a : Int)) = "template" := by rw [al]; exact (tabs_mem (hss ▸ ms)).2.2
      have e' : isHtml T (gi line (a : Int)) "table" = false := by
        cases z : isHtml T (gi line (a : Int)) "table" with
        | false => rfl
        | true => rw [(C.html m (by decide)).mp z] at e; exact absurd e (by decide)
      rw [if_pos e', al]
    · rw [if_neg c1]
      by_cases c2 : t.length = 0
      · rw [if_pos c2]
        have t0 := List.length_eq_zero_iff.mp c2
        have s0 : s = [] := by
          refine List.length_eq_zero_iff.mp ?_
          have : ¬ 0 < s.length := fun q => c1 ⟨q, .inl c2⟩
          lia
        have a0 : a = 0 := by
          rcases f2 with e | e
          · exact e
          · have := (stop_iff a ha).mp e
            rw [t0, s0] at this
            rcases this with q | q <;> cases q
        subst a0
        have e' : isHtml T (gi line ((0 : Nat) : Int)) "table" = false := by
          cases z : isHtml T (gi line ((0 : Nat) : Int)) "table" with
          | false => rfl
          | true => exact absurd ((C.html m (by decide)).mp z) (C.root' (by decide) (by decide))
        rw [if_pos e']; rfl
      · rw [if_neg c2]
        have mt := lastL_mem (show 0 < t.length by lia)
        have at' := ain ⟨_, .inl mt⟩
        have al : (a : Int) = lastL t := by
          have h1 := aged _ (.inl mt)
          rcases at' with q | q
          · have := tmax _ q; lia
          · have h2 := smax _ q
            have sp : 0 < s.length := List.length_pos_iff.mpr (fun z => by rw [z] at q; cases q)
            have : ¬ lastL s > lastL t := fun z => c1 ⟨sp, .inr z⟩
            lia
        have e : nameOf named (gi line (a : Int)) = "table" := by rw [al]; exact (tabs_mem (htt ▸ mt)).2.2
        have e' : isHtml T (gi line (a : Int)) "table" = true := (C.html m (by decide)).mpr e
        have apos : 0 < a := by
          refine Nat.pos_of_ne_zero fun z => ?_
          rw [← al, z] at mt
          exact nt mt
        rw [if_neg (by rw [e']; decide), ← al, C.upO m]
        by_cases c3 : gi T.parents (gi line (a : Int)) = -1
        · have c3' : ¬ (gi T.parents (gi line (a : Int)) ≠ -1) := fun q => q c3
          rw [if_neg c3', if_neg c3', if_pos apos]
        · rw [if_pos c3, if_pos c3]
  by_cases c : (f && isPart (nameOf named here)) = true
  · rw [if_pos c, if_pos c, core c]
  · rw [if_neg c, if_neg c]
theorem place_eq (C : Scn B T line named ups) {here : Int} (h : here ∈ line) (f : Bool) : placeP T line f here = spotP line named ups T.cont here f :=
  place_eq0 C h f here (by rw [if_neg]; have := (C.ok here h).1; lia)
theorem Scn.lastOf (C : Scn B T line named ups) : lastOf line = lastL line := by
  unfold Mine.lastOf; rw [if_neg]
  · rfl
  · rw [List.isEmpty_iff]; have := C.pos; intro q; rw [q] at this; exact absurd this (by decide)
theorem place_last (C : Scn B T line named ups) (f : Bool) : placeP T line f (-1) = spotP line named ups T.cont (lastL line) f :=
  place_eq0 C (lastL_mem C.pos) f (-1) (by rw [if_pos rfl]; exact C.lastOf)
end

/-! what is kept beside the tree -/
structure Mat (T : Tr) (K : Kp) : Prop where
  kinds : K.kinds = T.kinds
  texts : K.texts = T.texts
  parents : K.parents = T.parents
  ch : K.ch.map (·.2) = T.ch.map (·.2)
theorem gc_map (l : List (Nat × List Int)) (x : Int) : gc l x = (l.map (·.2)).getD x.toNat [] := by
  unfold gc
  rw [List.getD_eq_getElem?_getD, List.getD_eq_getElem?_getD, List.getElem?_map]
  cases l[x.toNat]? <;> rfl
section
variable {B : Nat} {T : Tr} {K : Kp} {p b : Int} {t k : String} {r1 r2 r3 r4 : Nat}
theorem Mat.gc (M : Mat T K) (x : Int) : gc K.ch x = gc T.ch x := by rw [gc_map, gc_map, M.ch]
theorem Mat.kln (M : Mat T K) (I : Inv B T) : KLn K := by
  have L := I.ln
  have hB := L.hB
  have e : ∀ q ∈ K.ch, ∃ r, (r, q.2) ∈ T.ch := fun q hq => by
    have : q.2 ∈ T.ch.map (·.2) := M.ch ▸ List.mem_map_of_mem hq
    obtain ⟨z, hz, e⟩ := List.mem_map.mp this
    exact ⟨z.1, e ▸ hz⟩
  refine ⟨by rw [M.texts, M.kinds]; exact L.texts, by rw [M.parents, M.kinds]; exact L.parents, ?_, by rw [M.kinds]; have := L.le; lia, fun q hq => ?_, fun s hs => ?_, fun q hq c hc => ?_⟩
  · rw [M.kinds, ← L.ch, ← List.length_map (f := fun p : Nat × List Int => p.2), M.ch, List.length_map]
  · obtain ⟨r, hr⟩ := e q hq
    have := L.cle _ hr
    dsimp only at this; lia
  · rw [M.texts] at hs; have := L.tle s hs; lia
  · rw [M.kinds]
    obtain ⟨r, hr⟩ := e q hq
    obtain ⟨j, hj⟩ := List.mem_iff_getElem?.mp hr
    have hl := (List.getElem?_eq_some_iff.mp hj).1
    have o : Ok T (j : Int) := ⟨by lia, by rw [L.ch] at hl; lia⟩
    have g : Mine.gc T.ch (j : Int) = q.2 := by
      unfold Mine.gc; rw [List.getD_eq_getElem?_getD, Int.toNat_natCast, hj]; rfl
    exact I.cok j o c (by rw [g]; exact hc)

theorem ahead_eq (I : Inv B T) (sp : Spot T p b) : aheadP T p b = if (gc T.ch p).take (insPos (gc T.ch p) b) = [] then -1 else lastL ((gc T.ch p).take (insPos (gc T.ch p) b)) := by
  unfold aheadP insPos lastOf
  by_cases e : b = -1
  · rw [if_pos e, if_pos e, List.take_length]
    by_cases z : gc T.ch p = []
    · rw [if_pos z, z]; rfl
    · rw [if_neg z, if_neg (by rw [List.isEmpty_iff]; exact z)]; rfl
  · rw [if_neg e, if_neg e]
    have hm := (sp.before.resolve_left e).2.2
    have hl : (gc T.ch p).idxOf b < (gc T.ch p).length := List.idxOf_lt_length_iff.mpr hm
    generalize (gc T.ch p).idxOf b = j at *
    by_cases z : 0 < j
    · have ne : (gc T.ch p).take j ≠ [] := fun q => by
        have := congrArg List.length q
        rw [List.length_take, List.length_nil] at this; lia
      rw [if_pos z, if_neg ne]
      unfold lastL gi
      have e1 : ((j : Int) - 1).toNat = j - 1 := by lia
      have e2 : ((((gc T.ch p).take j).length : Int) - 1).toNat = j - 1 := by rw [List.length_take]; lia
      rw [List.getD_eq_getElem?_getD, List.getD_eq_getElem?_getD, e1, e2, List.getElem?_take, if_pos (by lia)]
    · have : j = 0 := by lia
      subst this
      rw [if_neg z, List.take_zero, if_pos rfl]

theorem mat_put (M : Mat T K) (I : Inv B T) (sp : Spot T p b) (hn : ¬ (k = "text" ∧ p = 0)) (hn2 : ¬ (k = "text" ∧ (gc K.ch p).take (insPos (gc K.ch p) b) ≠ [] ∧ gs K.kinds (lastL ((gc K.ch p).take (insPos (gc K.ch p) b))) = "text")) :
    Mat (T.put k t p b r1 r2) (K.put k t p b r3 r4) := by
  have L := I.ln
  unfold Kp.put
  rw [if_neg hn, if_neg hn2]
  unfold Tr.put
  refine ⟨?_, ?_, ?_, ?_⟩
  · show K.kinds ++ [k] = T.kinds ++ [k]; rw [M.kinds]
  · show K.texts ++ [t] = T.texts ++ [t]; rw [M.texts]
  · show K.parents ++ [p] = (T.parents ++ [-1]).set (T.kinds.length : Int).toNat p
    rw [Int.toNat_natCast, ← L.parents, M.parents, List.set_append_right _ _ (Nat.le_refl _), Nat.sub_self]; rfl
  · show (K.ch.set p.toNat _ ++ [(r4, [])]).map (fun q : Nat × List Int => q.2) = ((T.ch ++ [(r2, [])]).set p.toNat _).map (fun q : Nat × List Int => q.2)
    have hl : p.toNat < T.ch.length := by rw [L.ch]; exact toNat_lt sp.ok.1 sp.ok.2
    rw [List.set_append_left _ _ hl, List.map_append, List.map_append, List.map_set, List.map_set, M.ch, M.gc, M.kinds]
    have e := gc_add (k := k) (s := "") (n := "") (t := t) (r1 := r1) (r2 := r2) L sp.ok
    rw [e]
    simp only [List.append_assoc, List.singleton_append, List.map_cons, List.map_nil]
theorem mat_comment (M : Mat T K) (I : Inv B T) (sp : Spot T p b) : Mat (T.put "comment" t p b r1 r2) (K.put "comment" t p b r3 r4) :=
  mat_put M I sp (fun q => absurd q.1 (by decide)) (fun q => absurd q.1 (by decide))
theorem mat_sign (M : Mat T K) (I : Inv B T) (sp : Spot T p b) : Mat (T.sign t p b r1 r2) (K.put "text" t p b r3 r4) := by
  unfold Tr.sign
  rw [ahead_eq I sp]
  by_cases e1 : p = 0
  · rw [if_pos ((I.doc p sp.ok).mpr e1)]
    unfold Kp.put; rw [if_pos ⟨rfl, e1⟩]; exact M
  · rw [if_neg (fun q => e1 ((I.doc p sp.ok).mp q))]
    by_cases e2 : (gc T.ch p).take (insPos (gc T.ch p) b) = []
    · rw [if_pos e2, if_neg (fun q => q.1 rfl)]
      exact mat_put M I sp (fun q => e1 q.2) (fun q => by rw [M.gc] at q; exact q.2.1 e2)
    · rw [if_neg e2]
      have hp : 0 < ((gc T.ch p).take (insPos (gc T.ch p) b)).length := List.length_pos_iff.mpr e2
      have o : Ok T (lastL ((gc T.ch p).take (insPos (gc T.ch p) b))) := I.cok p sp.ok _ (List.mem_of_mem_take (lastL_mem hp))
      have ne : lastL ((gc T.ch p).take (insPos (gc T.ch p) b)) ≠ -1 := by have := o.1; lia
      by_cases e3 : gs T.kinds (lastL ((gc T.ch p).take (insPos (gc T.ch p) b))) = "text"
      · rw [if_pos ⟨ne, e3⟩]
        unfold Kp.put
        rw [M.gc, M.kinds, if_neg (fun q => e1 q.2), if_pos ⟨rfl, e2, e3⟩]
        exact ⟨rfl, by dsimp only; rw [M.texts], M.parents, M.ch⟩
      · rw [if_neg (fun q => e3 q.2)]
        exact mat_put M I sp (fun q => e1 q.2) (fun q => by rw [M.gc, M.kinds] at q; exact e3 q.2.2)
end
end Mine
end
section
set_option maxRecDepth 100000
namespace Mine
noncomputable def setK {α : Type} (k : Int) (v : α) : List (Int × α) → List (Int × α)
  | [] => [(k, v)]
  | (k', v') :: r => if k' = k then (k', v) :: r else (k', v') :: setK k v r
theorem setK_lookup {α : Type} (k : Int) (v : α) (y : Int) : ∀ l : List (Int × α), (setK k v l).lookup y = if y = k then some v else l.lookup y
  | [] => by
    unfold setK
    rw [List.lookup_cons]
    by_cases e : y = k
    · subst e; rw [if_pos rfl]; simp
    · rw [if_neg e, beq_eq_false_iff_ne.mpr e]
  | (k', v') :: r => by
    unfold setK
    by_cases e1 : k' = k
    · subst e1
      rw [if_pos rfl, List.lookup_cons, List.lookup_cons]
      by_cases e : y = k'
      · subst e; rw [if_pos rfl]; simp
      · rw [if_neg e, beq_eq_false_iff_ne.mpr e]
    · rw [if_neg e1, List.lookup_cons, List.lookup_cons, setK_lookup k v y r]
      by_cases e : y = k'
      · subst e; simp [e1]
      · rw [beq_eq_false_iff_ne.mpr e]
theorem setK_len {α : Type} (k : Int) (v : α) : ∀ l : List (Int × α), (setK k v l).length ≤ l.length + 1
  | [] => Nat.le_refl _
  | (k', v') :: r => by
    unfold setK
    split
    · simp only [List.length_cons]; lia
    · have := setK_len k v r
      simp only [List.length_cons]; lia
theorem setD_namD (k : Int) (v : String) : ∀ l : List (Int × String), setD k (.str v) (namD l) = namD (setK k v l)
  | [] => rfl
  | (k', v') :: r => by
    show (if k' = k then _ else (k', AV.str v') :: setD k (.str v) (namD r)) = namD (if k' = k then _ else _)
    by_cases e : k' = k
    · rw [if_pos e, if_pos e]; rfl
    · rw [if_neg e, if_neg e, setD_namD k v r]; rfl
theorem setD_contD (k : Int) (v : Int) : ∀ l : List (Int × Int), setD k (.int v) (contD l) = contD (setK k v l)
  | [] => rfl
  | (k', v') :: r => by
    show (if k' = k then _ else (k', AV.int v') :: setD k (.int v) (contD r)) = contD (if k' = k then _ else _)
    by_cases e : k' = k
    · rw [if_pos e, if_pos e]; rfl
    · rw [if_neg e, if_neg e, setD_contD k v r]; rfl

noncomputable def factD (ln nm up wr : Nat) (line : List Int) (named : List (Int × String)) (ups cont : List (Int × Int)) : List (Nat × AO) := [(ln, .list (iV line)), (nm, .dict (namD named)), (up, .dict (contD ups)), (wr, .dict (contD cont))]

section
variable {H : AH} {h : Nat} {T : Tr} {f : Bool} {items line : List Int} {R : List (Nat × AO)} {Q : AV → AH → Prop} {d B : Nat} {x y p : Int} {ln nm up wr : Nat} {named : List (Int × String)} {ups cont : List (Int × Int)}
theorem mod_i (h0 : 0 < y) (h1 : y ≤ lim) : binA H .Mod (.int x) (.int y) = some (.int (Int.fmod x y), H) := by
  unfold binA; dsimp only; rw [if_pos ⟨h0, h1⟩]
theorem div_i (h0 : 0 < y) (h1 : y ≤ lim) : binA H .FloorDiv (.int x) (.int y) = some (.int (Int.fdiv x y), H) := by
  unfold binA; dsimp only; rw [if_pos ⟨h0, h1⟩]
theorem set_dn {a : Nat} {l : List (Int × String)} {s : String} (h : H[a]? = some (.dict (namD l))) (h2 : l.length ≤ lim) : setsubA H (.ref a) (.int x) (.str s) = some (H.set a (.dict (namD (setK x s l)))) := by
  unfold setsubA; simp only [h]
  rw [if_pos (by rw [List.length_map]; exact h2), setD_namD]
theorem set_dc {a : Nat} {l : List (Int × Int)} {s : Int} (h : H[a]? = some (.dict (contD l))) (h2 : l.length ≤ lim) : setsubA H (.ref a) (.int x) (.int s) = some (H.set a (.dict (contD (setK x s l)))) := by
  unfold setsubA; simp only [h]
  rw [if_pos (by rw [List.length_map]; exact h2), setD_contD]
noncomputable def getP (l : List (Int × Int)) (x : Int) : Int := (l.lookup x).getD x
theorem get_d {a : Nat} {l : List (Int × Int)} (h : H[a]? = some (.dict (contD l))) : methD H a "get" [.int x, .int x] = some (.int (getP l x), H) := by
  unfold methD methA; simp only [h]
  rw [lookup_contD]
  unfold getP
  cases l.lookup x <;> rfl
theorem tup_i {l : List Int} (h0 : 0 ≤ x) (h1 : x < l.length) (h2 : l.length ≤ lim) : subA H (.tup (iV l)) (.int x) = some (.int (gi l x)) := by
  unfold subA; dsimp only
  rw [List.length_map, idx_ok h0 h1 h2, Option.bind_some, List.getElem?_map, List.getElem?_eq_getElem (toNat_lt h0 h1)]
  unfold gi; rw [List.getD_eq_getElem?_getD, List.getElem?_eq_getElem (toNat_lt h0 h1)]; rfl
theorem tup_s {l : List String} (h0 : 0 ≤ x) (h1 : x < l.length) (h2 : l.length ≤ lim) : subA H (.tup (sV l)) (.int x) = some (.str (gs l x)) := by
  unfold subA; dsimp only
  rw [List.length_map, idx_ok h0 h1 h2, Option.bind_some, List.getElem?_map, List.getElem?_eq_getElem (toNat_lt h0 h1)]
  unfold gs; rw [List.getD_eq_getElem?_getD, List.getElem?_eq_getElem (toNat_lt h0 h1)]; rfl
noncomputable def NM : List String := ["table", "tbody", "tr", "td", "template", "div", "table", "tr", "tfoot", "thead", "span"]
theorem tup_nm (h0 : 0 ≤ x) (h1 : x < 11) : subA H (.tup [.str "table", .str "tbody", .str "tr", .str "td", .str "template", .str "div", .str "table", .str "tr", .str "tfoot", .str "thead", .str "span"]) (.int x) = some (.str (gs NM x)) :=
  tup_s (l := NM) h0 h1 (by decide)
theorem tup_4 {a b c e : Int} (h0 : 0 ≤ x) (h1 : x < 4) : subA H (.tup [.int a, .int b, .int c, .int e]) (.int x) = some (.int (gi [a, b, c, e] x)) :=
  tup_i (l := [a, b, c, e]) h0 h1 (by show 4 ≤ lim; decide)
noncomputable def isSvg (w : Int) : Bool := ([6, 7] : List Int).contains w
theorem cmp_svg : cmpA H .In (.int x) (.tup [.int 6, .int 7]) = some (isSvg x) := rfl
noncomputable def spOf (w : Int) : String := if isSvg w then "svg" else "html"
theorem tmpl_iff (h0 : 0 ≤ x) (h1 : x < 11) : (spOf x = "html" ∧ gs NM x = "template") ↔ x = 4 := by
  have : x = 0 ∨ x = 1 ∨ x = 2 ∨ x = 3 ∨ x = 4 ∨ x = 5 ∨ x = 6 ∨ x = 7 ∨ x = 8 ∨ x = 9 ∨ x = 10 := by lia
  rcases this with rfl | rfl | rfl | rfl | rfl | rfl | rfl | rfl | rfl | rfl | rfl <;> decide
theorem svg_html (w : Int) : spOf w = "html" ↔ isSvg w = false := by
  unfold spOf
  cases isSvg w <;> decide

theorem f_line (S : Sat H (allD h T f items (factD ln nm up wr line named ups cont ++ R))) : H[ln]? = some (.list (iV line)) := S.getR 6 rfl
theorem f_named (S : Sat H (allD h T f items (factD ln nm up wr line named ups cont ++ R))) : H[nm]? = some (.dict (namD named)) := S.getR 7 rfl
theorem f_ups (S : Sat H (allD h T f items (factD ln nm up wr line named ups cont ++ R))) : H[up]? = some (.dict (contD ups)) := S.getR 8 rfl
theorem f_cont (S : Sat H (allD h T f items (factD ln nm up wr line named ups cont ++ R))) : H[wr]? = some (.dict (contD cont)) := S.getR 9 rfl
theorem v_line (S : Sat H (allD h T f items (factD ln nm up wr line named ups cont ++ R))) (l : List Int) : Sat (H.set ln (.list (iV l))) (allD h T f items (factD ln nm up wr l named ups cont ++ R)) := S.setR 6 (.list (iV l)) rfl
theorem v_named (S : Sat H (allD h T f items (factD ln nm up wr line named ups cont ++ R))) (l : List (Int × String)) : Sat (H.set nm (.dict (namD l))) (allD h T f items (factD ln nm up wr line l ups cont ++ R)) := S.setR 7 (.dict (namD l)) rfl
theorem v_ups (S : Sat H (allD h T f items (factD ln nm up wr line named ups cont ++ R))) (l : List (Int × Int)) : Sat (H.set up (.dict (contD l))) (allD h T f items (factD ln nm up wr line named l cont ++ R)) := S.setR 8 (.dict (contD l)) rfl
theorem v_cont (S : Sat H (allD h T f items (factD ln nm up wr line named ups cont ++ R))) (l : List (Int × Int)) : Sat (H.set wr (.dict (contD l))) (allD h T f items (factD ln nm up wr line named ups l ++ R)) := S.setR 9 (.dict (contD l)) rfl

/-- what has become of T, the new element n with it -/
structure Gw (T Tk : Tr) (name sp : String) (pn : Int) (c : List (Int × Int)) : Prop where
  len : T.kinds.length < Tk.kinds.length
  old : ∀ y, Ok T y → gs Tk.names y = gs T.names y ∧ gs Tk.spaces y = gs T.spaces y ∧ gi Tk.parents y = gi T.parents y
  nn : gs Tk.names (T.kinds.length : Int) = name
  ns : gs Tk.spaces (T.kinds.length : Int) = sp
  np : gi Tk.parents (T.kinds.length : Int) = pn
  cont : Tk.cont = c
theorem Gw.okn {Tk : Tr} {name sp : String} {pn : Int} {c : List (Int × Int)} (G : Gw T Tk name sp pn c) : Ok Tk (T.kinds.length : Int) := ⟨by lia, by have := G.len; lia⟩
theorem Gw.ok {Tk : Tr} {name sp : String} {pn : Int} {c : List (Int × Int)} (G : Gw T Tk name sp pn c) (o : Ok T y) : Ok Tk y := ⟨o.1, by have := G.len; have := o.2; lia⟩
theorem put_par {Tk : Tr} {k t : String} {b : Int} {r1 r2 : Nat} (L : Ln B Tk) (o : Ok Tk y) : gi (Tk.put k t p b r1 r2).parents y = gi Tk.parents y := by
  have e := par_add (k := k) (s := "") (n := "") (t := t) (r1 := r1) (r2 := r2) L o
  unfold Tr.put Tr.ins
  dsimp only
  rw [gi_set (by lia) (by show (Tk.kinds.length : Int) < ((Tk.parents ++ [-1]).length : Int); rw [List.length_append, L.parents]; simp only [List.length_singleton]; lia) o.1, if_neg (by have := o.2; lia), e]
theorem Gw.put {Tk : Tr} {name sp : String} {pn : Int} {c : List (Int × Int)} (G : Gw T Tk name sp pn c) (L : Ln B Tk) {k t : String} {b : Int} {r1 r2 : Nat} : Gw T (Tk.put k t p b r1 r2) name sp pn c := by
  have hn : ∀ y, Ok Tk y → gs (Tk.put k t p b r1 r2).names y = gs Tk.names y := fun y o => name_add (k := k) (s := "") (n := "") (t := t) (r1 := r1) (r2 := r2) L o
  have hs : ∀ y, Ok Tk y → gs (Tk.put k t p b r1 r2).spaces y = gs Tk.spaces y := fun y o => space_add (k := k) (s := "") (n := "") (t := t) (r1 := r1) (r2 := r2) L o
  refine ⟨?_, fun y o => ?_, ?_, ?_, ?_, G.cont⟩
  · have := G.len
    have e : (Tk.put k t p b r1 r2).kinds.length = Tk.kinds.length + 1 := add_len (k := k) (s := "") (n := "") (t := t) (r1 := r1) (r2 := r2)
    lia
  · have oo := G.ok o
    obtain ⟨a, b', c'⟩ := G.old y o
    exact ⟨(hn y oo).trans a, (hs y oo).trans b', (put_par L oo).trans c'⟩
  · exact (hn _ G.okn).trans G.nn
  · exact (hs _ G.okn).trans G.ns
  · exact (put_par L G.okn).trans G.np
theorem Gw.ins {Tk : Tr} {name sp : String} {pn : Int} {c : List (Int × Int)} (G : Gw T Tk name sp pn c) (L : Ln B Tk) {j : Nat} : Gw T (Tk.ins p (T.kinds.length : Int) j) name sp p c := by
  have pr : ∀ y, 0 ≤ y → gi (Tk.ins p (T.kinds.length : Int) j).parents y = if y = (T.kinds.length : Int) then p else gi Tk.parents y := fun y hy => gi_set (by lia) (by rw [L.parents]; have := G.len; lia) hy
  refine ⟨G.len, fun y o => ⟨(G.old y o).1, (G.old y o).2.1, ?_⟩, G.nn, G.ns, ?_, G.cont⟩
  · rw [pr y o.1, if_neg (by have := o.2; lia)]; exact (G.old y o).2.2
  · rw [pr _ (by lia), if_pos rfl]
theorem Gw.elem (L : Ln B T) {name sp : String} {r1 r2 r3 r4 : Nat} (hB : B < 1000) : Gw T (T.elem name sp r1 r2 r3 r4) name sp (-1) (if sp = "html" ∧ name = "template" then T.cont ++ [((T.kinds.length : Int), (T.kinds.length : Int) + 1)] else T.cont) := by
  have G1 : Gw T (T.add "element" sp name "" r1 r2) name sp (-1) T.cont :=
    ⟨by rw [add_len]; lia, fun y o => ⟨name_add L o, space_add L o, par_add L o⟩, name_new L, space_new L, par_new L, rfl⟩
  unfold Tr.elem
  split
  · have L1 := L.add hB "element" sp name "" (by simp) r1 r2
    have hn : ∀ y, Ok (T.add "element" sp name "" r1 r2) y → gs ((T.add "element" sp name "" r1 r2).add "fragment" "" "" "" r3 r4).names y = gs (T.add "element" sp name "" r1 r2).names y := fun y o => name_add L1 o
    have hs : ∀ y, Ok (T.add "element" sp name "" r1 r2) y → gs ((T.add "element" sp name "" r1 r2).add "fragment" "" "" "" r3 r4).spaces y = gs (T.add "element" sp name "" r1 r2).spaces y := fun y o => space_add L1 o
    have hp : ∀ y, Ok (T.add "element" sp name "" r1 r2) y → gi ((T.add "element" sp name "" r1 r2).add "fragment" "" "" "" r3 r4).parents y = gi (T.add "element" sp name "" r1 r2).parents y := fun y o => par_add L1 o
    refine ⟨?_, fun y o => ?_, ?_, ?_, ?_, rfl⟩
    · have := add_len (T := T.add "element" sp name "" r1 r2) (k := "fragment") (s := "") (n := "") (t := "") (r1 := r3) (r2 := r4)
      have := G1.len
      show T.kinds.length < ((T.add "element" sp name "" r1 r2).add "fragment" "" "" "" r3 r4).kinds.length
      lia
    · have oo := G1.ok o
      obtain ⟨a, b, c⟩ := G1.old y o
      exact ⟨(hn y oo).trans a, (hs y oo).trans b, (hp y oo).trans c⟩
    · exact (hn _ G1.okn).trans G1.nn
    · exact (hs _ G1.okn).trans G1.ns
    · exact (hp _ G1.okn).trans G1.np
  · exact G1
end
end Mine
end
section
set_option maxRecDepth 100000
namespace Mine
section
variable {H : AH} {h : Nat} {T : Tr} {R : List (Nat × AO)} {Q : AF → AE → AH → Prop} {d B : Nat} {up dg : Int} {ρ : AE} {rest : MSs}

/-- tree.append(up, a new text or comment) behind its making -/
theorem append_new (I : Inv B T) (hB : B < 1000) {k t : String} (hk : k ≠ "document") (ht : t.length ≤ 1) (o : Ok T up) {r1 r2 : Nat} {Q : AV → AH → Prop} (S1 : Sat H (treeD h (T.add k "" "" t r1 r2) ++ R))
    (q : ∀ H', Sat H' (treeD h (T.put k t up (-1) r1 r2) ++ R) → Q .none H') : WC (d + 3) f_Tree_append [.ref (h + 4), .int up, .int T.kinds.length] H Q := by
  have L := I.ln
  have I1 : Inv (B + 1) (T.add k "" "" t r1 r2) := I.add hB hk (by lia)
  have e := gc_add (k := k) (s := "") (n := "") (t := t) (r1 := r1) (r2 := r2) L o
  refine c_append S1 I1.ln I1.par (ok_add o) ok_new o.2 (par_new L) fun H' S' => q H' ?_
  rw [e] at S'
  have ei : insPos (gc T.ch up) (-1) = (gc T.ch up).length := by unfold insPos; rw [if_pos rfl]
  unfold Tr.put; rw [ei]; exact S'

theorem st_text (S : Sat H (treeD h T ++ R)) (I : Inv B T) (hB : B < 1000) (hup : up = -1 ∨ Ok T up) {s : String} (hs : s.length ≤ 1) {m k c : Int} (m0 : 0 < m) (m1 : m ≤ lim) (k0 : 0 < k) (k1 : k ≤ lim)
    (h1 : ρ.lookup "up" = some (.int up)) (h2 : ρ.lookup "tree" = some (.ref (h + 4))) (h3 : ρ.lookup "digit" = some (.int dg))
    (next : ∀ H' T', Sat H' (treeD h T' ++ R) → (T' = T ∨ ∃ r1 r2, Ok T up ∧ T' = T.put "text" s up (-1) r1 r2) → wSs (d + 3) rest ρ H' Q) :
    wSs (d + 3) (.cons (.ifs (.and (.cons (.cmp .Gt (.var "up") (.int 0)) (.cons (.cmp .Eq (.bin .Mod (.bin .FloorDiv (.var "digit") (.int m)) (.int k)) (.int c)) .nil))) (.cons (.expr (.meth (.var "tree") "append" (.cons (.var "up") (.cons (.meth (.var "tree") "text" (.cons (.str s) .nil)) .nil)))) .nil) .nil) rest) ρ H Q := by
  ((with_reducible refine sc ?_))
  ((with_reducible refine bs_ifs (bt_and (bts_cons (bt_cmp ?_)))); (with_reducible refine bvar (by assumption) ?_); (with_reducible refine bkc1_eq (bwE_int ?_)); (with_reducible refine bcmp cmp_gt ?_); simp only [decide_eq_true_eq, decide_eq_false_iff_not, cont_next, wSs_nil, e_var, e_bin, t_cmp, ts_cons, kTs_t, kIf_eq])
  by_cases e1 : up > 0
  · have o := hup.resolve_left (by lia)
    (simp only [not_true_eq_false, e1, h3, div_i m0 m1, mod_i k0 k1]; simp only [opt_some, cmp_eq_i, decide_eq_true_eq, decide_eq_false_iff_not, true_implies, false_implies, and_true, Bool.true_eq_false, eq_self, cont_next, wSs_nil, wE_int, kv_eq, kr_eq, kBin1_eq, kBin2_eq, kc1_eq, kc2_eq, ts_nil, kTs_t, kIf_eq, div_i m0 m1, mod_i k0 k1])
    refine ⟨fun _ => ?_, fun e => ⟨fun e2 => absurd e2 e, fun _ => next H T S (.inl rfl)⟩⟩
    ((with_reducible refine sc ?_))
    ((with_reducible refine bs_expr (be_meth ?_)); (with_reducible refine bvar (by assumption) ?_); (with_reducible refine bki (k_tree S (f := "append") rfl) fm_append ?_); (with_reducible refine bes_cons ?_); (with_reducible refine bvar (by assumption) ?_); (with_reducible refine bkEs1_cons (be_meth ?_)); (with_reducible refine bvar (by assumption) ?_); (with_reducible refine bki (k_tree S (f := "text") rfl) fm_text ?_); (with_reducible refine bes_cons (bwE_str (bkEs1_nil (bkM4_eq ?_)))))
    refine c_text S I.ln fun H1 r1 r2 S1 => ?_
    refine append_new I hB (by decide) hs o S1 fun H' S' => ?_
    exact ⟨.inl rfl, next H' _ S' (.inr ⟨r1, r2, o, rfl⟩)⟩
  · (simp only [not_false_eq_true, e1]; simp only [true_implies, false_implies, true_and])
    exact next H T S (.inl rfl)
theorem st_comment (S : Sat H (treeD h T ++ R)) (I : Inv B T) (hB : B < 1000) (hup : up = -1 ∨ Ok T up) {s : String} (hs : s.length ≤ 1) {m k c : Int} (m0 : 0 < m) (m1 : m ≤ lim) (k0 : 0 < k) (k1 : k ≤ lim)
    (h1 : ρ.lookup "up" = some (.int up)) (h2 : ρ.lookup "tree" = some (.ref (h + 4))) (h3 : ρ.lookup "digit" = some (.int dg))
    (next : ∀ H' T', Sat H' (treeD h T' ++ R) → (T' = T ∨ ∃ r1 r2, Ok T up ∧ T' = T.put "comment" s up (-1) r1 r2) → wSs (d + 3) rest ρ H' Q) :
    wSs (d + 3) (.cons (.ifs (.and (.cons (.cmp .Gt (.var "up") (.int 0)) (.cons (.cmp .Eq (.bin .Mod (.bin .FloorDiv (.var "digit") (.int m)) (.int k)) (.int c)) .nil))) (.cons (.expr (.meth (.var "tree") "append" (.cons (.var "up") (.cons (.meth (.var "tree") "comment" (.cons (.str s) .nil)) .nil)))) .nil) .nil) rest) ρ H Q := by
  ((with_reducible refine sc ?_))
  ((with_reducible refine bs_ifs (bt_and (bts_cons (bt_cmp ?_)))); (with_reducible refine bvar (by assumption) ?_); (with_reducible refine bkc1_eq (bwE_int ?_)); (with_reducible refine bcmp cmp_gt ?_); simp only [decide_eq_true_eq, decide_eq_false_iff_not, cont_next, wSs_nil, e_var, e_bin, t_cmp, ts_cons, kTs_t, kIf_eq])
  by_cases e1 : up > 0
  · have o := hup.resolve_left (by lia)
    (simp only [not_true_eq_false, e1, h3, div_i m0 m1, mod_i k0 k1]; simp only [opt_some, cmp_eq_i, decide_eq_true_eq, decide_eq_false_iff_not, true_implies, false_implies, and_true, Bool.true_eq_false, eq_self, cont_next, wSs_nil, wE_int, kv_eq, kr_eq, kBin1_eq, kBin2_eq, kc1_eq, kc2_eq, ts_nil, kTs_t, kIf_eq, div_i m0 m1, mod_i k0 k1])
    refine ⟨fun _ => ?_, fun e => ⟨fun e2 => absurd e2 e, fun _ => next H T S (.inl rfl)⟩⟩
    ((with_reducible refine sc ?_))
    ((with_reducible refine bs_expr (be_meth ?_)); (with_reducible refine bvar (by assumption) ?_); (with_reducible refine bki (k_tree S (f := "append") rfl) fm_append ?_); (with_reducible refine bes_cons ?_); (with_reducible refine bvar (by assumption) ?_); (with_reducible refine bkEs1_cons (be_meth ?_)); (with_reducible refine bvar (by assumption) ?_); (with_reducible refine bki (k_tree S (f := "comment") rfl) fm_comment ?_); (with_reducible refine bes_cons (bwE_str (bkEs1_nil (bkM4_eq ?_)))))
    refine c_comment S I.ln fun H1 r1 r2 S1 => ?_
    refine append_new I hB (by decide) hs o S1 fun H' S' => ?_
    exact ⟨.inl rfl, next H' _ S' (.inr ⟨r1, r2, o, rfl⟩)⟩
  · (simp only [not_false_eq_true, e1]; simp only [true_implies, false_implies, true_and])
    exact next H T S (.inl rfl)
end

theorem lookup_mem {l : List (Int × Int)} {x v : Int} (h : l.lookup x = some v) : (x, v) ∈ l := by
  rw [List.lookup_eq_some_iff] at h
  obtain ⟨l1, l2, e, _⟩ := h
  rw [e]; exact List.mem_append_right _ List.mem_cons_self
theorem getP_ok {T : Tr} {B : Nat} {x : Int} (I : Inv B T) (o : Ok T x) : Ok T (getP T.cont x) := by
  unfold getP
  cases e : T.cont.lookup x with
  | none => exact o
  | some v => exact (I.kk _ (lookup_mem e)).2

/-- the scene's facts at the end of a grow -/
theorem Scn.grow {B : Nat} {T T' : Tr} {line : List Int} {named : List (Int × String)} {ups : List (Int × Int)} (C : Scn B T line named ups) {B' : Nat} (hB : B < B') (I' : Inv B' T') {name sp : String} {up : Int} {c : List (Int × Int)} (G : Gw T T' name sp up c) :
    Scn B' T' (line ++ [(T.kinds.length : Int)]) (setK (T.kinds.length : Int) (if sp = "html" then name else "") named) (setK (T.kinds.length : Int) up ups) := by
  have ne : ∀ y ∈ line, y ≠ (T.kinds.length : Int) := fun y hy => by have := (C.ok y hy).2; lia
  refine ⟨I', by rw [List.length_append]; have := C.pos; lia, by rw [List.length_append, List.length_singleton]; have := C.len; lia, fun y hy => ?_, fun y hy => ?_, fun y hy => ?_, ?_, ?_, ?_⟩
  · rcases List.mem_append.mp hy with m | m
    · exact G.ok (C.ok y m)
    · rw [List.mem_singleton.mp m]; exact G.okn
  · rw [setK_lookup]
    rcases List.mem_append.mp hy with m | m
    · rw [if_neg (ne y m), (G.old y (C.ok y m)).1, (G.old y (C.ok y m)).2.1]; exact C.nm y m
    · rw [List.mem_singleton.mp m, if_pos rfl, G.nn, G.ns]
  · rw [setK_lookup]
    rcases List.mem_append.mp hy with m | m
    · rw [if_neg (ne y m), (G.old y (C.ok y m)).2.2]; exact C.up y m
    · rw [List.mem_singleton.mp m, if_pos rfl, G.np]
  · rw [gi_l (by lia) (by have := C.pos; lia), (G.old _ (C.ok _ C.mem0)).1]; exact C.root
  · have := setK_len (T.kinds.length : Int) (if sp = "html" then name else "") named
    have := C.nl
    lia
  · have := setK_len (T.kinds.length : Int) up ups
    have := C.ul
    lia

section
variable {H : AH} {h : Nat} {T : Tr} {f : Bool} {line : List Int} {R : List (Nat × AO)} {Q : AV → AH → Prop} {d B : Nat} {ln nm up wr : Nat} {named : List (Int × String)} {ups : List (Int × Int)}
theorem c_law_grow (S : Sat H (allD h T f line (factD ln nm up wr line named ups T.cont ++ R))) (C : Scn B T line named ups) (hB : B + 10 < 1000) {dg side : Int} (os : Ok T side) (nd : (T.cont.map (·.1)).Nodup)
    (q : ∀ H' T' line' named' ups', Sat H' (allD h T' f line' (factD ln nm up wr line' named' ups' T'.cont ++ R)) → Scn (B + 10) T' line' named' ups' → Ok T' side → (T'.cont.map (·.1)).Nodup → Q .none H') :
    WC (d + 4) f_law_grow [.ref (h + 2), .int dg, .tup [.ref ln, .ref nm, .ref up, .ref wr], .int side] H Q := by
  refine wc_of (ρ := [("side", .int side), ("facts", .tup [.ref ln, .ref nm, .ref up, .ref wr]), ("digit", .int dg), ("builder", .ref (h + 2))]) rfl ?_
  unfold f_law_grow
  dsimp only
  have hlim := lim_ge
  have I := C.inv
  have L := I.ln
  have cl := I.cl
  have clen := C.len
  have cpos := C.pos
  ((with_reducible refine sc ?_))
  ((with_reducible refine bs_unpack ?_); refine bvar rfl ?_; simp only [true_and, eq_self, List.length_cons, List.length_nil, Nat.reduceAdd, Nat.zero_add, List.zip_cons_cons, List.zip_nil_right, List.reverse_cons, List.reverse_nil, List.cons_append, List.nil_append, cont_next, kUn_eq])
  ((with_reducible refine sc ?_))
  ((with_reducible refine bs_assign (be_attr ?_)); refine bvar rfl ?_; (with_reducible refine battr (a_tree S) ?_); (with_reducible refine bkAs_c ?_); simp only [setE, a_tree S])
  ((with_reducible refine sc ?_))
  ((with_reducible refine bs_assign (be_bin ?_)); refine bvar rfl ?_; (with_reducible refine bkBin1_eq (bwE_int ?_)); (with_reducible refine bbin (mod_i (x := dg) (y := 11) (by decide) (by decide)) ?_); (with_reducible refine bkAs_c ?_); simp only [setE, mod_i (x := dg) (y := 11) (by decide) (by decide)])
  have w0 : 0 ≤ Int.fmod dg 11 := Int.fmod_nonneg_of_pos dg (by decide)
  have w1 : Int.fmod dg 11 < 11 := Int.fmod_lt_of_pos dg (by decide)
  generalize Int.fmod dg 11 = w at w0 w1 ⊢
  ((with_reducible refine sc ?_))
  ((with_reducible refine bs_assign (be_sub (be_tup (bes_cons (bwE_str (bkEs1_cons (bwE_str (bkEs1_cons (bwE_str (bkEs1_cons (bwE_str (bkEs1_cons (bwE_str (bkEs1_cons (bwE_str (bkEs1_cons (bwE_str (bkEs1_cons (bwE_str (bkEs1_cons (bwE_str (bkEs1_cons (bwE_str (bkEs1_cons (bwE_str (bkEs1_nil (bkEs2_eq (bkEs2_eq (bkEs2_eq (bkEs2_eq (bkEs2_eq (bkEs2_eq (bkEs2_eq (bkEs2_eq (bkEs2_eq (bkEs2_eq ?_)))))))))))))))))))))))))))))))))))); simp only [BEq.rfl, opt_some, List.lookup_cons, setE, true_and, List.length_cons, List.length_nil, Nat.reduceAdd, Nat.zero_add, lim_11, cont_next, kv_eq, e_var, kSub1_eq, kSub2_eq, kTup_eq, kAs_eq, tup_nm w0 w1])
  ((with_reducible refine sc ?_))
  ((with_reducible refine bs_assign (be_meth ?_)); refine bvar rfl ?_; (with_reducible refine bki (k_tree S (f := "element") rfl) fm_element ?_); (with_reducible refine bes_cons ?_); refine bvar rfl ?_; (with_reducible refine bkEs1_cons (be_ite (bt_cmp ?_))); refine bvar rfl ?_; (with_reducible refine bkc1_eq (be_tup (bes_cons (bwE_int (bkEs1_cons (bwE_int (bkEs1_nil (bkEs2_eq (bkTup_2 ?_))))))))); (with_reducible refine bcmp (cmp_svg) ?_); simp only [wE_str, kIte_eq, kM4_eq, kEs1_nil, kEs2_eq, k_tree S (f := "element") rfl])
  have key : ∀ (sp : String), sp = spOf w →
      WC (d + 3) f_Tree_element [.ref (h + 4), .str (gs NM w), .str sp] H fun v H' => cont (d + 3) (.cons (.assign "up" (.meth (.var "wraps") "get" (.cons (.sub (.var "line") (.neg (.int 1))) (.cons (.sub (.var "line") (.neg (.int 1))) .nil)))) (.cons (.assign "way" (.bin .Mod (.bin .FloorDiv (.var "digit") (.int 11)) (.int 6))) (.cons (.ifs (.cmp .Gt (.var "way") (.int 1)) (.cons (.assign "up" (.sub (.tup (.cons (.neg (.int 1)) (.cons (.int 0) (.cons (.var "side") (.cons (.sub (.var "line") (.neg (.int 1))) .nil))))) (.bin .Sub (.var "way") (.int 2)))) .nil) .nil) (.cons (.ifs (.and (.cons (.cmp .Gt (.var "up") (.int 0)) (.cons (.cmp .Eq (.bin .Mod (.bin .FloorDiv (.var "digit") (.int 66)) (.int 3)) (.int 1)) .nil))) (.cons (.expr (.meth (.var "tree") "append" (.cons (.var "up") (.cons (.meth (.var "tree") "text" (.cons (.str "q") .nil)) .nil)))) .nil) .nil) (.cons (.ifs (.and (.cons (.cmp .Gt (.var "up") (.int 0)) (.cons (.cmp .Eq (.bin .Mod (.bin .FloorDiv (.var "digit") (.int 66)) (.int 3)) (.int 2)) .nil))) (.cons (.expr (.meth (.var "tree") "append" (.cons (.var "up") (.cons (.meth (.var "tree") "comment" (.cons (.str "c") .nil)) .nil)))) .nil) .nil) (.cons (.ifs (.cmp .NotEq (.var "up") (.neg (.int 1))) (.cons (.expr (.meth (.var "tree") "append" (.cons (.var "up") (.cons (.var "node") .nil)))) .nil) .nil) (.cons (.ifs (.and (.cons (.cmp .Gt (.var "up") (.int 0)) (.cons (.cmp .Eq (.bin .Mod (.bin .FloorDiv (.var "digit") (.int 198)) (.int 2)) (.int 1)) .nil))) (.cons (.expr (.meth (.var "tree") "append" (.cons (.var "up") (.cons (.meth (.var "tree") "text" (.cons (.str "r") .nil)) .nil)))) .nil) .nil) (.cons (.ifs (.cmp .Eq (.var "which") (.int 4)) (.cons (.setsub (.var "wraps") (.var "node") (.sub (.attr (.var "tree") "contents") (.var "node"))) .nil) .nil) (.cons (.expr (.meth (.attr (.var "builder") "stack") "push" (.cons (.var "node") .nil))) (.cons (.expr (.meth (.var "line") "append" (.cons (.var "node") .nil))) (.cons (.setsub (.var "named") (.var "node") (.ite (.cmp .In (.var "which") (.tup (.cons (.int 6) (.cons (.int 7) .nil)))) (.str "") (.var "name"))) (.cons (.setsub (.var "ups") (.var "node") (.var "up")) .nil)))))))))))) (kFn Q) .next (("node", v) :: ("name", .str (gs NM w)) :: ("which", .int w) :: ("tree", .ref (h + 4)) :: ("wraps", .ref wr) :: ("ups", .ref up) :: ("named", .ref nm) :: ("line", .ref ln) :: [("side", .int side), ("facts", .tup [.ref ln, .ref nm, .ref up, .ref wr]), ("digit", .int dg), ("builder", .ref (h + 2))]) H' := by
    intro sp hsp
    refine c_element2 S L (by lia) (fun p hp => (I.kk p hp).1.2) (by lia) fun H1 r1 r2 r3 r4 S1 => ?_
    have I1 : Inv (B + 2) (T.elem (gs NM w) sp r1 r2 r3 r4) := I.elem (by lia)
    have G1 : Gw T (T.elem (gs NM w) sp r1 r2 r3 r4) (gs NM w) sp (-1) _ := Gw.elem L (by lia)
    rw [hsp] at G1 I1 S1
    have hcw : (if spOf w = "html" ∧ gs NM w = "template" then T.cont ++ [((T.kinds.length : Int), (T.kinds.length : Int) + 1)] else T.cont) = if w = 4 then T.cont ++ [((T.kinds.length : Int), (T.kinds.length : Int) + 1)] else T.cont := by
      by_cases e : w = 4
      · rw [if_pos e, if_pos ((tmpl_iff w0 w1).mpr e)]
      · rw [if_neg e, if_neg fun z => e ((tmpl_iff w0 w1).mp z)]
    rw [hcw] at G1
    generalize T.elem (gs NM w) (spOf w) r1 r2 r3 r4 = T1 at *
    ((with_reducible refine bcont_next ?_))
    -- up
    ((with_reducible refine sc ?_))
    have S1' : Sat H1 (allD h T1 f line (factD ln nm up wr line named ups T.cont ++ R)) := S1
    have hlast := sub_last (f_line S1') cpos (by lia)
    change subA H1 (.ref ln) (.int (-1)) = some (.int (lastL line)) at hlast
    ((with_reducible refine bs_assign (be_meth ?_)); refine bvar rfl ?_; (with_reducible refine bkd (kind_dict (f_cont S1')) ?_); (with_reducible refine bes_cons (be_sub ?_)); refine bvar rfl ?_; (with_reducible refine bkSub1_eq (be_neg1 ?_)); (with_reducible refine bsub2 (by assumption) ?_); (with_reducible refine bkEs1_cons (be_sub ?_)); refine bvar rfl ?_; (with_reducible refine bkSub1_eq (be_neg1 ?_)); (with_reducible refine bsub2 (by assumption) ?_); (with_reducible refine bkEs1_nil (bkEs2_eq ?_)); (with_reducible refine bmd (get_d (f_cont S1')) ?_); (with_reducible refine bkAs_c ?_); simp only [setE, kind_dict (f_cont S1'), get_d (f_cont S1')])
    ((with_reducible refine sc ?_))
    ((with_reducible refine bs_assign (be_bin (be_bin ?_))); refine bvar rfl ?_; (with_reducible refine bkBin1_eq (bwE_int ?_)); (with_reducible refine bbin (div_i (x := dg) (y := 11) (by decide) (by decide)) ?_); (with_reducible refine bkBin1_eq (bwE_int ?_)); (with_reducible refine bbin (mod_i (y := 6) (by decide) (by decide)) ?_); (with_reducible refine bkAs_c ?_); simp only [setE, div_i (x := dg) (y := 11) (by decide) (by decide), mod_i (y := 6) (by decide) (by decide)])
    have y0 : 0 ≤ Int.fmod (Int.fdiv dg 11) 6 := Int.fmod_nonneg_of_pos _ (by decide)
    have y1 : Int.fmod (Int.fdiv dg 11) 6 < 6 := Int.fmod_lt_of_pos _ (by decide)
    generalize Int.fmod (Int.fdiv dg 11) 6 = way at y0 y1 ⊢
    ((with_reducible refine sc ?_))
    ((with_reducible refine bs_ifs (bt_cmp ?_)); refine bvar rfl ?_; (with_reducible refine bkc1_eq (bwE_int ?_)); (with_reducible refine bcmp cmp_gt ?_); simp only [decide_eq_true_eq, decide_eq_false_iff_not, cont_next, wSs_nil, kIf_eq])
    have olast : Ok T (lastL line) := C.ok _ (lastL_mem cpos)
    -- what is left, for any up
    have tail : ∀ (u : Int) (ρ : AE), (u = -1 ∨ Ok T u) → ρ.lookup "up" = some (.int u) → ρ.lookup "tree" = some (.ref (h + 4)) → ρ.lookup "digit" = some (.int dg) → ρ.lookup "node" = some (.int T.kinds.length) → ρ.lookup "which" = some (.int w) → ρ.lookup "name" = some (.str (gs NM w)) → ρ.lookup "wraps" = some (.ref wr) → ρ.lookup "ups" = some (.ref up) → ρ.lookup "named" = some (.ref nm) → ρ.lookup "line" = some (.ref ln) → ρ.lookup "builder" = some (.ref (h + 2)) →
        wSs (d + 3) (.cons (.ifs (.and (.cons (.cmp .Gt (.var "up") (.int 0)) (.cons (.cmp .Eq (.bin .Mod (.bin .FloorDiv (.var "digit") (.int 66)) (.int 3)) (.int 1)) .nil))) (.cons (.expr (.meth (.var "tree") "append" (.cons (.var "up") (.cons (.meth (.var "tree") "text" (.cons (.str "q") .nil)) .nil)))) .nil) .nil) (.cons (.ifs (.and (.cons (.cmp .Gt (.var "up") (.int 0)) (.cons (.cmp .Eq (.bin .Mod (.bin .FloorDiv (.var "digit") (.int 66)) (.int 3)) (.int 2)) .nil))) (.cons (.expr (.meth (.var "tree") "append" (.cons (.var "up") (.cons (.meth (.var "tree") "comment" (.cons (.str "c") .nil)) .nil)))) .nil) .nil) (.cons (.ifs (.cmp .NotEq (.var "up") (.neg (.int 1))) (.cons (.expr (.meth (.var "tree") "append" (.cons (.var "up") (.cons (.var "node") .nil)))) .nil) .nil) (.cons (.ifs (.and (.cons (.cmp .Gt (.var "up") (.int 0)) (.cons (.cmp .Eq (.bin .Mod (.bin .FloorDiv (.var "digit") (.int 198)) (.int 2)) (.int 1)) .nil))) (.cons (.expr (.meth (.var "tree") "append" (.cons (.var "up") (.cons (.meth (.var "tree") "text" (.cons (.str "r") .nil)) .nil)))) .nil) .nil) (.cons (.ifs (.cmp .Eq (.var "which") (.int 4)) (.cons (.setsub (.var "wraps") (.var "node") (.sub (.attr (.var "tree") "contents") (.var "node"))) .nil) .nil) (.cons (.expr (.meth (.attr (.var "builder") "stack") "push" (.cons (.var "node") .nil))) (.cons (.expr (.meth (.var "line") "append" (.cons (.var "node") .nil))) (.cons (.setsub (.var "named") (.var "node") (.ite (.cmp .In (.var "which") (.tup (.cons (.int 6) (.cons (.int 7) .nil)))) (.str "") (.var "name"))) (.cons (.setsub (.var "ups") (.var "node") (.var "up")) .nil))))))))) ρ H1 (kFn Q) := by
      intro u ρ ou k1 k2 k3 k4 k5 k6 k7 k8 k9 k10 k11
      refine st_text S1 I1 (by lia) (ou.imp id G1.ok) (by decide) (by decide) (by decide) (by decide) (by decide) k1 k2 k3 fun H2 T2 S2 e2 => ?_
      have I2 : Inv (B + 4) T2 := by
        rcases e2 with rfl | ⟨r1, r2, o, rfl⟩
        · exact I1.mono (by lia) (by lia)
        · exact I1.put (by lia) (by decide) (by show (1 : Nat) ≤ _; lia) o
      have G2 : Gw T T2 (gs NM w) (spOf w) (-1) (if w = 4 then T.cont ++ [((T.kinds.length : Int), (T.kinds.length : Int) + 1)] else T.cont) := by
        rcases e2 with rfl | ⟨r1, r2, o, rfl⟩
        · exact G1
        · exact G1.put I1.ln
      clear e2 S1 S1' I1 G1 hlast
      refine st_comment S2 I2 (by lia) (ou.imp id G2.ok) (by decide) (by decide) (by decide) (by decide) (by decide) k1 k2 k3 fun H3 T3 S3 e3 => ?_
      have I3 : Inv (B + 6) T3 := by
        rcases e3 with rfl | ⟨r1, r2, o, rfl⟩
        · exact I2.mono (by lia) (by lia)
        · exact I2.put (by lia) (by decide) (by show (1 : Nat) ≤ _; lia) o
      have G3 : Gw T T3 (gs NM w) (spOf w) (-1) (if w = 4 then T.cont ++ [((T.kinds.length : Int), (T.kinds.length : Int) + 1)] else T.cont) := by
        rcases e3 with rfl | ⟨r1, r2, o, rfl⟩
        · exact G2
        · exact G2.put I2.ln
      clear e3 S2 I2 G2
      have part2 : ∀ H4 T4, Sat H4 (treeD h T4 ++ (bldD h f line ++ (factD ln nm up wr line named ups T.cont ++ R))) → Inv (B + 7) T4 → Gw T T4 (gs NM w) (spOf w) u (if w = 4 then T.cont ++ [((T.kinds.length : Int), (T.kinds.length : Int) + 1)] else T.cont) →
          wSs (d + 3) (.cons (.ifs (.and (.cons (.cmp .Gt (.var "up") (.int 0)) (.cons (.cmp .Eq (.bin .Mod (.bin .FloorDiv (.var "digit") (.int 198)) (.int 2)) (.int 1)) .nil))) (.cons (.expr (.meth (.var "tree") "append" (.cons (.var "up") (.cons (.meth (.var "tree") "text" (.cons (.str "r") .nil)) .nil)))) .nil) .nil) (.cons (.ifs (.cmp .Eq (.var "which") (.int 4)) (.cons (.setsub (.var "wraps") (.var "node") (.sub (.attr (.var "tree") "contents") (.var "node"))) .nil) .nil) (.cons (.expr (.meth (.attr (.var "builder") "stack") "push" (.cons (.var "node") .nil))) (.cons (.expr (.meth (.var "line") "append" (.cons (.var "node") .nil))) (.cons (.setsub (.var "named") (.var "node") (.ite (.cmp .In (.var "which") (.tup (.cons (.int 6) (.cons (.int 7) .nil)))) (.str "") (.var "name"))) (.cons (.setsub (.var "ups") (.var "node") (.var "up")) .nil)))))) ρ H4 (kFn Q) := by
        intro H4 T4 S4 I4 G4
        refine st_text S4 I4 (by lia) (ou.imp id G4.ok) (by decide) (by decide) (by decide) (by decide) (by decide) k1 k2 k3 fun H5 T5 S5 e5 => ?_
        have I5 : Inv (B + 10) T5 := by
          rcases e5 with rfl | ⟨r1, r2, o, rfl⟩
          · exact I4.mono (by lia) (by lia)
          · exact (I4.put (by lia) (by decide) (by show (1 : Nat) ≤ _; lia) o).mono (by lia) (by lia)
        have G5 : Gw T T5 (gs NM w) (spOf w) u (if w = 4 then T.cont ++ [((T.kinds.length : Int), (T.kinds.length : Int) + 1)] else T.cont) := by
          rcases e5 with rfl | ⟨r1, r2, o, rfl⟩
          · exact G4
          · exact G4.put I4.ln
        clear e5 S4 I4 G4 S3 I3 G3
        have knew : ∀ p ∈ T.cont, p.1 ≠ (T.kinds.length : Int) := fun p hp => by have := (I.kk p hp).1.2; lia
        -- the end
        have fin : ∀ H6, Sat H6 (allD h T5 f line (factD ln nm up wr line named ups T5.cont ++ R)) → wSs (d + 3) (.cons (.expr (.meth (.attr (.var "builder") "stack") "push" (.cons (.var "node") .nil))) (.cons (.expr (.meth (.var "line") "append" (.cons (.var "node") .nil))) (.cons (.setsub (.var "named") (.var "node") (.ite (.cmp .In (.var "which") (.tup (.cons (.int 6) (.cons (.int 7) .nil)))) (.str "") (.var "name"))) (.cons (.setsub (.var "ups") (.var "node") (.var "up")) .nil)))) ρ H6 (kFn Q) := by
          intro H6 S6
          ((with_reducible refine sc ?_))
          ((with_reducible refine bs_expr (be_meth (be_attr ?_))); (with_reducible refine bvar (by assumption) ?_); (with_reducible refine battr (a_stack S6) ?_); (with_reducible refine bki (k_push S6) fm_push ?_); (with_reducible refine bes_cons ?_); (with_reducible refine bvar (by assumption) ?_); (with_reducible refine bkEs1_nil (bkM4_eq ?_)))
          refine c_push S6 (by lia) fun H7 S7 => ?_
          refine ⟨.inl rfl, ?_⟩
          ((with_reducible refine bcont_next ?_); (with_reducible refine sc ?_))
          ((with_reducible refine bs_expr (be_meth ?_)); (with_reducible refine bvar (by assumption) ?_); (with_reducible refine bkl (kind_list (f_line S7)) rfl ?_); (with_reducible refine bes_cons ?_); (with_reducible refine bvar (by assumption) ?_); (with_reducible refine bkEs1_nil ?_); (with_reducible refine bml (app_i (f_line S7) (by lia)) ?_); (with_reducible refine bkEx_n (bcont_next ?_)))
          have S8 := v_line S7 (line ++ [(T.kinds.length : Int)])
          ((with_reducible refine sc ?_))
          have hnl := C.nl
          have hul := C.ul
          have nv : (if spOf w = "html" then gs NM w else "") = if isSvg w = true then "" else gs NM w := by
            cases e : isSvg w with
            | true => rw [if_neg (fun z => by rw [svg_html, e] at z; cases z), if_pos rfl]
            | false => rw [if_pos ((svg_html w).mpr e), if_neg (by decide)]
          have last : ∀ H9, Sat H9 (allD h T5 f (line ++ [(T.kinds.length : Int)]) (factD ln nm up wr (line ++ [(T.kinds.length : Int)]) (setK (T.kinds.length : Int) (if spOf w = "html" then gs NM w else "") named) ups T5.cont ++ R)) →
              wSs (d + 3) (.cons (.setsub (.var "ups") (.var "node") (.var "up")) .nil) ρ H9 (kFn Q) := by
            intro H9 S9
            ((with_reducible refine sc ?_))
            ((with_reducible refine bs_setsub ?_); (with_reducible refine bvar (by assumption) ?_); (with_reducible refine bkSs1_eq ?_); (with_reducible refine bvar (by assumption) ?_); (with_reducible refine bkSs2_eq ?_); (with_reducible refine bvar (by assumption) ?_); (with_reducible refine bss (set_dc (f_ups S9) (x := (T.kinds.length : Int)) (s := u) (by lia)) ?_); (with_reducible refine bcont_next (bwSs_nil (bkFn_n ?_))))
            have S10 := v_ups S9 (setK (T.kinds.length : Int) u ups)
            refine q _ T5 _ _ _ S10 (C.grow (by lia) I5 G5) (G5.ok os) ?_
            rw [G5.cont]
            split
            · rw [List.map_append, List.nodup_append]
              refine ⟨nd, by simp, fun a ha b hb => ?_⟩
              obtain ⟨p, hp, rfl⟩ := List.mem_map.mp ha
              have : b = (T.kinds.length : Int) := by simpa using hb
              rw [this]; exact knew p hp
            · exact nd
          ((with_reducible refine bs_setsub (be_ite (bt_cmp ?_))); (with_reducible refine bvar (by assumption) ?_); (with_reducible refine bkc1_eq (be_tup (bes_cons (bwE_int (bkEs1_cons (bwE_int (bkEs1_nil (bkEs2_eq (bkTup_2 ?_))))))))); (with_reducible refine bcmp (cmp_svg) ?_); simp only [opt_some, wE_str, kv_eq, e_var, kIte_eq, kSs1_eq, kSs2_eq, kSs3_eq, k9, k4, k6])
          cases e : isSvg w with
          | true =>
            have S9 := v_named S8 (setK (T.kinds.length : Int) "" named)
            (simp only [eq_self, set_dn (f_named S8) (x := (T.kinds.length : Int)) (s := "") (by lia)]; simp only [opt_some, true_implies, false_implies, and_true, Bool.true_eq_false, cont_next, kN_eq, set_dn (f_named S8) (x := (T.kinds.length : Int)) (s := "") (by lia)])
            refine last _ ?_
            rw [nv, e, if_pos rfl]; exact S9
          | false =>
            have S9 := v_named S8 (setK (T.kinds.length : Int) (gs NM w) named)
            (simp only [eq_self, set_dn (f_named S8) (x := (T.kinds.length : Int)) (s := gs NM w) (by lia)]; simp only [opt_some, true_implies, false_implies, true_and, Bool.false_eq_true, cont_next, kN_eq, set_dn (f_named S8) (x := (T.kinds.length : Int)) (s := gs NM w) (by lia)])
            refine last _ ?_
            rw [nv, e, if_neg (by decide)]; exact S9
        have S5' : Sat H5 (allD h T5 f line (factD ln nm up wr line named ups T.cont ++ R)) := S5
        ((with_reducible refine sc ?_))
        ((with_reducible refine bs_ifs (bt_cmp ?_)); (with_reducible refine bvar (by assumption) ?_); (with_reducible refine bkc1_eq (bwE_int ?_)); (with_reducible refine bcmp cmp_eq_i ?_); simp only [decide_eq_true_eq, decide_eq_false_iff_not, cont_next, wSs_nil, kIf_eq])
        by_cases ew : w = 4
        · (simp only [not_true_eq_false, eq_self, ew]; simp only [true_implies, false_implies, and_true])
          ((with_reducible refine sc ?_))
          have ec := G5.cont
          rw [if_pos ew] at ec
          have hh : hasK T5.cont (T.kinds.length : Int) = true := by
            rw [ec]; unfold hasK; simp
          have hv : contGet T5.cont (T.kinds.length : Int) = (T.kinds.length : Int) + 1 := by
            have m := contGet_mem hh
            rw [ec] at m ⊢
            rcases List.mem_append.mp m with z | z
            · exact absurd rfl (knew _ z)
            · have := List.mem_singleton.mp z
              exact (Prod.mk.inj this).2
          ((with_reducible refine bs_setsub (be_sub (be_attr ?_))); (with_reducible refine bvar (by assumption) ?_); (with_reducible refine battr (a_contents S5) ?_); (with_reducible refine bkSub1_eq ?_); (with_reducible refine bvar (by assumption) ?_); (with_reducible refine bsub2 (sub_d (t_contents S5) hh) ?_); (with_reducible refine bkSs1_eq ?_); (with_reducible refine bvar (by assumption) ?_); (with_reducible refine bkSs2_eq ?_); (with_reducible refine bvar (by assumption) ?_); (with_reducible refine bss (set_d (f_cont S5') (x := (T.kinds.length : Int)) (y := contGet T5.cont (T.kinds.length : Int)) knew (by lia)) ?_); (with_reducible refine bcont_next (bwSs_nil (bcont_next ?_))))
          refine fin _ ?_
          have S6 := v_cont S5' (T.cont ++ [((T.kinds.length : Int), contGet T5.cont (T.kinds.length : Int))])
          have ee : T5.cont = T.cont ++ [((T.kinds.length : Int), contGet T5.cont (T.kinds.length : Int))] := by
            conv => lhs; rw [ec]
            rw [hv]
          rw [← ee] at S6 ⊢
          exact S6
        · (simp only [not_false_eq_true, ew]; simp only [true_implies, false_implies, true_and])
          refine fin _ ?_
          have ec := G5.cont
          rw [if_neg ew] at ec
          rw [ec]; exact S5'
      ((with_reducible refine sc ?_))
      ((with_reducible refine bs_ifs (bt_cmp ?_)); (with_reducible refine bvar (by assumption) ?_); (with_reducible refine bkc1_eq (be_neg1 ?_)); (with_reducible refine bcmp cmp_ne_i ?_); simp only [Int.reduceNeg, cont_next, wSs_nil, kIf_eq])
      by_cases eu : u = -1
      · (simp only [Int.reduceNeg, decide_true, Bool.not_true, eq_self, eu]; simp only [true_implies, false_implies, true_and, Bool.false_eq_true])
        refine part2 H3 T3 S3 (I3.mono (by lia) (by lia)) ?_
        rw [eu]; exact G3
      · (simp only [Int.reduceNeg, decide_false, Bool.not_false, eq_self, eu]; simp only [true_implies, false_implies, and_true, Bool.true_eq_false])
        have o := ou.resolve_left eu
        ((with_reducible refine sc ?_))
        ((with_reducible refine bs_expr (be_meth ?_)); (with_reducible refine bvar (by assumption) ?_); (with_reducible refine bki (k_tree S3 (f := "append") rfl) fm_append ?_); (with_reducible refine bes_cons ?_); (with_reducible refine bvar (by assumption) ?_); (with_reducible refine bkEs1_cons ?_); (with_reducible refine bvar (by assumption) ?_); (with_reducible refine bkEs1_nil (bkEs2_eq (bkM4_eq ?_))))
        refine c_append S3 I3.ln I3.par (G3.ok o) G3.okn o.2 G3.np fun H4 S4 => ?_
        refine ⟨.inl rfl, ?_⟩
        exact part2 H4 _ S4 (I3.ins (by lia) (G3.ok o) G3.okn o.2 _) (G3.ins I3.ln)
    by_cases ey : way > 1
    · (simp only [not_true_eq_false, ey]; simp only [true_implies, false_implies, and_true])
      ((with_reducible refine sc ?_))
      ((with_reducible refine bs_assign (be_sub (be_tup (bes_cons (be_neg1 (bkEs1_cons (bwE_int (bkEs1_cons ?_)))))))); refine bvar rfl ?_; (with_reducible refine bkEs1_cons (be_sub ?_)); refine bvar rfl ?_; (with_reducible refine bkSub1_eq (be_neg1 ?_)); (with_reducible refine bsub2 (by assumption) ?_); (with_reducible refine bkEs1_nil (bkEs2_eq (bkEs2_eq (bkEs2_eq (bkTup_4 (bkSub1_eq (be_bin ?_))))))); refine bvar rfl ?_; (with_reducible refine bkBin1_eq (bwE_int ?_)); (with_reducible refine bbin bin_add ?_); (with_reducible refine bsub2 (tup_4 (x := way - 2) (by lia) (by lia)) ?_); (with_reducible refine bkAs_c (bwSs_nil (bcont_next ?_))); simp only [Int.reduceNeg, setE, tup_4 (x := way - 2) (by lia) (by lia)])
      refine tail (gi [-1, 0, side, lastL line] (way - 2)) _ ?_ (by simp only [BEq.rfl, Int.reduceNeg, List.lookup_cons, eq_self]) (by simp only [String.reduceBEq, BEq.rfl, Int.reduceNeg, List.lookup_cons, eq_self]) (by simp only [String.reduceBEq, BEq.rfl, Int.reduceNeg, List.lookup_cons, eq_self]) (by simp only [String.reduceBEq, BEq.rfl, Int.reduceNeg, List.lookup_cons, eq_self]) (by simp only [String.reduceBEq, BEq.rfl, Int.reduceNeg, List.lookup_cons, eq_self]) (by simp only [String.reduceBEq, BEq.rfl, Int.reduceNeg, List.lookup_cons, eq_self]) (by simp only [String.reduceBEq, BEq.rfl, Int.reduceNeg, List.lookup_cons, eq_self]) (by simp only [String.reduceBEq, BEq.rfl, Int.reduceNeg, List.lookup_cons, eq_self]) (by simp only [String.reduceBEq, BEq.rfl, Int.reduceNeg, List.lookup_cons, eq_self]) (by simp only [String.reduceBEq, BEq.rfl, Int.reduceNeg, List.lookup_cons, eq_self]) (by simp only [String.reduceBEq, BEq.rfl, Int.reduceNeg, List.lookup_cons, eq_self])
      have m : gi [-1, 0, side, lastL line] (way - 2) ∈ [-1, 0, side, lastL line] := gi_mem (by lia) (by show way - 2 < 4; lia)
      simp only [List.mem_cons, List.mem_nil_iff, or_false] at m
      rcases m with e | e | e | e
      · exact .inl e
      · exact .inr (by rw [e]; exact ⟨by lia, by have := I.n0; lia⟩)
      · exact .inr (by rw [e]; exact os)
      · exact .inr (by rw [e]; exact olast)
    · (simp only [not_false_eq_true, ey]; simp only [true_implies, false_implies, true_and])
      exact tail (getP T.cont (lastL line)) _ (.inr (getP_ok I olast)) (by simp only [String.reduceBEq, BEq.rfl, List.lookup_cons, eq_self]) (by simp only [String.reduceBEq, BEq.rfl, List.lookup_cons, eq_self]) (by simp only [String.reduceBEq, BEq.rfl, List.lookup_cons, eq_self]) (by simp only [String.reduceBEq, BEq.rfl, List.lookup_cons, eq_self]) (by simp only [String.reduceBEq, BEq.rfl, List.lookup_cons, eq_self]) (by simp only [String.reduceBEq, BEq.rfl, List.lookup_cons, eq_self]) (by simp only [String.reduceBEq, BEq.rfl, List.lookup_cons, eq_self]) (by simp only [String.reduceBEq, BEq.rfl, List.lookup_cons, eq_self]) (by simp only [String.reduceBEq, BEq.rfl, List.lookup_cons, eq_self]) (by simp only [String.reduceBEq, BEq.rfl, List.lookup_cons, eq_self]) (by simp only [String.reduceBEq, BEq.rfl, List.lookup_cons, eq_self])
  have ksp : isSvg w = true → "svg" = spOf w := fun e => by unfold spOf; rw [if_pos e]
  have ksp2 : isSvg w = false → "html" = spOf w := fun e => by unfold spOf; rw [if_neg (by rw [e]; decide)]
  exact ⟨fun e => key "svg" (ksp e), fun e => key "html" (ksp2 e)⟩
end
end Mine
end
section
set_option maxRecDepth 100000
namespace Mine
section
variable {H : AH} {K : AH} {R : List (Nat × AO)} {Q : AV → AH → Prop} {d : Nat}
theorem gK {j : Nat} : (H ++ K)[H.length + j]? = K[j]? := by rw [List.getElem?_append_right (Nat.le_add_right _ _), Nat.add_sub_cancel_left]
theorem gK0 : (H ++ K)[H.length]? = K[0]? := gK (j := 0)
theorem sK {j : Nat} {o : AO} : (H ++ K).set (H.length + j) o = H ++ K.set j o := by rw [List.set_append_right _ _ (Nat.le_add_right _ _), Nat.add_sub_cancel_left]
theorem sK0 {o : AO} : (H ++ K).set H.length o = H ++ K.set 0 o := sK (j := 0)
theorem aK {K' : AH} : (H ++ K) ++ K' = H ++ (K ++ K') := List.append_assoc ..

theorem sa {i di : Nat} {c f : String} {fs : List (String × AV)} {u : AV} (h1 : H[i]? = some (.inst c di)) (h2 : H[di]? = some (.fields fs)) (h3 : f ∈ attrsOf c) (h4 : fs.length ≤ 900) : setattrA H (.ref i) f u = some (H.set di (.fields (setF f u fs))) := by
  unfold setattrA; simp only [h1, h2]; rw [if_pos ⟨h4, h3⟩]

/-- a field set, of a thing that lies at the end -/
theorem st_set {x f : String} {e : ME} {r : MSs} {ρ : AE} {c : String} {fs : List (String × AV)} {j dj : Nat} {v : AV} {K' : AH} {Q : AF → AE → AH → Prop} (hx : ρ.lookup x = some (.ref (H.length + j)))
    (he : ∀ Q' : AV → AH → Prop, Q' v (H ++ K') → wE d e ρ (H ++ K) Q') (h1 : K'[j]? = some (.inst c (H.length + dj))) (h2 : K'[dj]? = some (.fields fs)) (h3 : f ∈ attrsOf c) (h4 : fs.length ≤ 900)
    (h : wSs d r ρ (H ++ K'.set dj (.fields (setF f v fs))) Q) : wSs d (.cons (.setattr (.var x) f e) r) ρ (H ++ K) Q := by
  ((with_reducible refine sc ?_))
  ((with_reducible refine bs_setattr ?_))
  refine he _ ?_
  ((with_reducible refine bkSa1_eq ?_); (with_reducible refine bvar (by assumption) ?_); simp only [kSa2_eq])
  refine opt_intro (sa (gK.trans h1) (gK.trans h2) h3 h4) ?_
  rw [sK]; exact h
end

section
variable {H : AH} {K : AH} {d : Nat}
theorem eV {ρ : AE} {x : String} {v : AV} (h : ρ.lookup x = some v) (Q' : AV → AH → Prop) (q : Q' v (H ++ K)) : wE d (.var x) ρ (H ++ K) Q' := by
  ((with_reducible refine bvar (by assumption) ?_))
  exact q
theorem eNeg {ρ : AE} (Q' : AV → AH → Prop) (q : Q' (.int (-1)) (H ++ K)) : wE d (.neg (.int 1)) ρ (H ++ K) Q' := by
  ((with_reducible refine be_neg1 ?_))
  exact q
theorem eStr {ρ : AE} {s : String} (Q' : AV → AH → Prop) (q : Q' (.str s) (H ++ K)) : wE d (.str s) ρ (H ++ K) Q' := by
  ((with_reducible refine bwE_str ?_))
  exact q
theorem eBool {ρ : AE} {s : Bool} (Q' : AV → AH → Prop) (q : Q' (.bool s) (H ++ K)) : wE d (.bool s) ρ (H ++ K) Q' := by
  ((with_reducible refine bwE_bool ?_))
  exact q
theorem eLst {ρ : AE} (Q' : AV → AH → Prop) (q : Q' (.ref (H.length + K.length)) (H ++ (K ++ [.list []]))) : wE d (.lst .nil) ρ (H ++ K) Q' := by
  ((with_reducible refine be_lst (bes_nil (bkLst_0 ?_))); simp only [List.length_append, aK])
  exact q
theorem eDict {ρ : AE} (Q' : AV → AH → Prop) (q : Q' (.ref (H.length + K.length)) (H ++ (K ++ [.dict []]))) : wE d .dict0 ρ (H ++ K) Q' := by
  ((with_reducible refine be_dict0 ?_); simp only [List.length_append, aK])
  exact q
theorem eListT {ρ : AE} {x : String} (h : ρ.lookup x = some (.tup [])) (Q' : AV → AH → Prop) (q : Q' (.ref (H.length + K.length)) (H ++ (K ++ [.list []]))) : wE d (.call "list" (.cons (.var x) .nil)) ρ (H ++ K) Q' := by
  ((with_reducible refine be_call (bes_cons ?_)); (with_reducible refine bvar (by assumption) ?_); (with_reducible refine bkEs1_nil (bc_list ?_)); simp only [List.length_append, aK, listOf]; simp only [opt_some, if_true, List.length_nil, Nat.zero_le, kr_eq])
  exact q
theorem st_retlen {x f : String} {ρ : AE} {c : String} {fs : List (String × AV)} {j dj lj : Nat} {vs : List AV} {Q : AF → AE → AH → Prop} (hx : ρ.lookup x = some (.ref (H.length + j)))
    (h1 : K[j]? = some (.inst c (H.length + dj))) (h2 : K[dj]? = some (.fields fs)) (h3 : f ∈ attrsOf c) (h4 : fs.lookup f = some (.ref (H.length + lj)))
    (h5 : K[lj]? = some (.list vs)) (h7 : vs.length ≤ 900) (h : Q (.ret (.int ((vs.length : Int) - 1))) ρ (H ++ K)) : wS d (.ret (.bin .Sub (.call "len" (.cons (.attr (.var x) f) .nil)) (.int 1))) ρ (H ++ K) Q := by
  ((with_reducible refine bs_ret (be_bin (be_call (bes_cons (be_attr ?_))))); (with_reducible refine bvar (by assumption) ?_); (with_reducible refine battr (attr_of (gK.trans h1) (gK.trans h2) h3 h4) ?_); (with_reducible refine bkEs1_nil ?_); (with_reducible refine blen (len_l (gK.trans h5) (by have := lim_ge; lia)) ?_); (with_reducible refine bkBin1_eq (bwE_int ?_)); (with_reducible refine bbin bin_sub ?_); (with_reducible refine bkRet_eq ?_))
  exact h
theorem st_app {x f : String} {e : ME} {r : MSs} {ρ : AE} {c : String} {fs : List (String × AV)} {j dj lj : Nat} {v : AV} {vs : List AV} {K' : AH} {Q : AF → AE → AH → Prop} (hx : ρ.lookup x = some (.ref (H.length + j)))
    (he : ∀ Q' : AV → AH → Prop, Q' v (H ++ K') → wE d e ρ (H ++ K) Q') (h1 : K[j]? = some (.inst c (H.length + dj))) (h2 : K[dj]? = some (.fields fs)) (h3 : f ∈ attrsOf c) (h4 : fs.lookup f = some (.ref (H.length + lj)))
    (h5 : K[lj]? = some (.list vs)) (h6 : K'[lj]? = some (.list vs)) (h7 : vs.length ≤ 900)
    (h : wSs d r ρ (H ++ K'.set lj (.list (vs ++ [v]))) Q) : wSs d (.cons (.expr (.meth (.attr (.var x) f) "append" (.cons e .nil))) r) ρ (H ++ K) Q := by
  ((with_reducible refine sc ?_))
  ((with_reducible refine bs_expr (be_meth (be_attr ?_))); (with_reducible refine bvar (by assumption) ?_); (with_reducible refine battr (attr_of (gK.trans h1) (gK.trans h2) h3 h4) ?_); (with_reducible refine bkl (kind_list (f := "append") (gK.trans h5)) rfl ?_); (with_reducible refine bes_cons ?_))
  refine he _ ?_
  ((with_reducible refine bkEs1_nil ?_); (with_reducible refine bml (ap_l (v := v) (gK.trans h6) (by have := lim_ge; lia)) ?_); (with_reducible refine bkEx_n (bcont_next ?_)); simp only [ap_l (v := v) (gK.trans h6) (by have := lim_ge; lia), sK])
  exact h
end

noncomputable def KT (n : Nat) : AH := [.fields (treeFs (n - 3)), .inst "Tree" n, .list [.str "document"], .list [.str ""], .list [.str ""], .list [.ref (n + 10)], .list [.str ""], .list [.int (-1)], .list [.ref (n + 11)], .dict [], .list [], .list []]
theorem c_Tree {H : AH} {Q : AV → AH → Prop} {d : Nat} (q : Q .none (H ++ [.fields [("kinds", .ref (H.length + 2)), ("spaces", .ref (H.length + 3)), ("names", .ref (H.length + 4)), ("attrs", .ref (H.length + 5)), ("texts", .ref (H.length + 6)), ("parents", .ref (H.length + 7)), ("children", .ref (H.length + 8)), ("contents", .ref (H.length + 9))], .inst "Tree" H.length, .list [.str "document"], .list [.str ""], .list [.str ""], .list [.ref (H.length + 10)], .list [.str ""], .list [.int (-1)], .list [.ref (H.length + 11)], .dict [], .list [], .list []])) :
    WC (d + 2) f_Tree_init [.ref (H.length + 1)] (H ++ [.fields [], .inst "Tree" H.length]) Q := by
  refine wc_of (ρ := [("self", .ref (H.length + 1))]) rfl ?_
  unfold f_Tree_init
  dsimp only
  refine st_set (j := 1) (dj := 0) rfl eLst rfl rfl (by decide) (Nat.le_of_ble_eq_true rfl) ?_
  (first | dsimp only [setF, String.reduceBEq, cond_true, cond_false, List.set_cons_zero, List.set_cons_succ, List.cons_append, List.nil_append, List.length_cons, List.length_nil, Nat.reduceAdd] | skip) <;> (try simp only [List.length_append, List.length_cons, List.length_nil, Nat.add_assoc, Nat.zero_add, Nat.add_zero, Nat.reduceAdd, aK])
  refine st_set (j := 1) (dj := 0) rfl eLst rfl rfl (by decide) (Nat.le_of_ble_eq_true rfl) ?_
  (first | dsimp only [setF, String.reduceBEq, cond_true, cond_false, List.set_cons_zero, List.set_cons_succ, List.cons_append, List.nil_append, List.length_cons, List.length_nil, Nat.reduceAdd] | skip) <;> (try simp only [List.length_append, List.length_cons, List.length_nil, Nat.add_assoc, Nat.zero_add, Nat.add_zero, Nat.reduceAdd, aK])
  refine st_set (j := 1) (dj := 0) rfl eLst rfl rfl (by decide) (Nat.le_of_ble_eq_true rfl) ?_
  (first | dsimp only [setF, String.reduceBEq, cond_true, cond_false, List.set_cons_zero, List.set_cons_succ, List.cons_append, List.nil_append, List.length_cons, List.length_nil, Nat.reduceAdd] | skip) <;> (try simp only [List.length_append, List.length_cons, List.length_nil, Nat.add_assoc, Nat.zero_add, Nat.add_zero, Nat.reduceAdd, aK])
  refine st_set (j := 1) (dj := 0) rfl eLst rfl rfl (by decide) (Nat.le_of_ble_eq_true rfl) ?_
  (first | dsimp only [setF, String.reduceBEq, cond_true, cond_false, List.set_cons_zero, List.set_cons_succ, List.cons_append, List.nil_append, List.length_cons, List.length_nil, Nat.reduceAdd] | skip) <;> (try simp only [List.length_append, List.length_cons, List.length_nil, Nat.add_assoc, Nat.zero_add, Nat.add_zero, Nat.reduceAdd, aK])
  refine st_set (j := 1) (dj := 0) rfl eLst rfl rfl (by decide) (Nat.le_of_ble_eq_true rfl) ?_
  (first | dsimp only [setF, String.reduceBEq, cond_true, cond_false, List.set_cons_zero, List.set_cons_succ, List.cons_append, List.nil_append, List.length_cons, List.length_nil, Nat.reduceAdd] | skip) <;> (try simp only [List.length_append, List.length_cons, List.length_nil, Nat.add_assoc, Nat.zero_add, Nat.add_zero, Nat.reduceAdd, aK])
  refine st_set (j := 1) (dj := 0) rfl eLst rfl rfl (by decide) (Nat.le_of_ble_eq_true rfl) ?_
  (first | dsimp only [setF, String.reduceBEq, cond_true, cond_false, List.set_cons_zero, List.set_cons_succ, List.cons_append, List.nil_append, List.length_cons, List.length_nil, Nat.reduceAdd] | skip) <;> (try simp only [List.length_append, List.length_cons, List.length_nil, Nat.add_assoc, Nat.zero_add, Nat.add_zero, Nat.reduceAdd, aK])
  refine st_set (j := 1) (dj := 0) rfl eLst rfl rfl (by decide) (Nat.le_of_ble_eq_true rfl) ?_
  (first | dsimp only [setF, String.reduceBEq, cond_true, cond_false, List.set_cons_zero, List.set_cons_succ, List.cons_append, List.nil_append, List.length_cons, List.length_nil, Nat.reduceAdd] | skip) <;> (try simp only [List.length_append, List.length_cons, List.length_nil, Nat.add_assoc, Nat.zero_add, Nat.add_zero, Nat.reduceAdd, aK])
  refine st_set (j := 1) (dj := 0) rfl eDict rfl rfl (by decide) (Nat.le_of_ble_eq_true rfl) ?_
  (first | dsimp only [setF, String.reduceBEq, cond_true, cond_false, List.set_cons_zero, List.set_cons_succ, List.cons_append, List.nil_append, List.length_cons, List.length_nil, Nat.reduceAdd] | skip) <;> (try simp only [List.length_append, List.length_cons, List.length_nil, Nat.add_assoc, Nat.zero_add, Nat.add_zero, Nat.reduceAdd, aK])
  ((with_reducible refine sc ?_))
  ((with_reducible refine bs_expr (be_meth ?_)); refine bvar rfl ?_; (with_reducible apply bki); exact kind_of (f := "add") (gK (H := H) (j := 1) (K := [AO.fields [("kinds", AV.ref (H.length + 2)), ("spaces", AV.ref (H.length + 3)), ("names", AV.ref (H.length + 4)), ("attrs", AV.ref (H.length + 5)), ("texts", AV.ref (H.length + 6)), ("parents", AV.ref (H.length + 7)), ("children", AV.ref (H.length + 8)), ("contents", AV.ref (H.length + 9))], AO.inst "Tree" H.length, AO.list [], AO.list [], AO.list [], AO.list [], AO.list [], AO.list [], AO.list [], AO.dict []])) (gK0 (H := H)) rfl; exact fm_add; (with_reducible refine bes_cons (bwE_str (bkEs1_nil (bkM4_eq ?_)))))
  refine wc_of (ρ := [("text", .str ""), ("attrs", .tup []), ("name", .str ""), ("space", .str ""), ("kind", .str "document"), ("self", .ref (H.length + 1))]) rfl ?_
  unfold f_Tree_add
  dsimp only
  refine st_app (j := 1) (dj := 0) (lj := 2) rfl (eV rfl) rfl rfl (by decide) rfl rfl rfl (Nat.le_of_ble_eq_true rfl) ?_
  (first | dsimp only [setF, String.reduceBEq, cond_true, cond_false, List.set_cons_zero, List.set_cons_succ, List.cons_append, List.nil_append, List.length_cons, List.length_nil, Nat.reduceAdd] | skip) <;> (try simp only [List.length_append, List.length_cons, List.length_nil, Nat.add_assoc, Nat.zero_add, Nat.add_zero, Nat.reduceAdd, aK])
  refine st_app (j := 1) (dj := 0) (lj := 3) rfl (eV rfl) rfl rfl (by decide) rfl rfl rfl (Nat.le_of_ble_eq_true rfl) ?_
  (first | dsimp only [setF, String.reduceBEq, cond_true, cond_false, List.set_cons_zero, List.set_cons_succ, List.cons_append, List.nil_append, List.length_cons, List.length_nil, Nat.reduceAdd] | skip) <;> (try simp only [List.length_append, List.length_cons, List.length_nil, Nat.add_assoc, Nat.zero_add, Nat.add_zero, Nat.reduceAdd, aK])
  refine st_app (j := 1) (dj := 0) (lj := 4) rfl (eV rfl) rfl rfl (by decide) rfl rfl rfl (Nat.le_of_ble_eq_true rfl) ?_
  (first | dsimp only [setF, String.reduceBEq, cond_true, cond_false, List.set_cons_zero, List.set_cons_succ, List.cons_append, List.nil_append, List.length_cons, List.length_nil, Nat.reduceAdd] | skip) <;> (try simp only [List.length_append, List.length_cons, List.length_nil, Nat.add_assoc, Nat.zero_add, Nat.add_zero, Nat.reduceAdd, aK])
  refine st_app (j := 1) (dj := 0) (lj := 5) rfl (eListT rfl) rfl rfl (by decide) rfl rfl rfl (Nat.le_of_ble_eq_true rfl) ?_
  (first | dsimp only [setF, String.reduceBEq, cond_true, cond_false, List.set_cons_zero, List.set_cons_succ, List.cons_append, List.nil_append, List.length_cons, List.length_nil, Nat.reduceAdd] | skip) <;> (try simp only [List.length_append, List.length_cons, List.length_nil, Nat.add_assoc, Nat.zero_add, Nat.add_zero, Nat.reduceAdd, aK])
  refine st_app (j := 1) (dj := 0) (lj := 6) rfl (eV rfl) rfl rfl (by decide) rfl rfl rfl (Nat.le_of_ble_eq_true rfl) ?_
  (first | dsimp only [setF, String.reduceBEq, cond_true, cond_false, List.set_cons_zero, List.set_cons_succ, List.cons_append, List.nil_append, List.length_cons, List.length_nil, Nat.reduceAdd] | skip) <;> (try simp only [List.length_append, List.length_cons, List.length_nil, Nat.add_assoc, Nat.zero_add, Nat.add_zero, Nat.reduceAdd, aK])
  refine st_app (j := 1) (dj := 0) (lj := 7) rfl eNeg rfl rfl (by decide) rfl rfl rfl (Nat.le_of_ble_eq_true rfl) ?_
  (first | dsimp only [setF, String.reduceBEq, cond_true, cond_false, List.set_cons_zero, List.set_cons_succ, List.cons_append, List.nil_append, List.length_cons, List.length_nil, Nat.reduceAdd] | skip) <;> (try simp only [List.length_append, List.length_cons, List.length_nil, Nat.add_assoc, Nat.zero_add, Nat.add_zero, Nat.reduceAdd, aK])
  refine st_app (j := 1) (dj := 0) (lj := 8) rfl eLst rfl rfl (by decide) rfl rfl rfl (Nat.le_of_ble_eq_true rfl) ?_
  (first | dsimp only [setF, String.reduceBEq, cond_true, cond_false, List.set_cons_zero, List.set_cons_succ, List.cons_append, List.nil_append, List.length_cons, List.length_nil, Nat.reduceAdd] | skip) <;> (try simp only [List.length_append, List.length_cons, List.length_nil, Nat.add_assoc, Nat.zero_add, Nat.add_zero, Nat.reduceAdd, aK])
  ((with_reducible refine sc ?_))
  refine st_retlen (j := 1) (dj := 0) (lj := 2) rfl rfl rfl (by decide) rfl rfl (Nat.le_of_ble_eq_true rfl) ?_
  ((with_reducible refine bcont_ret (bkFn_r (bkEx_i (bcont_next (bwSs_nil (bkFn_n ?_)))))))
  exact q

noncomputable def AllAt (K : AH) : List (Nat × AO) → Prop
  | [] => True
  | p :: r => K[p.1]? = some p.2 ∧ AllAt K r
theorem AllAt.get {K : AH} : ∀ {js : List (Nat × AO)}, AllAt K js → ∀ p ∈ js, K[p.1]? = some p.2
  | [], _, p, hp => (by cases hp)
  | a :: r, h, p, hp => by
    rcases List.mem_cons.mp hp with rfl | m
    · exact h.1
    · exact h.2.get p m
theorem Sat_newJ {H K : AH} {R js : List (Nat × AO)} (S : Sat H R) (hj : AllAt K js) (nd : (js.map (·.1)).Nodup) : Sat (H ++ K) (js.map (fun p => (H.length + p.1, p.2)) ++ R) := by
  refine ⟨fun p hp => ?_, ?_⟩
  · rcases List.mem_append.mp hp with m | m
    · obtain ⟨q, hq, rfl⟩ := List.mem_map.mp m
      exact gK.trans (hj.get q hq)
    · exact (S.keep K).1 p m
  · rw [List.map_append, List.nodup_append]
    refine ⟨?_, S.2, fun a ha b hb e => ?_⟩
    · rw [List.map_map]
      show (js.map ((H.length + ·) ∘ (·.1))).Nodup
      rw [← List.map_map]
      exact List.Pairwise.map _ (fun a b (hne : a ≠ b) q => hne (Nat.add_left_cancel q)) nd
    · obtain ⟨p, hp, rfl⟩ := List.mem_map.mp ha
      obtain ⟨q, _, rfl⟩ := List.mem_map.mp hp
      have := S.lt hb
      rw [← e] at this
      exact absurd this (Nat.not_lt.mpr (Nat.le_add_right _ _))

noncomputable def T0 (h : Nat) : Tr := { kinds := ["document"], spaces := [""], names := [""], ar := [h + 13], texts := [""], parents := [-1], ch := [(h + 14, [])], cont := [] }

theorem eTree {H K : AH} {d : Nat} {ρ : AE} (Q' : AV → AH → Prop) (q : Q' (.ref (H.length + (K.length + 1))) (H ++ (K ++ [.fields [("kinds", .ref (H.length + (K.length + 2))), ("spaces", .ref (H.length + (K.length + 3))), ("names", .ref (H.length + (K.length + 4))), ("attrs", .ref (H.length + (K.length + 5))), ("texts", .ref (H.length + (K.length + 6))), ("parents", .ref (H.length + (K.length + 7))), ("children", .ref (H.length + (K.length + 8))), ("contents", .ref (H.length + (K.length + 9)))], .inst "Tree" (H.length + K.length), .list [.str "document"], .list [.str ""], .list [.str ""], .list [.ref (H.length + (K.length + 10))], .list [.str ""], .list [.int (-1)], .list [.ref (H.length + (K.length + 11))], .dict [], .list [], .list []]))) :
    wE (d + 2) (.call "Tree" .nil) ρ (H ++ K) Q' := by
  ((with_reducible refine be_call (bes_nil ?_)); simp only [c_i2])
  have e : (H ++ K) ++ [AO.fields []] ++ [AO.inst "Tree" (H ++ K).length] = (H ++ K) ++ [AO.fields [], AO.inst "Tree" (H ++ K).length] := by simp
  rw [e]
  refine c_Tree ⟨rfl, ?_⟩
  simp only [List.length_append, Nat.add_assoc, aK]
  exact q
theorem eStack {H K : AH} {d : Nat} {ρ : AE} {c t : String} {fs : List (String × AV)} {j dj tj : Nat} (hc : c = "OpenStack" ∨ c = "Formatting") (h1 : K[j]? = some (.inst "Builder" (H.length + dj))) (h2 : K[dj]? = some (.fields fs)) (h4 : fs.lookup "tree" = some (.ref (H.length + tj))) (hx : ρ.lookup "self" = some (.ref (H.length + j)))
    (Q' : AV → AH → Prop) (q : Q' (.ref (H.length + (K.length + 1))) (H ++ (K ++ [.fields [("tree", .ref (H.length + tj)), ("items", .ref (H.length + (K.length + 2)))], .inst c (H.length + K.length), .list []]))) :
    wE (d + 1) (.call c (.cons (.attr (.var "self") "tree") .nil)) ρ (H ++ K) Q' := by
  have body : ∀ (c : String), "tree" ∈ attrsOf c → "items" ∈ attrsOf c → (Q' (.ref (H.length + (K.length + 1))) (H ++ (K ++ [.fields [("tree", .ref (H.length + tj)), ("items", .ref (H.length + (K.length + 2)))], .inst c (H.length + K.length), .list []]))) →
      wSs d (.cons (.setattr (.var "self") "tree" (.var "tree")) (.cons (.setattr (.var "self") "items" (.lst .nil)) .nil)) [("tree", .ref (H.length + tj)), ("self", .ref ((H ++ K).length + 1))] (H ++ K ++ [AO.fields []] ++ [AO.inst c (H ++ K).length]) (fun f x H_1 => resA f = AV.none ∧ Q' (AV.ref ((H ++ K).length + 1)) H_1) := by
    intro c m1 m2 q
    have e : (H ++ K) ++ [AO.fields []] ++ [AO.inst c (H ++ K).length] = (H ++ K) ++ [AO.fields [], AO.inst c (H ++ K).length] := by simp
    rw [e]
    refine st_set (H := H ++ K) (j := 1) (dj := 0) rfl (eV rfl) rfl rfl m1 (Nat.le_of_ble_eq_true rfl) ?_
    simp only [setF, List.set_cons_zero]
    refine st_set (H := H ++ K) (j := 1) (dj := 0) rfl eLst rfl rfl m2 (Nat.le_of_ble_eq_true rfl) ?_
    (first | dsimp only [setF, String.reduceBEq, cond_true, cond_false, List.set_cons_zero, List.set_cons_succ, List.cons_append, List.nil_append, List.length_cons, List.length_nil, Nat.reduceAdd] | skip) <;> (try simp only [List.length_append, Nat.add_assoc, aK])
    ((with_reducible refine bwSs_nil ?_); simp only [true_and, eq_self, resA_next])
    exact q
  rcases hc with rfl | rfl
  · ((with_reducible refine be_call (bes_cons (be_attr ?_))); (with_reducible refine bvar (by assumption) ?_); (with_reducible refine battr (attr_of (f := "tree") (gK.trans h1) (gK.trans h2) (by decide) h4) ?_); (with_reducible refine bkEs1_nil ?_); simp only [c_i3, attr_of (f := "tree") (gK.trans h1) (gK.trans h2) (by decide) h4])
    refine WC_of rfl ?_
    exact body "OpenStack" (by decide) (by decide) q
  · ((with_reducible refine be_call (bes_cons (be_attr ?_))); (with_reducible refine bvar (by assumption) ?_); (with_reducible refine battr (attr_of (f := "tree") (gK.trans h1) (gK.trans h2) (by decide) h4) ?_); (with_reducible refine bkEs1_nil ?_); simp only [c_i4, attr_of (f := "tree") (gK.trans h1) (gK.trans h2) (by decide) h4])
    refine WC_of rfl ?_
    exact body "Formatting" (by decide) (by decide) q

theorem c_Builder {H : AH} {R : List (Nat × AO)} {Q : AV → AH → Prop} {d : Nat} {ρ : AE} (S : Sat H R) (q : ∀ H', Sat H' (allD H.length (T0 H.length) false [] R) → Q (.ref (H.length + 2)) H') : wE (d + 3) (.call "Builder" (.cons .dict0 .nil)) ρ H Q := by
  ((with_reducible refine be_call (bes_cons (be_dict0 (bkEs1_nil ?_)))); simp only [c_i1])
  have e : H ++ [AO.dict []] ++ [AO.fields []] ++ [AO.inst "Builder" (H ++ [AO.dict []]).length] = H ++ [AO.dict [], AO.fields [], AO.inst "Builder" (H.length + 1)] := by simp
  have e2 : (H ++ [AO.dict []]).length + 1 = H.length + 2 := by simp
  rw [e, e2]
  refine wc_of (ρ := [("is_scripting", .bool false), ("rules", .ref H.length), ("self", .ref (H.length + 2))]) rfl ?_
  unfold f_Builder_init
  dsimp only
  refine st_set (j := 2) (dj := 1) rfl (eV rfl) rfl rfl (by decide) (Nat.le_of_ble_eq_true rfl) ?_
  (first | dsimp only [setF, String.reduceBEq, cond_true, cond_false, List.set_cons_zero, List.set_cons_succ, List.cons_append, List.nil_append, List.length_cons, List.length_nil, Nat.reduceAdd] | skip) <;> (try simp only [List.length_append, List.length_cons, List.length_nil, Nat.add_assoc, Nat.zero_add, Nat.add_zero, Nat.reduceAdd, aK])
  refine st_set (j := 2) (dj := 1) rfl eTree rfl rfl (by decide) (Nat.le_of_ble_eq_true rfl) ?_
  (first | dsimp only [setF, String.reduceBEq, cond_true, cond_false, List.set_cons_zero, List.set_cons_succ, List.cons_append, List.nil_append, List.length_cons, List.length_nil, Nat.reduceAdd] | skip) <;> (try simp only [List.length_append, List.length_cons, List.length_nil, Nat.add_assoc, Nat.zero_add, Nat.add_zero, Nat.reduceAdd, aK])
  refine st_set (j := 2) (dj := 1) rfl (eStack (j := 2) (dj := 1) (t := "") (.inl rfl) rfl rfl rfl rfl) rfl rfl (by decide) (Nat.le_of_ble_eq_true rfl) ?_
  (first | dsimp only [setF, String.reduceBEq, cond_true, cond_false, List.set_cons_zero, List.set_cons_succ, List.cons_append, List.nil_append, List.length_cons, List.length_nil, Nat.reduceAdd] | skip) <;> (try simp only [List.length_append, List.length_cons, List.length_nil, Nat.add_assoc, Nat.zero_add, Nat.add_zero, Nat.reduceAdd, aK])
  refine st_set (j := 2) (dj := 1) rfl (eStack (j := 2) (dj := 1) (t := "") (.inr rfl) rfl rfl rfl rfl) rfl rfl (by decide) (Nat.le_of_ble_eq_true rfl) ?_
  (first | dsimp only [setF, String.reduceBEq, cond_true, cond_false, List.set_cons_zero, List.set_cons_succ, List.cons_append, List.nil_append, List.length_cons, List.length_nil, Nat.reduceAdd] | skip) <;> (try simp only [List.length_append, List.length_cons, List.length_nil, Nat.add_assoc, Nat.zero_add, Nat.add_zero, Nat.reduceAdd, aK])
  refine st_set (j := 2) (dj := 1) rfl eStr rfl rfl (by decide) (Nat.le_of_ble_eq_true rfl) ?_
  (first | dsimp only [setF, String.reduceBEq, cond_true, cond_false, List.set_cons_zero, List.set_cons_succ, List.cons_append, List.nil_append, List.length_cons, List.length_nil, Nat.reduceAdd] | skip) <;> (try simp only [List.length_append, List.length_cons, List.length_nil, Nat.add_assoc, Nat.zero_add, Nat.add_zero, Nat.reduceAdd, aK])
  refine st_set (j := 2) (dj := 1) rfl eStr rfl rfl (by decide) (Nat.le_of_ble_eq_true rfl) ?_
  (first | dsimp only [setF, String.reduceBEq, cond_true, cond_false, List.set_cons_zero, List.set_cons_succ, List.cons_append, List.nil_append, List.length_cons, List.length_nil, Nat.reduceAdd] | skip) <;> (try simp only [List.length_append, List.length_cons, List.length_nil, Nat.add_assoc, Nat.zero_add, Nat.add_zero, Nat.reduceAdd, aK])
  refine st_set (j := 2) (dj := 1) rfl eLst rfl rfl (by decide) (Nat.le_of_ble_eq_true rfl) ?_
  (first | dsimp only [setF, String.reduceBEq, cond_true, cond_false, List.set_cons_zero, List.set_cons_succ, List.cons_append, List.nil_append, List.length_cons, List.length_nil, Nat.reduceAdd] | skip) <;> (try simp only [List.length_append, List.length_cons, List.length_nil, Nat.add_assoc, Nat.zero_add, Nat.add_zero, Nat.reduceAdd, aK])
  refine st_set (j := 2) (dj := 1) rfl eNeg rfl rfl (by decide) (Nat.le_of_ble_eq_true rfl) ?_
  (first | dsimp only [setF, String.reduceBEq, cond_true, cond_false, List.set_cons_zero, List.set_cons_succ, List.cons_append, List.nil_append, List.length_cons, List.length_nil, Nat.reduceAdd] | skip) <;> (try simp only [List.length_append, List.length_cons, List.length_nil, Nat.add_assoc, Nat.zero_add, Nat.add_zero, Nat.reduceAdd, aK])
  refine st_set (j := 2) (dj := 1) rfl eNeg rfl rfl (by decide) (Nat.le_of_ble_eq_true rfl) ?_
  (first | dsimp only [setF, String.reduceBEq, cond_true, cond_false, List.set_cons_zero, List.set_cons_succ, List.cons_append, List.nil_append, List.length_cons, List.length_nil, Nat.reduceAdd] | skip) <;> (try simp only [List.length_append, List.length_cons, List.length_nil, Nat.add_assoc, Nat.zero_add, Nat.add_zero, Nat.reduceAdd, aK])
  refine st_set (j := 2) (dj := 1) rfl eDict rfl rfl (by decide) (Nat.le_of_ble_eq_true rfl) ?_
  (first | dsimp only [setF, String.reduceBEq, cond_true, cond_false, List.set_cons_zero, List.set_cons_succ, List.cons_append, List.nil_append, List.length_cons, List.length_nil, Nat.reduceAdd] | skip) <;> (try simp only [List.length_append, List.length_cons, List.length_nil, Nat.add_assoc, Nat.zero_add, Nat.add_zero, Nat.reduceAdd, aK])
  refine st_set (j := 2) (dj := 1) rfl eBool rfl rfl (by decide) (Nat.le_of_ble_eq_true rfl) ?_
  (first | dsimp only [setF, String.reduceBEq, cond_true, cond_false, List.set_cons_zero, List.set_cons_succ, List.cons_append, List.nil_append, List.length_cons, List.length_nil, Nat.reduceAdd] | skip) <;> (try simp only [List.length_append, List.length_cons, List.length_nil, Nat.add_assoc, Nat.zero_add, Nat.add_zero, Nat.reduceAdd, aK])
  refine st_set (j := 2) (dj := 1) rfl (eV rfl) rfl rfl (by decide) (Nat.le_of_ble_eq_true rfl) ?_
  (first | dsimp only [setF, String.reduceBEq, cond_true, cond_false, List.set_cons_zero, List.set_cons_succ, List.cons_append, List.nil_append, List.length_cons, List.length_nil, Nat.reduceAdd] | skip) <;> (try simp only [List.length_append, List.length_cons, List.length_nil, Nat.add_assoc, Nat.zero_add, Nat.add_zero, Nat.reduceAdd, aK])
  refine st_set (j := 2) (dj := 1) rfl eBool rfl rfl (by decide) (Nat.le_of_ble_eq_true rfl) ?_
  (first | dsimp only [setF, String.reduceBEq, cond_true, cond_false, List.set_cons_zero, List.set_cons_succ, List.cons_append, List.nil_append, List.length_cons, List.length_nil, Nat.reduceAdd] | skip) <;> (try simp only [List.length_append, List.length_cons, List.length_nil, Nat.add_assoc, Nat.zero_add, Nat.add_zero, Nat.reduceAdd, aK])
  refine st_set (j := 2) (dj := 1) rfl eNeg rfl rfl (by decide) (Nat.le_of_ble_eq_true rfl) ?_
  (first | dsimp only [setF, String.reduceBEq, cond_true, cond_false, List.set_cons_zero, List.set_cons_succ, List.cons_append, List.nil_append, List.length_cons, List.length_nil, Nat.reduceAdd] | skip) <;> (try simp only [List.length_append, List.length_cons, List.length_nil, Nat.add_assoc, Nat.zero_add, Nat.add_zero, Nat.reduceAdd, aK])
  refine st_set (j := 2) (dj := 1) rfl eStr rfl rfl (by decide) (Nat.le_of_ble_eq_true rfl) ?_
  (first | dsimp only [setF, String.reduceBEq, cond_true, cond_false, List.set_cons_zero, List.set_cons_succ, List.cons_append, List.nil_append, List.length_cons, List.length_nil, Nat.reduceAdd] | skip) <;> (try simp only [List.length_append, List.length_cons, List.length_nil, Nat.add_assoc, Nat.zero_add, Nat.add_zero, Nat.reduceAdd, aK])
  refine st_set (j := 2) (dj := 1) rfl eLst rfl rfl (by decide) (Nat.le_of_ble_eq_true rfl) ?_
  (first | dsimp only [setF, String.reduceBEq, cond_true, cond_false, List.set_cons_zero, List.set_cons_succ, List.cons_append, List.nil_append, List.length_cons, List.length_nil, Nat.reduceAdd] | skip) <;> (try simp only [List.length_append, List.length_cons, List.length_nil, Nat.add_assoc, Nat.zero_add, Nat.add_zero, Nat.reduceAdd, aK])
  refine st_set (j := 2) (dj := 1) rfl eLst rfl rfl (by decide) (Nat.le_of_ble_eq_true rfl) ?_
  (first | dsimp only [setF, String.reduceBEq, cond_true, cond_false, List.set_cons_zero, List.set_cons_succ, List.cons_append, List.nil_append, List.length_cons, List.length_nil, Nat.reduceAdd] | skip) <;> (try simp only [List.length_append, List.length_cons, List.length_nil, Nat.add_assoc, Nat.zero_add, Nat.add_zero, Nat.reduceAdd, aK])
  refine st_set (j := 2) (dj := 1) rfl eStr rfl rfl (by decide) (Nat.le_of_ble_eq_true rfl) ?_
  (first | dsimp only [setF, String.reduceBEq, cond_true, cond_false, List.set_cons_zero, List.set_cons_succ, List.cons_append, List.nil_append, List.length_cons, List.length_nil, Nat.reduceAdd] | skip) <;> (try simp only [List.length_append, List.length_cons, List.length_nil, Nat.add_assoc, Nat.zero_add, Nat.add_zero, Nat.reduceAdd, aK])
  refine st_set (j := 2) (dj := 1) rfl eBool rfl rfl (by decide) (Nat.le_of_ble_eq_true rfl) ?_
  (first | dsimp only [setF, String.reduceBEq, cond_true, cond_false, List.set_cons_zero, List.set_cons_succ, List.cons_append, List.nil_append, List.length_cons, List.length_nil, Nat.reduceAdd] | skip) <;> (try simp only [List.length_append, List.length_cons, List.length_nil, Nat.add_assoc, Nat.zero_add, Nat.add_zero, Nat.reduceAdd, aK])
  refine st_set (j := 2) (dj := 1) rfl eBool rfl rfl (by decide) (Nat.le_of_ble_eq_true rfl) ?_
  (first | dsimp only [setF, String.reduceBEq, cond_true, cond_false, List.set_cons_zero, List.set_cons_succ, List.cons_append, List.nil_append, List.length_cons, List.length_nil, Nat.reduceAdd] | skip) <;> (try simp only [List.length_append, List.length_cons, List.length_nil, Nat.add_assoc, Nat.zero_add, Nat.add_zero, Nat.reduceAdd, aK])
  refine st_set (j := 2) (dj := 1) rfl eBool rfl rfl (by decide) (Nat.le_of_ble_eq_true rfl) ?_
  (first | dsimp only [setF, String.reduceBEq, cond_true, cond_false, List.set_cons_zero, List.set_cons_succ, List.cons_append, List.nil_append, List.length_cons, List.length_nil, Nat.reduceAdd] | skip) <;> (try simp only [List.length_append, List.length_cons, List.length_nil, Nat.add_assoc, Nat.zero_add, Nat.add_zero, Nat.reduceAdd, aK])
  ((with_reducible refine bwSs_nil (bkFn_n ?_)); simp only [Int.reduceNeg, eq_self]; simp only [Int.reduceNeg, true_and])
  refine q _ ?_
  have hassoc : allD H.length (T0 H.length) false [] R = (treeD H.length (T0 H.length) ++ bldD H.length false []) ++ R := (List.append_assoc ..).symm
  rw [hassoc]
  exact Sat_newJ (js := [(4, .inst "Tree" (H.length + 3)), (3, .fields (treeFs H.length)), (5, .list (sV ["document"])), (6, .list (sV [""])), (7, .list (sV [""])), (8, .list (rV [H.length + 13])), (9, .list (sV [""])), (10, .list (iV [-1])), (11, .list (chRefs [(H.length + 14, [])])), (12, .dict (contD [])), (13, .list []), (14, .list (iV [])), (2, .inst "Builder" (H.length + 1)), (1, .fields (bldFs H.length false)), (16, .inst "OpenStack" (H.length + 15)), (15, .fields [("tree", .ref (H.length + 4)), ("items", .ref (H.length + 17))]), (17, .list (iV [])), (23, .list [])]) S
    ⟨rfl, rfl, rfl, rfl, rfl, rfl, rfl, rfl, rfl, rfl, rfl, rfl, rfl, rfl, rfl, rfl, rfl, rfl, trivial⟩ (show [4, 3, 5, 6, 7, 8, 9, 10, 11, 12, 13, 14, 2, 1, 16, 15, 17, 23].Nodup by decide)
end Mine
end
section
set_option maxRecDepth 100000
namespace Mine
/-- the tree grows by texts and comments -/
structure Ex (T T' : Tr) (m : Nat) : Prop where
  kinds : T'.kinds.length = T.kinds.length + m
  names : T'.names = T.names ++ List.replicate m ""
  spaces : T'.spaces = T.spaces ++ List.replicate m ""
  par : ∀ y, Ok T y → gi T'.parents y = gi T.parents y
  cont : T'.cont = T.cont
section
variable {B : Nat} {T T' T2 : Tr} {m m2 : Nat} {line : List Int} {named : List (Int × String)} {ups : List (Int × Int)}
theorem Ex.refl : Ex T T 0 := ⟨rfl, by simp, by simp, fun _ _ => rfl, rfl⟩
theorem Ex.ok (E : Ex T T' m) {y : Int} (o : Ok T y) : Ok T' y := ⟨o.1, by have := E.kinds; have := o.2; lia⟩
theorem Ex.trans (E : Ex T T' m) (F : Ex T' T2 m2) : Ex T T2 (m + m2) :=
  ⟨by rw [F.kinds, E.kinds]; lia, by rw [F.names, E.names, List.append_assoc, ← List.replicate_append_replicate], by rw [F.spaces, E.spaces, List.append_assoc, ← List.replicate_append_replicate], fun y o => (F.par y (E.ok o)).trans (E.par y o), F.cont.trans E.cont⟩
theorem Ex.put {k t : String} {p b : Int} {r1 r2 : Nat} (L : Ln B T) : Ex T (T.put k t p b r1 r2) 1 :=
  ⟨add_len (k := k) (s := "") (n := "") (t := t) (r1 := r1) (r2 := r2), rfl, rfl, fun y o => put_par L o, rfl⟩
theorem Ex.sign {t : String} {p b : Int} {r1 r2 : Nat} (L : Ln B T) : ∃ m, m ≤ 1 ∧ Ex T (T.sign t p b r1 r2) m := by
  unfold Tr.sign
  split
  · exact ⟨0, by lia, .refl⟩
  · split
    · exact ⟨0, by lia, ⟨rfl, by simp, by simp, fun _ _ => rfl, rfl⟩⟩
    · exact ⟨1, by lia, .put L⟩
theorem gs_app {l m : List String} {x : Int} (h0 : 0 ≤ x) (h1 : x < l.length) : gs (l ++ m) x = gs l x := gs_l h0 h1
theorem Scn.ex (C : Scn B T line named ups) (E : Ex T T' m) {B' : Nat} (hB : B ≤ B') (I' : Inv B' T') : Scn B' T' line named ups := by
  have L := C.inv.ln
  have en : ∀ y ∈ line, gs T'.names y = gs T.names y := fun y hy => by
    rw [E.names]; exact gs_l (C.ok y hy).1 (by rw [L.names]; exact (C.ok y hy).2)
  have es : ∀ y ∈ line, gs T'.spaces y = gs T.spaces y := fun y hy => by
    rw [E.spaces]; exact gs_l (C.ok y hy).1 (by rw [L.spaces]; exact (C.ok y hy).2)
  exact ⟨I', C.pos, by have := C.len; lia, fun y hy => E.ok (C.ok y hy), fun y hy => by rw [en y hy, es y hy]; exact C.nm y hy, fun y hy => by rw [E.par y (C.ok y hy)]; exact C.up y hy, by rw [en _ C.mem0]; exact C.root, by have := C.nl; lia, by have := C.ul; lia⟩
end

/-! equality -/
section
variable {H : AH} {n : Nat}
theorem aeqL_sV (l : List String) : aeqL (aeq (n + 1) H) (sV l) (sV l) = some true := by
  induction l with
  | nil => rfl
  | cons a r ih =>
    show (match aeq (n + 1) H (.str a) (.str a), aeqL (aeq (n + 1) H) (sV r) (sV r) with | some a, some b => some (a && b) | _, _ => Option.none) = _
    rw [ih]; simp [aeq]
theorem aeqL_iV (l : List Int) : aeqL (aeq (n + 1) H) (iV l) (iV l) = some true := by
  induction l with
  | nil => rfl
  | cons a r ih =>
    show (match aeq (n + 1) H (.int a) (.int a), aeqL (aeq (n + 1) H) (iV r) (iV r) with | some a, some b => some (a && b) | _, _ => Option.none) = _
    rw [ih]; simp [aeq]
theorem aeq_list {a b : Nat} {xs ys : List AV} (h : H[a]? = some (.list xs)) (h' : H[b]? = some (.list ys)) (hl : xs.length = ys.length) (e : aeqL (aeq n H) xs ys = some true) : aeq (n + 1) H (.ref a) (.ref b) = some true := by
  unfold aeq; simp only [h, h']; rw [if_pos hl]; exact e
theorem aeq_sV {a b : Nat} {l : List String} (h : H[a]? = some (.list (sV l))) (h' : H[b]? = some (.list (sV l))) : aeq (n + 2) H (.ref a) (.ref b) = some true := aeq_list h h' rfl (aeqL_sV l)
theorem aeq_iV {a b : Nat} {l : List Int} (h : H[a]? = some (.list (iV l))) (h' : H[b]? = some (.list (iV l))) : aeq (n + 2) H (.ref a) (.ref b) = some true := aeq_list h h' rfl (aeqL_iV l)
theorem aeqL_ch : ∀ (l m : List (Nat × List Int)), l.map (·.2) = m.map (·.2) → (∀ p ∈ l, H[p.1]? = some (.list (iV p.2))) → (∀ p ∈ m, H[p.1]? = some (.list (iV p.2))) → aeqL (aeq (n + 2) H) (chRefs l) (chRefs m) = some true
  | [], [], _, _, _ => rfl
  | [], _ :: _, e, _, _ => by cases e
  | _ :: _, [], e, _, _ => by cases e
  | a :: r, b :: s, e, h1, h2 => by
    rw [List.map_cons, List.map_cons] at e
    have e1 : a.2 = b.2 := (List.cons.inj e).1
    have ha := h1 a List.mem_cons_self
    have hb := h2 b List.mem_cons_self
    rw [← e1] at hb
    have x1 := aeq_iV (n := n) ha hb
    have x2 := aeqL_ch r s (List.cons.inj e).2 (fun p hp => h1 p (List.mem_cons_of_mem _ hp)) (fun p hp => h2 p (List.mem_cons_of_mem _ hp))
    show (match aeq (n + 2) H (.ref a.1) (.ref b.1), aeqL (aeq (n + 2) H) (chRefs r) (chRefs s) with | some a, some b => some (a && b) | _, _ => Option.none) = _
    rw [x1, x2]; rfl
theorem aeqL_ar : ∀ (l m : List Nat), l.length = m.length → (∀ p ∈ l, H[p]? = some (.list [])) → (∀ p ∈ m, H[p]? = some (.list [])) → aeqL (aeq (n + 1) H) (rV l) (rV m) = some true
  | [], [], _, _, _ => rfl
  | [], _ :: _, e, _, _ => by cases e
  | _ :: _, [], e, _, _ => by cases e
  | a :: r, b :: s, e, h1, h2 => by
    have x1 : aeq (n + 1) H (.ref a) (.ref b) = some true := aeq_list (h1 a List.mem_cons_self) (h2 b List.mem_cons_self) rfl rfl
    have x2 := aeqL_ar r s (by simpa using e) (fun p hp => h1 p (List.mem_cons_of_mem _ hp)) (fun p hp => h2 p (List.mem_cons_of_mem _ hp))
    show (match aeq (n + 1) H (.ref a) (.ref b), aeqL (aeq (n + 1) H) (rV r) (rV s) with | some a, some b => some (a && b) | _, _ => Option.none) = _
    rw [x1, x2]; rfl
theorem nodup_lookup : ∀ {l : List (Int × Int)} {k v : Int}, (l.map (·.1)).Nodup → (k, v) ∈ l → l.lookup k = some v
  | [], _, _, _, h => by cases h
  | (a, b) :: r, k, v, nd, h => by
    rw [List.map_cons, List.nodup_cons] at nd
    rcases List.mem_cons.mp h with e | e
    · cases e; simp [List.lookup_cons]
    · have : k ≠ a := fun q => nd.1 (q ▸ List.mem_map_of_mem (f := (·.1)) e)
      rw [List.lookup_cons, beq_eq_false_iff_ne.mpr this]
      exact nodup_lookup nd.2 e
theorem aeqD_self (l : List (Int × Int)) (nd : (l.map (·.1)).Nodup) : ∀ r : List (Int × Int), (∀ p ∈ r, p ∈ l) → aeqD (aeq (n + 1) H) (contD l) (contD r) = some true
  | [], _ => rfl
  | (k, v) :: r, h => by
    have x := aeqD_self l nd r fun p hp => h p (List.mem_cons_of_mem _ hp)
    have e : (contD l).lookup k = some (.int v) := by rw [lookup_contD, nodup_lookup nd (h (k, v) List.mem_cons_self)]; rfl
    show aeqD (aeq (n + 1) H) (contD l) ((k, AV.int v) :: contD r) = _
    unfold aeqD
    simp only [e, x]
    simp [aeq]
theorem aeq_contD {a b : Nat} {l : List (Int × Int)} (h : H[a]? = some (.dict (contD l))) (h' : H[b]? = some (.dict (contD l))) (nd : (l.map (·.1)).Nodup) : aeq (n + 2) H (.ref a) (.ref b) = some true := by
  unfold aeq; simp only [h, h', if_true]
  exact aeqD_self l nd l fun _ h => h
theorem aeq_tup {xs ys : List AV} (e : aeqL (aeq n H) xs ys = some true) : aeq (n + 1) H (.tup xs) (.tup ys) = some true := by
  unfold aeq; simp only [e]
theorem aeqL_cons {a b : AV} {xs ys : List AV} (h : aeq n H a b = some true) (e : aeqL (aeq n H) xs ys = some true) : aeqL (aeq n H) (a :: xs) (b :: ys) = some true := by
  unfold aeqL; simp only [h, e]; rfl
theorem aeqL_nil : aeqL (aeq n H) [] [] = some true := rfl
theorem ne_of {a b : AV} (h : aeq 6 H a b = some true) : cmpA H .NotEq a b = some false := by
  show (aeq 6 H a b).map (!·) = _; rw [h]; rfl
theorem eq_of {a b : AV} (h : aeq 6 H a b = some true) : cmpA H .Eq a b = some true := h
theorem ne_tup2 {a b : Int} : cmpA H .NotEq (.tup [.int a, .int b]) (.tup [.int a, .int b]) = some false := by
  exact ne_of (aeq_tup (n := 5) (aeqL_iV (n := 4) (H := H) [a, b]))
theorem cat_sl {a b : Nat} {l m : List String} (h : H[a]? = some (.list (sV l))) (h' : H[b]? = some (.list (sV m))) (h2 : l.length + m.length ≤ lim) : binA H .Add (.ref a) (.ref b) = some (.ref H.length, H ++ [.list (sV (l ++ m))]) := by
  unfold binA; simp only [h, h']
  rw [if_pos (by rw [List.length_map, List.length_map]; exact h2)]
  simp only [List.map_append]
theorem cat_rl {a b : Nat} {l m : List Nat} (h : H[a]? = some (.list (rV l))) (h' : H[b]? = some (.list (rV m))) (h2 : l.length + m.length ≤ lim) : binA H .Add (.ref a) (.ref b) = some (.ref H.length, H ++ [.list (rV (l ++ m))]) := by
  unfold binA; simp only [h, h']
  rw [if_pos (by rw [List.length_map, List.length_map]; exact h2)]
  simp only [List.map_append]
theorem mul_s {a : Nat} {s : String} {m : Nat} (h : H[a]? = some (.list [.str s])) (hm : m ≤ lim) : binA H .Mult (.ref a) (.int (m : Int)) = some (.ref H.length, H ++ [.list (sV (List.replicate m s))]) := by
  unfold binA; simp only [h]
  rw [if_pos ⟨by lia, by lia⟩, Int.toNat_natCast]
  simp only [List.map_replicate]
theorem mul_r {a : Nat} {s : Nat} {m : Nat} (h : H[a]? = some (.list [.ref s])) (hm : m ≤ lim) : binA H .Mult (.ref a) (.int (m : Int)) = some (.ref H.length, H ++ [.list (rV (List.replicate m s))]) := by
  unfold binA; simp only [h]
  rw [if_pos ⟨by lia, by lia⟩, Int.toNat_natCast]
  simp only [List.map_replicate]
theorem listOf_ref {a : Nat} {xs : List AV} (h : H[a]? = some (.list xs)) (hl : xs.length ≤ lim) : listOf H [.ref a] = some (.ref H.length, H ++ [.list xs]) := by
  unfold listOf; simp only [h]; rw [if_pos hl]
end

/-! the copies -/
section
variable {H : AH} {A : List (Nat × AO)} {k0 k1 k2 k3 : Nat} {K : Kp} {d : Nat}
theorem w_chl (S : Sat H (A ++ keptD k0 k1 k2 k3 K)) (l : List Int) : Sat ((H ++ [AO.list (iV l)]).set k3 (.list (chRefs (K.ch ++ [(H.length, l)])))) (A ++ keptD k0 k1 k2 k3 { K with ch := K.ch ++ [(H.length, l)] }) := by
  have S0 := S.pushE (AO.list (iV l))
  have e0 : (A ++ keptD k0 k1 k2 k3 K) ++ [(H.length, AO.list (iV l))] = A ++ (keptF k0 k1 k2 k3 K ++ (chD K.ch ++ [(H.length, AO.list (iV l))])) := by
    unfold keptD; simp only [List.append_assoc]
  rw [e0] at S0
  have S1 : Sat ((H ++ [AO.list (iV l)]).set k3 (.list (chRefs (K.ch ++ [(H.length, l)])))) (A ++ (keptF k0 k1 k2 k3 { K with ch := K.ch ++ [(H.length, l)] } ++ (chD K.ch ++ [(H.length, AO.list (iV l))]))) :=
    S0.setR 3 (.list (chRefs (K.ch ++ [(H.length, l)]))) rfl
  have e1 : chD (K.ch ++ [(H.length, l)]) = chD K.ch ++ [(H.length, AO.list (iV l))] := by simp only [List.map_append, List.map_cons, List.map_nil]
  unfold keptD
  dsimp only
  rw [e1]; exact S1
theorem ap_mr {a : Nat} {l : List (Nat × List Int)} {s : Nat} {m : List Int} (h : H[a]? = some (.list (chRefs l))) (h2 : l.length ≤ lim) : methA H a "append" [.ref s] = some (.none, H.set a (.list (chRefs (l ++ [(s, m)])))) := by
  unfold methA; simp only [h]; rw [if_pos (by rw [List.length_map]; exact h2)]
  simp only [List.map_append, List.map_cons, List.map_nil]
theorem ap_mr' {a : Nat} {l : List Nat} {s : Nat} (h : H[a]? = some (.list (rV l))) (h2 : l.length ≤ lim) : methA H a "append" [.ref s] = some (.none, H.set a (.list (rV (l ++ [s])))) := by
  unfold methA; simp only [h]; rw [if_pos (by rw [List.length_map]; exact h2)]
  simp only [List.map_append, List.map_cons, List.map_nil]

/-- [list(each) for each in children] -/
theorem comp_ch {a : Nat} {src : List (Nat × List Int)} {Q : AV → AH → Prop} (ha : ∀ H K, Sat H (A ++ keptD k0 k1 k2 k3 K) → H[a]? = some (.list (chRefs src)) ∧ ∀ p ∈ src, H[p.1]? = some (.list (iV p.2))) (hsl : src.length ≤ 1000) (hle : ∀ p ∈ src, p.2.length ≤ 1000) :
    ∀ (n i : Nat) (done : List (Nat × List Int)) H, i + n = src.length → done.map (·.2) = (src.take i).map (·.2) → Sat H (A ++ keptD k0 k1 k2 k3 { K with ch := done }) →
      (∀ H' done', done'.map (·.2) = src.map (·.2) → Sat H' (A ++ keptD k0 k1 k2 k3 { K with ch := done' }) → Q (.ref k3) H') →
      XCl d [] (.call "list" (.cons (.var "each") .nil)) "each" .absent k3 a (n + 1) i H Q := by
  intro n
  induction n with
  | zero =>
    intro i done H hi hd S q
    obtain ⟨h1, h2⟩ := ha H _ S
    have e : i = src.length := by lia
    subst e
    refine XCl_nil h1 (by simp) (q H done ?_ S)
    rw [hd, List.take_length]
  | succ n ih =>
    intro i done H hi hd S q
    obtain ⟨h1, h2⟩ := ha H _ S
    have hil : i < src.length := by lia
    have hg : src[i]? = some src[i] := List.getElem?_eq_getElem hil
    have hm := h2 _ (List.getElem_mem hil)
    have := lim_ge
    have hlen : (iV src[i].2).length ≤ lim := by rw [List.length_map]; have := hle _ (List.getElem_mem hil); lia
    refine XCl_cons h1 (v := .ref src[i].1) (by rw [List.getElem?_map, hg]; rfl) (ct_plain ?_)
    have S' := S.keep [.list (iV src[i].2)]
    have hdl : done.length ≤ 1000 := by
      have := congrArg List.length hd
      rw [List.length_map, List.length_map, List.length_take] at this; lia
    ((try have ff1 := ap_mr (m := src[i].2) (q_children S') (by dsimp only; lia)); (with_reducible refine be_call (bes_cons ?_)); refine bvar rfl ?_; (with_reducible refine bkEs1_nil (bc_list ?_)); (with_reducible refine boptr (listOf_ref hm hlen) ?_); simp only [opt_some, kAp_eq, listOf_ref hm hlen, ap_mr (m := src[i].2) (q_children S') (by dsimp only; lia)]; (try clear ff1))
    refine ih (i + 1) (done ++ [(H.length, src[i].2)]) _ (by lia) ?_ (w_chl S src[i].2) q
    rw [List.take_add_one, hg, List.map_append, List.map_append, hd]; rfl
end
end Mine
end
section
set_option maxRecDepth 100000
namespace Mine
noncomputable def Same (xs : List String) (ρ ρ' : AE) : Prop := ∀ x, x ∉ xs → ρ'.lookup x = ρ.lookup x
theorem Same.refl {xs : List String} {ρ : AE} : Same xs ρ ρ := fun _ _ => rfl
theorem Same.trans {xs : List String} {ρ ρ' ρ'' : AE} (a : Same xs ρ ρ') (b : Same xs ρ' ρ'') : Same xs ρ ρ'' := fun x h => (b x h).trans (a x h)
theorem Same.set {xs : List String} {ρ : AE} {x : String} {v : AV} (h : x ∈ xs) : Same xs ρ ((x, v) :: ρ) := fun y hy => by
  have : y ≠ x := fun e => hy (e ▸ h)
  rw [List.lookup_cons, beq_eq_false_iff_ne.mpr this]
theorem Same.get {xs : List String} {ρ ρ' : AE} (a : Same xs ρ ρ') {x : String} {v : AV} (hx : x ∉ xs) (h : ρ.lookup x = some v) : ρ'.lookup x = some v := (a x hx).trans h

section
variable {H : AH} {h : Nat} {T : Tr} {f : Bool} {line : List Int} {M : List (Nat × AO)} {Q : AF → AE → AH → Prop} {d B : Nat} {ln nm up wr sl : Nat} {named : List (Int × String)} {ups : List (Int × Int)}
noncomputable abbrev SD (h : Nat) (T : Tr) (f : Bool) (line : List Int) (ln nm up wr : Nat) (named : List (Int × String)) (ups : List (Int × Int)) (M : List (Nat × AO)) : List (Nat × AO) := allD h T f line (factD ln nm up wr line named ups T.cont ++ M)
theorem mem_M {p : Nat × AO} (hp : p ∈ M) : p ∈ SD h T f line ln nm up wr named ups M := List.mem_append_right _ (List.mem_append_right _ (List.mem_append_right _ hp))
theorem mem_F {p : Nat × AO} (hp : p ∈ factD ln nm up wr line named ups T.cont) : p ∈ SD h T f line ln nm up wr named ups M := List.mem_append_right _ (List.mem_append_right _ (List.mem_append_left _ hp))

theorem grow_loop {ds : List Int} {side : Int} (hM : (sl, .list (iV ds)) ∈ M) (hB : B + 10 * ds.length < 980) :
    ∀ (n i : Nat) (T : Tr) (line : List Int) (named : List (Int × String)) (ups : List (Int × Int)) (H : AH) (ρ : AE), i + n = ds.length → ρ.lookup "builder" = some (.ref (h + 2)) → ρ.lookup "facts" = some (.tup [.ref ln, .ref nm, .ref up, .ref wr]) → ρ.lookup "side" = some (.int side) →
      Sat H (SD h T false line ln nm up wr named ups M) → Scn (B + 10 * i) T line named ups → Ok T side → (T.cont.map (·.1)).Nodup →
      (∀ H' T' line' named' ups' ρ', Sat H' (SD h T' false line' ln nm up wr named' ups' M) → Scn (B + 10 * ds.length) T' line' named' ups' → (T'.cont.map (·.1)).Nodup → Same ["digit"] ρ ρ' → Q .next ρ' H') →
      XFl (d + 4) "digit" sl (n + 1) i (.cons (.expr (.call "_law_grow" (.cons (.var "builder") (.cons (.var "digit") (.cons (.var "facts") (.cons (.var "side") .nil)))))) .nil) ρ H Q := by
  intro n
  induction n with
  | zero =>
    intro i T line named ups H ρ hi h1 h2 h3 S C os nd q
    have e : i = ds.length := by lia
    subst e
    exact XFl_nil (S.get (mem_M hM)) (by simp) (q H T line named ups ρ S C nd .refl)
  | succ n ih =>
    intro i T line named ups H ρ hi h1 h2 h3 S C os nd q
    have hil : i < ds.length := by lia
    refine fl_cons (S.get (mem_M hM)) (v := .int ds[i]) (by rw [List.getElem?_map, List.getElem?_eq_getElem hil]; rfl) ?_
    ((with_reducible refine sc ?_))
    ((with_reducible refine bs_expr (be_call (bes_cons ?_))); refine bvar (by (simp only [setE, List.lookup_cons, String.reduceBEq]; first | done | assumption | rfl)) ?_; (with_reducible refine bkEs1_cons ?_); refine bvar rfl ?_; (with_reducible refine bkEs1_cons ?_); refine bvar (by (simp only [setE, List.lookup_cons, String.reduceBEq]; first | done | assumption | rfl)) ?_; (with_reducible refine bkEs1_cons ?_); refine bvar (by (simp only [setE, List.lookup_cons, String.reduceBEq]; first | done | assumption | rfl)) ?_; (with_reducible refine bkEs1_nil (bkEs2_eq (bkEs2_eq (bkEs2_eq (bc_g8 ?_))))); simp only [setE])
    refine c_law_grow S C (by lia) os nd fun H' T' line' named' ups' S' C' os' nd' => ?_
    ((with_reducible refine bkEx_n (bcont_next (bwSs_nil (bkFl_n ?_)))))
    refine ih (i + 1) T' line' named' ups' H' _ (by lia) (by simp only [String.reduceBEq, List.lookup_cons, eq_self, h1]) (by simp only [String.reduceBEq, List.lookup_cons, eq_self, h2]) (by simp only [String.reduceBEq, List.lookup_cons, eq_self, h3]) S' ?_ os' nd' fun H2 T2 line2 named2 ups2 ρ2 S2 C2 nd2 sm => ?_
    · have e : B + 10 * (i + 1) = B + 10 * i + 10 := by lia
      rw [e]; exact C'
    · exact q H2 T2 line2 named2 ups2 ρ2 S2 C2 nd2 (Same.trans (Same.set (by simp)) sm)

/-- the law's place -/
theorem spot_step {here : Int} (S : Sat H (SD h T f line ln nm up wr named ups M)) (C : Scn B T line named ups) (hB : B ≤ 990) (hh : here ∈ line) {b : Bool} {Q : AV → AH → Prop}
    (q : ∀ H', Sat H' (SD h T f line ln nm up wr named ups M) → Q (.tup [.int (spotP line named ups T.cont here b).1, .int (spotP line named ups T.cont here b).2]) H') :
    WC (d + 1) f_law_spot [.tup [.ref ln, .ref nm, .ref up, .ref wr], .int here, .bool b] H Q :=
  c_law_spot S (mem_F (List.mem_cons_self)) (mem_F (List.mem_cons_of_mem _ List.mem_cons_self)) (mem_F (List.mem_cons_of_mem _ (List.mem_cons_of_mem _ List.mem_cons_self))) (mem_F (List.mem_cons_of_mem _ (List.mem_cons_of_mem _ (List.mem_cons_of_mem _ List.mem_cons_self))))
    C.nm' C.up' C.pos (by have := C.len; lia) (C.root' (by decide) (by decide)) (C.nm' _ hh) q

theorem here_loop (C : Scn B T line named ups) (hB : B ≤ 990) :
    ∀ (n i : Nat) (H : AH) (ρ : AE), i + n = line.length → ρ.lookup "builder" = some (.ref (h + 2)) → ρ.lookup "facts" = some (.tup [.ref ln, .ref nm, .ref up, .ref wr]) → ρ.lookup "foster" = some (.bool f) →
      Sat H (SD h T f line ln nm up wr named ups M) → (∀ H' ρ', Sat H' (SD h T f line ln nm up wr named ups M) → Same ["here"] ρ ρ' → Q .next ρ' H') →
      XFl (d + 4) "here" ln (n + 1) i (.cons (.ifs (.cmp .NotEq (.call "place_for" (.cons (.var "builder") (.cons (.var "here") .nil))) (.call "_law_spot" (.cons (.var "facts") (.cons (.var "here") (.cons (.var "foster") .nil))))) (.cons (.ret (.bool false)) .nil) .nil) .nil) ρ H Q := by
  have hlim := lim_ge
  intro n
  induction n with
  | zero =>
    intro i H ρ hi h1 h2 h3 S q
    have e : i = line.length := by lia
    subst e
    exact XFl_nil (f_line S) (by simp) (q H ρ S .refl)
  | succ n ih =>
    intro i H ρ hi h1 h2 h3 S q
    have hil : i < line.length := by lia
    have hm : line[i] ∈ line := List.getElem_mem hil
    refine fl_cons (f_line S) (v := .int line[i]) (by rw [List.getElem?_map, List.getElem?_eq_getElem hil]; rfl) ?_
    ((with_reducible refine sc ?_))
    ((with_reducible refine bs_ifs (bt_cmp (be_call (bes_cons ?_)))); refine bvar (by (simp only [setE, List.lookup_cons, String.reduceBEq]; first | done | assumption | rfl)) ?_; (with_reducible refine bkEs1_cons ?_); refine bvar rfl ?_; (with_reducible refine bkEs1_nil (bkEs2_eq (bc_g3 ?_))); simp only [setE])
    refine c_place_for (d := d + 1) S C.inv.ln C.ok (by have := C.len; lia) (.inr (C.ok _ hm)) (.inr C.pos) ?_
    ((with_reducible refine bkc1_eq (be_call (bes_cons ?_))); refine bvar (by (simp only [List.lookup_cons, String.reduceBEq]; first | done | assumption | rfl)) ?_; (with_reducible refine bkEs1_cons ?_); refine bvar rfl ?_; (with_reducible refine bkEs1_cons ?_); refine bvar (by (simp only [List.lookup_cons, String.reduceBEq]; first | done | assumption | rfl)) ?_; (with_reducible refine bkEs1_nil (bkEs2_eq (bkEs2_eq (bc_g9 ?_)))))
    refine spot_step S C hB hm fun H' S' => ?_
    rw [place_eq C hm f]
    ((with_reducible refine bcmp (ne_tup2) ?_); (with_reducible refine bkIf_f (bwSs_nil (bcont_next (bwSs_nil (bkFl_n ?_))))))
    exact ih (i + 1) H' _ (by lia) (by simp only [String.reduceBEq, List.lookup_cons, eq_self, h1]) (by simp only [String.reduceBEq, List.lookup_cons, eq_self, h2]) (by simp only [String.reduceBEq, List.lookup_cons, eq_self, h3]) S' fun H2 ρ2 S2 sm => q H2 ρ2 S2 (Same.trans (Same.set (by simp)) sm)

/-- a round of the checks -/
theorem round (C : Scn B T line named ups) (hB : B ≤ 990) (b : Bool) {ρ : AE} (S : Sat H (SD h T f line ln nm up wr named ups M)) (h1 : ρ.lookup "builder" = some (.ref (h + 2))) (h2 : ρ.lookup "facts" = some (.tup [.ref ln, .ref nm, .ref up, .ref wr])) (h3 : ρ.lookup "foster" = some (.bool b)) (h4 : ρ.lookup "last" = some (.int (lastL line))) (h5 : ρ.lookup "line" = some (.ref ln))
    (q : ∀ H' ρ', Sat H' (SD h T b line ln nm up wr named ups M) → Same ["here", "foster"] ρ ρ' → Q .next ρ' H') :
    wSs (d + 4) (.cons (.setattr (.var "builder") "is_foster" (.var "foster")) (.cons (.ifs (.cmp .NotEq (.call "place_for" (.cons (.var "builder") .nil)) (.call "_law_spot" (.cons (.var "facts") (.cons (.var "last") (.cons (.var "foster") .nil))))) (.cons (.ret (.bool false)) .nil) .nil) (.cons (.for "here" (.var "line") (.cons (.ifs (.cmp .NotEq (.call "place_for" (.cons (.var "builder") (.cons (.var "here") .nil))) (.call "_law_spot" (.cons (.var "facts") (.cons (.var "here") (.cons (.var "foster") .nil))))) (.cons (.ret (.bool false)) .nil) .nil) .nil)) .nil))) ρ H Q := by
  have hlim := lim_ge
  ((with_reducible refine sc ?_))
  ((with_reducible refine bs_setattr ?_); (with_reducible refine bvar (by assumption) ?_); (with_reducible refine bkSa1_eq ?_); (with_reducible refine bvar (by assumption) ?_); (with_reducible refine bsa (u_foster S b) ?_); (with_reducible refine bcont_next ?_))
  have S1 := s_foster S b
  ((with_reducible refine sc ?_))
  ((with_reducible refine bs_ifs (bt_cmp (be_call (bes_cons ?_)))); (with_reducible refine bvar (by assumption) ?_); (with_reducible refine bkEs1_nil (bc_g3 ?_)))
  refine c_place_for1 (d := d + 1) S1 C.inv.ln C.ok (by have := C.len; lia) ?_
  ((with_reducible refine bkc1_eq (be_call (bes_cons ?_))); (with_reducible refine bvar (by assumption) ?_); (with_reducible refine bkEs1_cons ?_); (with_reducible refine bvar (by assumption) ?_); (with_reducible refine bkEs1_cons ?_); (with_reducible refine bvar (by assumption) ?_); (with_reducible refine bkEs1_nil (bkEs2_eq (bkEs2_eq (bc_g9 ?_)))))
  refine spot_step S1 C hB (lastL_mem C.pos) fun H' S' => ?_
  rw [place_last C b]
  ((with_reducible refine bcmp (ne_tup2) ?_); (with_reducible refine bkIf_f (bwSs_nil (bcont_next ?_))))
  ((with_reducible refine sc ?_))
  ((with_reducible refine bs_for ?_); (with_reducible refine bvar (by assumption) ?_); (with_reducible refine bkFor_ref ?_))
  exact ⟨line.length + 1, here_loop C hB line.length 0 H' ρ (by lia) h1 h2 h3 S' fun H2 ρ2 S2 sm => q H2 ρ2 S2 fun x hx => sm x fun m => hx (List.mem_cons.mpr (.inl (List.mem_singleton.mp m)))⟩

theorem foster_loop (C : Scn B T line named ups) (hB : B ≤ 990) {ρ : AE} (S : Sat H (SD h T f line ln nm up wr named ups M)) (h1 : ρ.lookup "builder" = some (.ref (h + 2))) (h2 : ρ.lookup "facts" = some (.tup [.ref ln, .ref nm, .ref up, .ref wr])) (h4 : ρ.lookup "last" = some (.int (lastL line))) (h5 : ρ.lookup "line" = some (.ref ln)) {rest : MSs}
    (q : ∀ H' ρ', Sat H' (SD h T true line ln nm up wr named ups M) → Same ["here", "foster"] ρ ρ' → wSs (d + 4) rest ρ' H' Q) :
    wSs (d + 4) (.cons (.for "foster" (.tup (.cons (.bool false) (.cons (.bool true) .nil))) (.cons (.setattr (.var "builder") "is_foster" (.var "foster")) (.cons (.ifs (.cmp .NotEq (.call "place_for" (.cons (.var "builder") .nil)) (.call "_law_spot" (.cons (.var "facts") (.cons (.var "last") (.cons (.var "foster") .nil))))) (.cons (.ret (.bool false)) .nil) .nil) (.cons (.for "here" (.var "line") (.cons (.ifs (.cmp .NotEq (.call "place_for" (.cons (.var "builder") (.cons (.var "here") .nil))) (.call "_law_spot" (.cons (.var "facts") (.cons (.var "here") (.cons (.var "foster") .nil))))) (.cons (.ret (.bool false)) .nil) .nil) .nil)) .nil)))) rest) ρ H Q := by
  ((with_reducible refine sc ?_))
  ((with_reducible refine bs_for (be_tup (bes_cons (bwE_bool (bkEs1_cons (bwE_bool (bkEs1_nil (bkEs2_eq (bkTup_2 (bkFor_tup ?_)))))))))))
  refine fv_cons ?_
  refine round C hB false S (by simp only [String.reduceBEq, List.lookup_cons, setE, eq_self, h1]) (by simp only [String.reduceBEq, List.lookup_cons, setE, eq_self, h2]) (by simp only [BEq.rfl, List.lookup_cons, setE, eq_self]) (by simp only [String.reduceBEq, List.lookup_cons, setE, eq_self, h4]) (by simp only [String.reduceBEq, List.lookup_cons, setE, eq_self, h5]) fun H1 ρ1 S1 sm1 => ?_
  have sm1' : Same ["here", "foster"] ρ ρ1 := Same.trans (Same.set (by simp)) sm1
  refine fv_cons ?_
  refine round C hB true S1 (by simp only [String.reduceBEq, List.lookup_cons, setE, eq_self, sm1'.get (by decide) h1]) (by simp only [String.reduceBEq, List.lookup_cons, setE, eq_self, sm1'.get (by decide) h2]) (by simp only [BEq.rfl, List.lookup_cons, setE, eq_self]) (by simp only [String.reduceBEq, List.lookup_cons, setE, eq_self, sm1'.get (by decide) h4]) (by simp only [String.reduceBEq, List.lookup_cons, setE, eq_self, sm1'.get (by decide) h5]) fun H2 ρ2 S2 sm2 => ?_
  have sm2' : Same ["here", "foster"] ρ ρ2 := sm1'.trans (Same.trans (Same.set (by simp)) sm2)
  exact XFv_nil (q H2 ρ2 S2 sm2')
end

section
variable {H : AH} {h : Nat} {T : Tr} {f : Bool} {line : List Int} {M : List (Nat × AO)} {Q : AF → AE → AH → Prop} {d B : Nat} {ln nm up wr k0 k1 k2 k3 : Nat} {named : List (Int × String)} {ups : List (Int × Int)} {K : Kp}
theorem eqA : SD h T f line ln nm up wr named ups (M ++ keptD k0 k1 k2 k3 K) = (treeD h T ++ (bldD h f line ++ (factD ln nm up wr line named ups T.cont ++ M))) ++ keptD k0 k1 k2 k3 K := by
  simp only [List.append_assoc]

/-- a turn of the signs -/
theorem turn (C : Scn B T line named ups) (hB : B + 2 ≤ 980) {ρ : AE} (S : Sat H (SD h T f line ln nm up wr named ups (M ++ keptD k0 k1 k2 k3 K))) (Mt : Mat T K) {t : String} (ht : t.length ≤ 1)
    (h1 : ρ.lookup "builder" = some (.ref (h + 2))) (h2 : ρ.lookup "facts" = some (.tup [.ref ln, .ref nm, .ref up, .ref wr])) (h3 : ρ.lookup "foster" = some (.bool f)) (h4 : ρ.lookup "last" = some (.int (lastL line))) (h5 : ρ.lookup "kept" = some (.tup [.ref k0, .ref k1, .ref k2, .ref k3])) (h6 : ρ.lookup "text" = some (.str t))
    (q : ∀ H' T' K' f' ρ' m, m ≤ 1 → Sat H' (SD h T' f' line ln nm up wr named ups (M ++ keptD k0 k1 k2 k3 K')) → Scn (B + 2) T' line named ups → Mat T' K' → Ex T T' m → ρ'.lookup "foster" = some (.bool f') → Same ["foster"] ρ ρ' → Q .next ρ' H') :
    wSs (d + 4) (.cons (.ifs (.cmp .Eq (.var "text") (.str "p")) (.cons (.assign "foster" (.not (.var "foster"))) (.cons (.setattr (.var "builder") "is_foster" (.var "foster")) .nil)) .nil) (.cons (.ifs (.cmp .Eq (.var "text") (.str "k")) (.cons (.expr (.call "insert_comment" (.cons (.var "builder") (.cons (.var "text") .nil)))) .nil) (.cons (.expr (.call "insert_sign" (.cons (.var "builder") (.cons (.var "text") .nil)))) .nil)) (.cons (.expr (.call "_law_put" (.cons (.var "kept") (.cons (.call "_law_spot" (.cons (.var "facts") (.cons (.var "last") (.cons (.var "foster") .nil)))) (.cons (.ite (.cmp .Eq (.var "text") (.str "k")) (.str "comment") (.str "text")) (.cons (.var "text") .nil)))))) .nil))) ρ H Q := by
  have hlim := lim_ge
  have I := C.inv
  have hlen := C.len
  have second : ∀ (f : Bool) (H : AH) (ρ : AE), Sat H (SD h T f line ln nm up wr named ups (M ++ keptD k0 k1 k2 k3 K)) → ρ.lookup "builder" = some (.ref (h + 2)) → ρ.lookup "facts" = some (.tup [.ref ln, .ref nm, .ref up, .ref wr]) → ρ.lookup "foster" = some (.bool f) → ρ.lookup "last" = some (.int (lastL line)) → ρ.lookup "kept" = some (.tup [.ref k0, .ref k1, .ref k2, .ref k3]) → ρ.lookup "text" = some (.str t) →
      (∀ H' T' K' m, m ≤ 1 → Sat H' (SD h T' f line ln nm up wr named ups (M ++ keptD k0 k1 k2 k3 K')) → Scn (B + 2) T' line named ups → Mat T' K' → Ex T T' m → Q .next ρ H') →
      wSs (d + 4) (.cons (.ifs (.cmp .Eq (.var "text") (.str "k")) (.cons (.expr (.call "insert_comment" (.cons (.var "builder") (.cons (.var "text") .nil)))) .nil) (.cons (.expr (.call "insert_sign" (.cons (.var "builder") (.cons (.var "text") .nil)))) .nil)) (.cons (.expr (.call "_law_put" (.cons (.var "kept") (.cons (.call "_law_spot" (.cons (.var "facts") (.cons (.var "last") (.cons (.var "foster") .nil)))) (.cons (.ite (.cmp .Eq (.var "text") (.str "k")) (.str "comment") (.str "text")) (.cons (.var "text") .nil)))))) .nil)) ρ H Q := by
    intro f H ρ S h1 h2 h3 h4 h5 h6 q
    have sp := spot_of (f := f) I C.ok (t := -1) (.inl rfl) (.inl rfl)
    have pe := place_last C f
    ((with_reducible refine sc ?_))
    ((with_reducible refine bs_ifs (bt_cmp ?_)); (with_reducible refine bvar (by assumption) ?_); (with_reducible refine bkc1_eq (bwE_str ?_)); (with_reducible refine bcmp cmp_eq_s ?_); simp only [decide_eq_true_eq, decide_eq_false_iff_not, kIf_eq])
    -- the put
    have put : ∀ (H : AH) (T' : Tr) (k : String) (m : Nat), m ≤ 1 → Sat H (SD h T' f line ln nm up wr named ups (M ++ keptD k0 k1 k2 k3 K)) → Inv (B + 2) T' → Ex T T' m → (∀ r1 r2, Mat T' (K.put k t (placeP T line f (-1)).1 (placeP T line f (-1)).2 r1 r2)) → ∀ Q' : AV → AH → Prop, (∀ v H, WC (d + 4) f_law_put [.tup [.ref k0, .ref k1, .ref k2, .ref k3], v, .str k, .str t] H (kEx ρ (cont (d + 4) .nil Q)) → Q' v H) →
        WC (d + 4) f_law_spot [.tup [.ref ln, .ref nm, .ref up, .ref wr], .int (lastL line), .bool f] H Q' := by
      intro H T' k m hm S1 I' E hM Q' hQ
      have C' : Scn (B + 2) T' line named ups := C.ex E (by lia) I'
      refine spot_step S1 C' (by lia) (lastL_mem C.pos) fun H2 S2 => ?_
      rw [E.cont, ← pe]
      rw [eqA] at S2
      have kp := Mt.kln I
      refine hQ _ _ ?_
      refine c_law_put S2 kp sp.ok.1 (by rw [Mt.kinds]; exact sp.ok.2) (by rw [Mt.gc]; exact sp.before.imp id fun q => q.2.2) ht fun H3 r1 r2 S3 => ?_
      ((with_reducible refine bkEx_n (bcont_next (bwSs_nil ?_))))
      rw [← eqA] at S3
      exact q H3 T' _ m hm S3 C' (hM r1 r2) E
    by_cases e : t = "k"
    · (simp only [not_true_eq_false, eq_self, e]; simp only [true_implies, false_implies, and_true])
      ((with_reducible refine sc ?_))
      ((with_reducible refine bs_expr (be_call (bes_cons ?_))); (with_reducible refine bvar (by assumption) ?_); (with_reducible refine bkEs1_cons ?_); (with_reducible refine bvar (by assumption) ?_); (with_reducible refine bkEs1_nil (bkEs2_eq (bc_g5 ?_))))
      refine c_insert_comment S I (by lia) C.ok (by lia) ht fun H1 r1 r2 S1 => ?_
      ((with_reducible refine bkEx_n (bcont_next (bwSs_nil (bcont_next ?_)))); (with_reducible refine sc ?_))
      ((with_reducible refine bs_expr (be_call (bes_cons ?_))); (with_reducible refine bvar (by assumption) ?_); (with_reducible refine bkEs1_cons (be_call (bes_cons ?_))); (with_reducible refine bvar (by assumption) ?_); (with_reducible refine bkEs1_cons ?_); (with_reducible refine bvar (by assumption) ?_); (with_reducible refine bkEs1_cons ?_); (with_reducible refine bvar (by assumption) ?_); (with_reducible refine bkEs1_nil (bkEs2_eq (bkEs2_eq (bc_g9 ?_)))))
      rw [e] at put
      refine put H1 _ "comment" 1 (by lia) S1 (I.put (by lia) (by decide) (by lia) sp.ok) (.put I.ln) (fun r3 r4 => ?_) _ fun v H' w => ?_
      · rw [← e]
        exact mat_comment Mt I sp
      · ((with_reducible refine bkEs1_cons (be_ite (bt_cmp ?_))); (with_reducible refine bvar (by assumption) ?_); (with_reducible refine bkc1_eq (bwE_str ?_)); (with_reducible refine bcmp cmp_eq_s ?_); simp only [decide_true, eq_self, e]; (with_reducible refine bkIte_t (bwE_str (bkEs1_cons ?_))); (with_reducible refine bvar (by assumption) ?_); (with_reducible refine bkEs1_nil (bkEs2_eq (bkEs2_eq (bkEs2_eq (bc_g10 ?_))))); simp only [e])
        exact w
    · (simp only [not_false_eq_true, e]; simp only [true_implies, false_implies, true_and])
      ((with_reducible refine sc ?_))
      ((with_reducible refine bs_expr (be_call (bes_cons ?_))); (with_reducible refine bvar (by assumption) ?_); (with_reducible refine bkEs1_cons ?_); (with_reducible refine bvar (by assumption) ?_); (with_reducible refine bkEs1_nil (bkEs2_eq (bc_g4 ?_))))
      refine c_insert_sign S I (by lia) C.ok (by lia) ht fun H1 r1 r2 S1 => ?_
      ((with_reducible refine bkEx_n (bcont_next (bwSs_nil (bcont_next ?_)))); (with_reducible refine sc ?_))
      ((with_reducible refine bs_expr (be_call (bes_cons ?_))); (with_reducible refine bvar (by assumption) ?_); (with_reducible refine bkEs1_cons (be_call (bes_cons ?_))); (with_reducible refine bvar (by assumption) ?_); (with_reducible refine bkEs1_cons ?_); (with_reducible refine bvar (by assumption) ?_); (with_reducible refine bkEs1_cons ?_); (with_reducible refine bvar (by assumption) ?_); (with_reducible refine bkEs1_nil (bkEs2_eq (bkEs2_eq (bc_g9 ?_)))))
      obtain ⟨m, hm, E⟩ := Ex.sign (t := t) (p := (placeP T line f (-1)).1) (b := (placeP T line f (-1)).2) (r1 := r1) (r2 := r2) I.ln
      have S1' : Sat H1 (SD h (T.sign t (placeP T line f (-1)).1 (placeP T line f (-1)).2 r1 r2) f line ln nm up wr named ups (M ++ keptD k0 k1 k2 k3 K)) := by
        have := S1
        rw [← E.cont] at this; exact this
      refine put H1 _ "text" m hm S1' (I.sign (by lia) ht sp.ok) E (fun r3 r4 => mat_sign Mt I sp) _ fun v H' w => ?_
      ((with_reducible refine bkEs1_cons (be_ite (bt_cmp ?_))); (with_reducible refine bvar (by assumption) ?_); (with_reducible refine bkc1_eq (bwE_str ?_)); (with_reducible refine bcmp cmp_eq_s ?_); simp only [decide_false, e]; (with_reducible refine bkIte_f (bwE_str (bkEs1_cons ?_))); (with_reducible refine bvar (by assumption) ?_); (with_reducible refine bkEs1_nil (bkEs2_eq (bkEs2_eq (bkEs2_eq (bc_g10 ?_))))))
      exact w
  ((with_reducible refine sc ?_))
  ((with_reducible refine bs_ifs (bt_cmp ?_)); (with_reducible refine bvar (by assumption) ?_); (with_reducible refine bkc1_eq (bwE_str ?_)); (with_reducible refine bcmp cmp_eq_s ?_); simp only [decide_eq_true_eq, decide_eq_false_iff_not, cont_next, wSs_nil, kIf_eq])
  by_cases e : t = "p"
  · (simp only [not_true_eq_false, eq_self, e]; simp only [true_implies, false_implies, and_true])
    ((with_reducible refine sc ?_))
    ((with_reducible refine bs_assign (be_not ?_)); (with_reducible refine bvar (by assumption) ?_); simp only [opt_some, setE, tr_bool, cont_next, kNot_eq, kAs_eq])
    ((with_reducible refine sc ?_))
    ((with_reducible refine bs_setattr ?_); refine bvar rfl ?_; (with_reducible refine bkSa1_eq ?_); refine bvar (by (simp only [List.lookup_cons, String.reduceBEq]; first | done | assumption | rfl)) ?_; (with_reducible refine bsa (u_foster S (!f)) ?_); (with_reducible refine bcont_next (bwSs_nil (bcont_next ?_))))
    refine second (!f) _ _ (s_foster S (!f)) (by simp only [String.reduceBEq, List.lookup_cons, eq_self, h1]) (by simp only [String.reduceBEq, List.lookup_cons, eq_self, h2]) (by simp only [BEq.rfl, List.lookup_cons, eq_self]) (by simp only [String.reduceBEq, List.lookup_cons, eq_self, h4]) (by simp only [String.reduceBEq, List.lookup_cons, eq_self, h5]) (by simp only [String.reduceBEq, List.lookup_cons, eq_self, h6]) fun H' T' K' m hm S' C' M' E => ?_
    exact q H' T' K' (!f) _ m hm S' C' M' E (by simp only [BEq.rfl, List.lookup_cons, eq_self]) (Same.set (by simp))
  · (simp only [not_false_eq_true, e]; simp only [true_implies, false_implies, true_and])
    refine second f _ _ S h1 h2 h3 h4 h5 h6 fun H' T' K' m hm S' C' M' E => ?_
    exact q H' T' K' f ρ m hm S' C' M' E h3 .refl
end
end Mine
end
section
set_option maxRecDepth 100000
namespace Mine
theorem perm4 {α : Type} (a b c d : α) (R : List α) : (d :: c :: b :: a :: R).Perm (a :: b :: c :: d :: R) := by
  have := (List.reverse_perm [a, b, c, d]).append_right R
  simpa using this
theorem perm_swap {α : Type} (A B C : List α) : (A ++ (B ++ C)).Perm (B ++ (A ++ C)) := by
  rw [← List.append_assoc, ← List.append_assoc]; exact List.perm_append_comm.append_right C
theorem filt0 (ρ : AE) : (ρ.filter fun p => ([] : List String).contains p.1) = [] := by simp

theorem inv0 (h : Nat) : Inv 1 (T0 h) := by
  have ok0 : ∀ i, Ok (T0 h) i → i = 0 := fun i o => by
    have a := o.1
    have b : i < 1 := o.2
    lia
  refine ⟨⟨rfl, rfl, rfl, rfl, rfl, rfl, Nat.le_refl _, fun p hp => ?_, fun t ht => ?_, by decide⟩, fun i o => ?_, fun p o c hc => ?_, fun i o hp => ?_, fun p hp => (by cases hp), fun i o => ?_, by show 0 < 1; decide, by show 0 ≤ 1; decide⟩
  · have := List.mem_singleton.mp hp; rw [this]; exact Nat.zero_le _
  · have := List.mem_singleton.mp ht; rw [this]; exact Nat.zero_le _
  · rw [ok0 i o]; exact .inl rfl
  · rw [ok0 p o] at hc; cases hc
  · rw [ok0 i o] at hp; exact absurd rfl hp
  · rw [ok0 i o]; exact ⟨fun _ => rfl, fun _ => rfl⟩

section
variable {H : AH} {h : Nat} {T : Tr} {f : Bool} {line : List Int} {M R : List (Nat × AO)} {Q : AF → AE → AH → Prop} {d B : Nat} {ln nm up wr sl : Nat} {named : List (Int × String)} {ups : List (Int × Int)}
theorem t4_0 {a b c e : AV} : subA H (.tup [a, b, c, e]) (.int 0) = some a := rfl
theorem t4_3 {a b c e : AV} : subA H (.tup [a, b, c, e]) (.int 3) = some e := rfl
theorem l3_0 {x : Nat} {a b c : AV} (hx : H[x]? = some (.list [a, b, c])) : subA H (.ref x) (.int 0) = some a := by
  unfold subA; simp only [hx]; rfl
theorem l3_1 {x : Nat} {a b c : AV} (hx : H[x]? = some (.list [a, b, c])) : subA H (.ref x) (.int 1) = some b := by
  unfold subA; simp only [hx]; rfl
theorem l3_2 {x : Nat} {a b c : AV} (hx : H[x]? = some (.list [a, b, c])) : subA H (.ref x) (.int 2) = some c := by
  unfold subA; simp only [hx]; rfl
theorem sl5 {a : Nat} {l : List Int} (h : H[a]? = some (.list (iV l))) (hk : 5 ≤ l.length) (h2 : l.length ≤ lim) : sliceH H (.ref a) Option.none (some 5) = some (.ref H.length, H ++ [.list (iV (l.take 5))]) := sl_to (k := 5) h hk h2

/-- a last text or comment -/
theorem more_step (C : Scn B T line named ups) (hB : B + 2 < 980) {ρ : AE} (S : Sat H (SD h T f line ln nm up wr named ups M)) (h1 : ρ.lookup "tree" = some (.ref (h + 4))) (h2 : ρ.lookup "facts" = some (.tup [.ref ln, .ref nm, .ref up, .ref wr])) {mo : Int} (h3 : ρ.lookup "more" = some (.int mo)) (h4 : ρ.lookup "last" = some (.int (lastL line))) {rest : MSs}
    (q : ∀ H' T' m, m ≤ 1 → Sat H' (SD h T' f line ln nm up wr named ups M) → Scn (B + 2) T' line named ups → Ex T T' m → wSs (d + 4) rest ρ H' Q) :
    wSs (d + 4) (.cons (.ifs (.cmp .Gt (.var "more") (.int 0)) (.cons (.expr (.meth (.var "tree") "append" (.cons (.meth (.sub (.var "facts") (.int 3)) "get" (.cons (.var "last") (.cons (.var "last") .nil))) (.cons (.ite (.cmp .Eq (.var "more") (.int 1)) (.meth (.var "tree") "text" (.cons (.str "z") .nil)) (.meth (.var "tree") "comment" (.cons (.str "y") .nil))) .nil)))) .nil) .nil) rest) ρ H Q := by
  have I := C.inv
  have olast := C.ok _ (lastL_mem C.pos)
  have og := getP_ok I olast
  ((with_reducible refine sc ?_))
  ((with_reducible refine bs_ifs (bt_cmp ?_)); (with_reducible refine bvar (by assumption) ?_); (with_reducible refine bkc1_eq (bwE_int ?_)); (with_reducible refine bcmp cmp_gt ?_); simp only [decide_eq_true_eq, decide_eq_false_iff_not, cont_next, wSs_nil, kIf_eq])
  refine ⟨fun _ => ?_, fun _ => ?_⟩
  · ((with_reducible refine sc ?_))
    ((with_reducible refine bs_expr (be_meth ?_)); (with_reducible refine bvar (by assumption) ?_); (with_reducible refine bki (k_tree S (f := "append") rfl) fm_append ?_); (with_reducible refine bes_cons (be_meth (be_sub ?_))); (with_reducible refine bvar (by assumption) ?_); (with_reducible refine bkSub1_eq (bwE_int ?_)); simp only [opt_some, cmp_eq_i, decide_eq_true_eq, decide_eq_false_iff_not, wE_int, kv_eq, kr_eq, e_var, kSub2_eq, kc1_eq, kc2_eq, e_ite, kIte_eq, e_meth, kM1_eq, kM2_get, kMD_eq, es_cons, kEs1_nil, kEs1_cons, kEs2_eq, t_cmp, h1, h3, h4, k_tree S (f := "append") rfl, t4_3, kind_dict (f := "get") (f_cont S), get_d (f_cont S)])
    refine ⟨fun _ => ?_, fun _ => ?_⟩
    · (simp only [k_tree S (f := "text") rfl]; simp only [opt_some, fm_text, wE_str, kM2_inst, kM3_eq, kM4_eq, es_cons, kEs1_nil, k_tree S (f := "text") rfl])
      refine c_text S I.ln fun H1 r1 r2 S1 => ?_
      refine append_new I (by lia) (by decide) (by decide) og S1 fun H' S' => ?_
      exact ⟨.inl rfl, q H' _ 1 (Nat.le_refl _) S' (C.ex (.put I.ln) (by lia) (I.put (by lia) (by decide) (by show (1 : Nat) ≤ _; lia) og)) (.put I.ln)⟩
    · (simp only [k_tree S (f := "comment") rfl]; simp only [opt_some, fm_comment, wE_str, kM2_inst, kM3_eq, kM4_eq, es_cons, kEs1_nil, k_tree S (f := "comment") rfl])
      refine c_comment S I.ln fun H1 r1 r2 S1 => ?_
      refine append_new I (by lia) (by decide) (by decide) og S1 fun H' S' => ?_
      exact ⟨.inl rfl, q H' _ 1 (Nat.le_refl _) S' (C.ex (.put I.ln) (by lia) (I.put (by lia) (by decide) (by show (1 : Nat) ≤ _; lia) og)) (.put I.ln)⟩
  · exact q H T 0 (by lia) S (C.ex .refl (by lia) (I.mono (by lia) (by lia))) .refl

/-- [list(pairs) for pairs in attrs] -/
theorem comp_ar {D : List (Nat × AO)} {a n2 : Nat} {src : List Nat} {Q : AV → AH → Prop} (ha : ∀ H, Sat H D → H[a]? = some (.list (rV src)) ∧ ∀ p ∈ src, H[p]? = some (.list [])) (hsl : src.length ≤ 1000) :
    ∀ (n i : Nat) (cp : List Nat) H, i + n = src.length → cp.length = i → Sat H ((n2, .list (rV cp)) :: (arD cp ++ D)) →
      (∀ H' cp', cp'.length = src.length → Sat H' ((n2, .list (rV cp')) :: (arD cp' ++ D)) → Q (.ref n2) H') →
      XCl d [] (.call "list" (.cons (.var "pairs") .nil)) "pairs" .absent n2 a (n + 1) i H Q := by
  intro n
  induction n with
  | zero =>
    intro i cp H hi hc S q
    obtain ⟨h1, h2⟩ := ha H (S.sub ((List.sublist_append_right _ _).cons _))
    have e : i = src.length := by lia
    subst e
    exact XCl_nil h1 (by simp) (q H cp hc S)
  | succ n ih =>
    intro i cp H hi hc S q
    obtain ⟨h1, h2⟩ := ha H (S.sub ((List.sublist_append_right _ _).cons _))
    have hil : i < src.length := by lia
    have hg : src[i]? = some src[i] := List.getElem?_eq_getElem hil
    have hm := h2 _ (List.getElem_mem hil)
    have := lim_ge
    refine XCl_cons h1 (v := .ref src[i]) (by rw [List.getElem?_map, hg]; rfl) (ct_plain ?_)
    have S1 := S.push (AO.list [])
    ((try have ff1 := ap_mr' (S1.getj 1 rfl) (by lia)); (with_reducible refine be_call (bes_cons ?_)); refine bvar rfl ?_; (with_reducible refine bkEs1_nil (bc_list ?_)); (with_reducible refine boptr (listOf_ref hm (Nat.zero_le _)) ?_); simp only [opt_some, kAp_eq, listOf_ref hm (Nat.zero_le _), ap_mr' (S1.getj 1 rfl) (by lia)]; (try clear ff1))
    have S2 : Sat ((H ++ [AO.list []]).set n2 (.list (rV (cp ++ [H.length])))) ((H.length, AO.list []) :: (n2, AO.list (rV (cp ++ [H.length]))) :: (arD cp ++ D)) := S1.setj 1 (.list (rV (cp ++ [H.length]))) rfl
    refine ih (i + 1) (cp ++ [H.length]) _ (by lia) (by rw [List.length_append, hc]; rfl) (S2.perm ?_) q
    refine (List.Perm.swap _ _ _).trans (List.Perm.cons _ ?_)
    simp only [List.map_append, List.map_cons, List.map_nil, List.append_assoc, List.cons_append, List.nil_append]
    exact List.perm_middle.symm
end
end Mine
end
section
set_option maxRecDepth 100000
namespace Mine
section
variable {H : AH} {R : List (Nat × AO)} {d : Nat}
theorem scn0 {h : Nat} {T2 T4 : Tr} {c2 c4 : List (Int × Int)} (G2 : Gw (T0 h) T2 "html" "html" 0 c2) (G4 : Gw T2 T4 "div" "html" 1 c4) (I4 : Inv 7 T4) : Scn 7 T4 [1] [(1, "html")] [(1, 0)] := by
  have o1 : Ok T2 1 := G2.okn
  have e1 : gs T4.names 1 = "html" := (G4.old 1 o1).1.trans G2.nn
  have e2 : gs T4.spaces 1 = "html" := (G4.old 1 o1).2.1.trans G2.ns
  have e3 : gi T4.parents 1 = 0 := (G4.old 1 o1).2.2.trans G2.np
  refine ⟨I4, by decide, by decide, fun y hy => ?_, fun y hy => ?_, fun y hy => ?_, e1, by decide, by decide⟩
  · rw [List.mem_singleton.mp hy]; exact G4.ok o1
  · rw [List.mem_singleton.mp hy, e1, e2]; rfl
  · rw [List.mem_singleton.mp hy, e3]; rfl

/-- the scene's beginning -/
theorem scene_a {ds : List Int} {dg : Nat} (S : Sat H R) (hd : (dg, .list (iV ds)) ∈ R) (h6 : ds.length = 6) {Q : AF → AE → AH → Prop} {rest : MSs}
    (q : ∀ H' h T line named ups ln nm up wr ρ, Sat H' (SD h T false line ln nm up wr named ups R) → Scn 57 T line named ups → (T.cont.map (·.1)).Nodup → ρ.lookup "builder" = some (.ref (h + 2)) → ρ.lookup "tree" = some (.ref (h + 4)) → ρ.lookup "facts" = some (.tup [.ref ln, .ref nm, .ref up, .ref wr]) → ρ.lookup "digits" = some (.ref dg) → wSs (d + 4) rest ρ H' Q) :
    wSs (d + 4) (.cons (.assign "builder" (.call "Builder" (.cons .dict0 .nil))) (.cons (.assign "tree" (.attr (.var "builder") "tree")) (.cons (.assign "root" (.meth (.var "tree") "element" (.cons (.str "html") .nil))) (.cons (.expr (.meth (.var "tree") "append" (.cons (.int 0) (.cons (.var "root") .nil)))) (.cons (.expr (.meth (.attr (.var "builder") "stack") "push" (.cons (.var "root") .nil))) (.cons (.assign "side" (.meth (.var "tree") "element" (.cons (.str "div") .nil))) (.cons (.expr (.meth (.var "tree") "append" (.cons (.var "root") (.cons (.var "side") .nil)))) (.cons (.assign "facts" (.tup (.cons (.lst (.cons (.var "root") .nil)) (.cons (.dict1 (.var "root") (.str "html")) (.cons (.dict1 (.var "root") (.int 0)) (.cons .dict0 .nil)))))) (.cons (.for "digit" (.slice (.var "digits") .absent (.int 5)) (.cons (.expr (.call "_law_grow" (.cons (.var "builder") (.cons (.var "digit") (.cons (.var "facts") (.cons (.var "side") .nil)))))) .nil)) rest))))))))) [("digits", .ref dg)] H Q := by
  have hlim := lim_ge
  ((with_reducible refine sc ?_))
  simp only [wS]
  refine c_Builder (d := d + 1) S fun H1 S1 => ?_
  generalize H.length = h at S1 ⊢
  have I0 := inv0 h
  ((with_reducible refine bcont_next ?_); simp only [setE])
  ((with_reducible refine sc ?_))
  ((with_reducible refine bs_assign (be_attr ?_)); refine bvar rfl ?_; (with_reducible refine battr (a_tree S1) ?_); (with_reducible refine bkAs_c ?_); simp only [setE, a_tree S1])
  ((with_reducible refine sc ?_))
  ((with_reducible refine bs_assign (be_meth ?_)); refine bvar rfl ?_; (with_reducible refine bki (k_tree S1 (f := "element") rfl) fm_element ?_); (with_reducible refine bes_cons (bwE_str (bkEs1_nil (bkM4_eq ?_)))))
  refine c_element1 (d := d + 2) S1 I0.ln (by decide) (fun p hp => by cases hp) (by show 0 ≤ lim; lia) fun H2 r1 r2 r3 r4 S2 => ?_
  have I1 : Inv 3 ((T0 h).elem "html" "html" r1 r2 r3 r4) := I0.elem (by decide)
  have G1 : Gw (T0 h) ((T0 h).elem "html" "html" r1 r2 r3 r4) "html" "html" (-1) [] := by
    have := Gw.elem I0.ln (name := "html") (sp := "html") (r1 := r1) (r2 := r2) (r3 := r3) (r4 := r4) (by decide)
    rw [if_neg (by decide)] at this; exact this
  generalize (T0 h).elem "html" "html" r1 r2 r3 r4 = T1 at *
  have e1 : ((T0 h).kinds.length : Int) = 1 := rfl
  have o11 : Ok T1 1 := G1.okn
  have o10 : Ok T1 0 := ⟨by decide, by have := o11.2; lia⟩
  rw [e1]
  ((with_reducible refine bkAs_c ?_); (with_reducible refine sc ?_))
  ((with_reducible refine bs_expr (be_meth ?_)); refine bvar rfl ?_; (with_reducible refine bki (k_tree S2 (f := "append") rfl) fm_append ?_); (with_reducible refine bes_cons (bwE_int (bkEs1_cons ?_))); refine bvar rfl ?_; (with_reducible refine bkEs1_nil (bkEs2_eq (bkM4_eq ?_))); simp only [setE, k_tree S2 (f := "append") rfl])
  refine c_append (d := d + 1) S2 I1.ln I1.par o10 o11 (by decide) G1.np fun H3 S3 => ?_
  refine ⟨.inl rfl, ?_⟩
  have I2 : Inv 4 (T1.ins 0 1 (gc T1.ch 0).length) := I1.ins (by decide) o10 o11 (by decide) _
  have G2 : Gw (T0 h) (T1.ins 0 1 (gc T1.ch 0).length) "html" "html" 0 [] := G1.ins I1.ln
  generalize T1.ins 0 1 (gc T1.ch 0).length = T2 at *
  have o21 : Ok T2 1 := G2.okn
  have S3' : Sat H3 (allD h T2 false [] R) := S3
  ((with_reducible refine bcont_next ?_); (with_reducible refine sc ?_))
  ((with_reducible refine bs_expr (be_meth (be_attr ?_))); refine bvar rfl ?_; (with_reducible refine battr (a_stack S3') ?_); (with_reducible refine bki (k_push S3') fm_push ?_); (with_reducible refine bes_cons ?_); refine bvar rfl ?_; (with_reducible refine bkEs1_nil (bkM4_eq ?_)))
  refine c_push (d := d + 3) S3' (Nat.zero_le _) fun H4 S4 => ?_
  refine ⟨.inl rfl, ?_⟩
  have S4' : Sat H4 (treeD h T2 ++ (bldD h false [1] ++ R)) := S4
  ((with_reducible refine bcont_next ?_); (with_reducible refine sc ?_))
  ((with_reducible refine bs_assign (be_meth ?_)); refine bvar rfl ?_; (with_reducible refine bki (k_tree S4' (f := "element") rfl) fm_element ?_); (with_reducible refine bes_cons (bwE_str (bkEs1_nil (bkM4_eq ?_)))))
  refine c_element1 (d := d + 2) S4' I2.ln (by decide) (fun p hp => (I2.kk p hp).1.2) (by have := I2.cl; lia) fun H5 r1 r2 r3 r4 S5 => ?_
  have I3 : Inv 6 (T2.elem "div" "html" r1 r2 r3 r4) := I2.elem (by decide)
  have G3 : Gw T2 (T2.elem "div" "html" r1 r2 r3 r4) "div" "html" (-1) T2.cont := by
    have := Gw.elem I2.ln (name := "div") (sp := "html") (r1 := r1) (r2 := r2) (r3 := r3) (r4 := r4) (by decide)
    rw [if_neg (by decide)] at this; exact this
  generalize T2.elem "div" "html" r1 r2 r3 r4 = T3 at *
  ((with_reducible refine bkAs_c ?_); (with_reducible refine sc ?_))
  ((with_reducible refine bs_expr (be_meth ?_)); refine bvar rfl ?_; (with_reducible refine bki (k_tree S5 (f := "append") rfl) fm_append ?_); (with_reducible refine bes_cons ?_); refine bvar rfl ?_; (with_reducible refine bkEs1_cons ?_); refine bvar rfl ?_; (with_reducible refine bkEs1_nil (bkEs2_eq (bkM4_eq ?_))); simp only [setE, k_tree S5 (f := "append") rfl])
  refine c_append (d := d + 1) S5 I3.ln I3.par (G3.ok o21) G3.okn (o21.2) G3.np fun H6 S6 => ?_
  refine ⟨.inl rfl, ?_⟩
  have I4 : Inv 7 (T3.ins 1 (T2.kinds.length : Int) (gc T3.ch 1).length) := I3.ins (by decide) (G3.ok o21) G3.okn o21.2 _
  have G4 : Gw T2 (T3.ins 1 (T2.kinds.length : Int) (gc T3.ch 1).length) "div" "html" 1 T2.cont := G3.ins I3.ln
  generalize T3.ins 1 (T2.kinds.length : Int) (gc T3.ch 1).length = T4 at *
  have C := scn0 G2 G4 I4
  have c4 : T4.cont = [] := G4.cont.trans G2.cont
  have os := G4.okn
  generalize (T2.kinds.length : Int) = side at *
  ((with_reducible refine bcont_next ?_); (with_reducible refine sc ?_))
  ((with_reducible refine bs_assign (be_tup (bes_cons (be_lst (bes_cons ?_))))); refine bvar rfl ?_; (with_reducible refine bkEs1_nil (bkLst_1 (bkEs1_cons (be_dict1 ?_)))); refine bvar rfl ?_; (with_reducible refine bkD1_eq (bwE_str (bkD3_eq (bkEs1_cons (be_dict1 ?_))))); refine bvar rfl ?_; (with_reducible refine bkD1_eq (bwE_int (bkD3_eq (bkEs1_cons (be_dict0 (bkEs1_nil (bkEs2_eq (bkEs2_eq (bkEs2_eq (bkTup_4 (bkAs_c ?_))))))))))); simp only [setE])
  have A1 : Sat H6 ((treeD h T4 ++ bldD h false [1]) ++ R) := by rw [List.append_assoc]; exact S6
  have A2 := A1.pushR (.list [.int 1])
  have A3 := A2.pushR (.dict [(1, .str "html")])
  have A4 := A3.pushR (.dict [(1, .int 0)])
  have A5 := A4.pushR (.dict [])
  generalize H6.length = ln at *
  generalize (H6 ++ [AO.list [AV.int 1]]).length = nm at *
  generalize (H6 ++ [AO.list [AV.int 1]] ++ [AO.dict [(1, AV.str "html")]]).length = up at *
  generalize (H6 ++ [AO.list [AV.int 1]] ++ [AO.dict [(1, AV.str "html")]] ++ [AO.dict [(1, AV.int 0)]]).length = wr at *
  generalize (H6 ++ [AO.list [AV.int 1]] ++ [AO.dict [(1, AV.str "html")]] ++ [AO.dict [(1, AV.int 0)]] ++ [AO.dict []]) = H7 at *
  have S7 : Sat H7 ((treeD h T4 ++ bldD h false [1]) ++ (factD ln nm up wr [1] [(1, "html")] [(1, 0)] T4.cont ++ R)) := by
    rw [c4]; exact A5.perm (List.Perm.append_left _ (perm4 _ _ _ _ _))
  clear A1 A2 A3 A4 A5 S6
  ((with_reducible refine sc ?_))
  have gd : H7[dg]? = some (.list (iV ds)) := S7.get (List.mem_append_right _ (List.mem_append_right _ hd))
  ((with_reducible refine bs_for (be_slice ?_)); refine bvar rfl ?_; (with_reducible refine bkSl1_eq (bo_absent (bkSl3_eq (bo_int ?_)))); (with_reducible refine bslc (sl5 gd (by lia) (by lia)) ?_); (with_reducible refine bkFor_ref ?_))
  have S8 : Sat (H7 ++ [AO.list (iV (ds.take 5))]) (SD h T4 false [1] ln nm up wr [(1, "html")] [(1, 0)] ((H7.length, .list (iV (ds.take 5))) :: R)) := by
    have : Sat H7 (((treeD h T4 ++ bldD h false [1]) ++ factD ln nm up wr [1] [(1, "html")] [(1, 0)] T4.cont) ++ R) := by rw [List.append_assoc]; exact S7
    have := this.pushR (AO.list (iV (ds.take 5)))
    simp only [List.append_assoc] at this ⊢
    exact this
  have l5 : (ds.take 5).length = 5 := by rw [List.length_take]; lia
  refine ⟨6, grow_loop (B := 7) (ds := ds.take 5) (side := side) (M := (H7.length, .list (iV (ds.take 5))) :: R) List.mem_cons_self (by rw [l5]; decide) 5 0 T4 [1] [(1, "html")] [(1, 0)] _ _ (by rw [l5]) (by simp only [String.reduceBEq, BEq.rfl, List.lookup_cons, eq_self]) (by simp only [BEq.rfl, List.lookup_cons, eq_self]) (by simp only [String.reduceBEq, BEq.rfl, List.lookup_cons, eq_self]) S8 C os (by rw [c4]; exact List.nodup_nil) fun H9 T9 line named ups ρ9 S9 C9 nd9 sm => ?_⟩
  rw [l5] at C9
  refine q H9 h T9 line named ups ln nm up wr ρ9 ?_ C9 nd9 (sm.get (by decide) (by simp only [String.reduceBEq, BEq.rfl, List.lookup_cons, eq_self])) (sm.get (by decide) (by simp only [String.reduceBEq, BEq.rfl, List.lookup_cons, eq_self])) (sm.get (by decide) (by simp only [BEq.rfl, List.lookup_cons, eq_self])) (sm.get (by decide) (by simp only [String.reduceBEq, BEq.rfl, List.lookup_cons, eq_self]))
  refine S9.sub ?_
  exact List.Sublist.append_left (List.Sublist.append_left (List.Sublist.append_left (List.sublist_cons_self _ _) _) _) _
end
end Mine
end
section
set_option maxRecDepth 100000
namespace Mine
section
variable {H : AH} {h : Nat} {T Tc : Tr} {f : Bool} {line : List Int} {M R : List (Nat × AO)} {Q : AF → AE → AH → Prop} {d B m : Nat} {ln nm up wr k0 k1 k2 k3 n0 n1 n2 n3 : Nat} {named : List (Int × String)} {ups : List (Int × Int)} {K : Kp} {cp : List Nat} {ρ : AE}

theorem scene_c (C : Scn B T line named ups) (nd : (T.cont.map (·.1)).Nodup) (S : Sat H (SD h T f line ln nm up wr named ups (M ++ keptD k0 k1 k2 k3 K))) (Mt : Mat T K) (E : Ex Tc T m) (hm : m ≤ 100) (Lc : Ln B Tc)
    (m0 : (n0, .list (sV Tc.names)) ∈ M) (m1 : (n1, .list (sV Tc.spaces)) ∈ M) (m2 : (n2, .list (rV cp)) ∈ M) (mc : ∀ r ∈ cp, (r, AO.list []) ∈ M) (m3 : (n3, .list [.ref n0, .ref n1, .ref n2]) ∈ M) (hcp : cp.length = Tc.ar.length)
    (h1 : ρ.lookup "builder" = some (.ref (h + 2))) (h2 : ρ.lookup "tree" = some (.ref (h + 4))) (h3 : ρ.lookup "facts" = some (.tup [.ref ln, .ref nm, .ref up, .ref wr])) (h4 : ρ.lookup "kept" = some (.tup [.ref k0, .ref k1, .ref k2, .ref k3])) (h5 : ρ.lookup "named" = some (.ref n3)) (h6 : ρ.lookup "line" = some (.ref ln))
    (q : ∀ ρ' H', Sat H' (SD h T f line ln nm up wr named ups (M ++ keptD k0 k1 k2 k3 K)) → Q (.ret (.bool true)) ρ' H') :
    wSs (d + 4) (.cons (.assign "many" (.bin .Sub (.call "len" (.cons (.sub (.var "kept") (.int 0)) .nil)) (.call "len" (.cons (.sub (.var "named") (.int 0)) .nil)))) (.cons (.assign "due" (.lst (.cons (.bin .Add (.sub (.var "named") (.int 0)) (.bin .Mult (.lst (.cons (.str "") .nil)) (.var "many"))) (.cons (.bin .Add (.sub (.var "named") (.int 1)) (.bin .Mult (.lst (.cons (.str "") .nil)) (.var "many"))) (.cons (.bin .Add (.sub (.var "named") (.int 2)) (.bin .Mult (.lst (.cons (.lst .nil) .nil)) (.var "many"))) .nil))))) (.cons (.ifs (.or (.cons (.cmp .NotEq (.lst (.cons (.attr (.var "tree") "names") (.cons (.attr (.var "tree") "spaces") (.cons (.attr (.var "tree") "attrs") .nil)))) (.var "due")) (.cons (.cmp .NotEq (.attr (.attr (.var "builder") "stack") "items") (.var "line")) (.cons (.cmp .NotEq (.attr (.var "builder") "errors") (.lst .nil)) .nil)))) (.cons (.ret (.bool false)) .nil) .nil) (.cons (.ret (.and (.cons (.cmp .Eq (.tup (.cons (.attr (.var "tree") "kinds") (.cons (.attr (.var "tree") "texts") (.cons (.attr (.var "tree") "parents") (.cons (.attr (.var "tree") "children") .nil))))) (.var "kept")) (.cons (.cmp .Eq (.attr (.var "tree") "contents") (.sub (.var "facts") (.int 3))) .nil)))) .nil)))) ρ H Q := by
  have hlim := lim_ge
  have I := C.inv
  have L := I.ln
  have lB := L.hB
  have lT := L.le
  have lc1 := Lc.names
  have lc2 := Lc.spaces
  have lc3 := Lc.ar
  have la := L.ar
  have ek := E.kinds
  have bas : ∀ {H' : AH} {a : Nat} {o : AO}, Sat H' (SD h T f line ln nm up wr named ups (M ++ keptD k0 k1 k2 k3 K)) → (a, o) ∈ M → H'[a]? = some o := fun S' hp => S'.get (mem_M (List.mem_append_left _ hp))
  have SK : ∀ {H' : AH}, Sat H' (SD h T f line ln nm up wr named ups (M ++ keptD k0 k1 k2 k3 K)) → Sat H' ((treeD h T ++ (bldD h f line ++ (factD ln nm up wr line named ups T.cont ++ M))) ++ keptD k0 k1 k2 k3 K) := fun S' => by rw [← eqA]; exact S'
  -- many
  ((with_reducible refine sc ?_))
  have ee : (K.kinds.length : Int) - (Tc.names.length : Int) = (m : Int) := by rw [Mt.kinds]; lia
  have lk : lenA H (.ref k0) = some (K.kinds.length : Int) := by rw [len_l (q_kinds (SK S)) (by rw [List.length_map, Mt.kinds]; lia), List.length_map]
  have ln0 : lenA H (.ref n0) = some (Tc.names.length : Int) := by rw [len_l (bas S m0) (by rw [List.length_map]; lia), List.length_map]
  ((with_reducible refine bs_assign (be_bin (be_call (bes_cons (be_sub ?_))))); (with_reducible refine bvar (by assumption) ?_); (with_reducible refine bkSub1_eq (bwE_int ?_)); simp only [opt_some, setE, bin_sub, cont_next, wE_int, kv_eq, kr_eq, e_var, e_sub, kSub1_eq, kSub2_eq, kBin1_eq, kBin2_eq, e_call, kLen_e, es_cons, kEs1_nil, kAs_eq, c_len, h5, t4_0, lk, l3_0 (bas S m3), ln0, ee])
  clear lk ln0
  -- due
  have S1 := S.push (AO.list [.str ""])
  have B1 := S.keep [AO.list [.str ""]]
  have x1 := mul_s (m := m) (S1.getj 0 rfl) (by lia)
  have S2 := S1.push (AO.list (sV (List.replicate m "")))
  have B2 := B1.keep [AO.list (sV (List.replicate m ""))]
  have x2 := cat_sl (bas B2 m0) (S2.getj 0 rfl) (by rw [List.length_replicate]; lia)
  have S3 := S2.push (AO.list (sV (Tc.names ++ List.replicate m "")))
  have B3 := B2.keep [AO.list (sV (Tc.names ++ List.replicate m ""))]
  have x3 := l3_1 (bas B3 m3)
  have S4 := S3.push (AO.list [.str ""])
  have B4 := B3.keep [AO.list [.str ""]]
  have x4 := mul_s (m := m) (S4.getj 0 rfl) (by lia)
  have S5 := S4.push (AO.list (sV (List.replicate m "")))
  have B5 := B4.keep [AO.list (sV (List.replicate m ""))]
  have x5 := cat_sl (bas B5 m1) (S5.getj 0 rfl) (by rw [List.length_replicate]; lia)
  have S6 := S5.push (AO.list (sV (Tc.spaces ++ List.replicate m "")))
  have B6 := B5.keep [AO.list (sV (Tc.spaces ++ List.replicate m ""))]
  have x6 := l3_2 (bas B6 m3)
  have S7 := S6.push (AO.list [])
  have B7 := B6.keep [AO.list []]
  generalize hH3 : H ++ [AO.list [AV.str ""]] ++ [AO.list (sV (List.replicate m ""))] ++ [AO.list (sV (Tc.names ++ List.replicate m ""))] = H3 at *
  generalize hH6 : H3 ++ [AO.list [AV.str ""]] ++ [AO.list (sV (List.replicate m ""))] ++ [AO.list (sV (Tc.spaces ++ List.replicate m ""))] = H6 at *
  have S8 := S7.push (AO.list [.ref H6.length])
  have B8 := B7.keep [AO.list [.ref H6.length]]
  have x8 := mul_r (m := m) (S8.getj 0 rfl) (by lia)
  have S9 := S8.push (AO.list (rV (List.replicate m H6.length)))
  have B9 := B8.keep [AO.list (rV (List.replicate m H6.length))]
  have x9 := cat_rl (bas B9 m2) (S9.getj 0 rfl) (by rw [List.length_replicate]; lia)
  have S10 := S9.push (AO.list (rV (cp ++ List.replicate m H6.length)))
  have B10 := B9.keep [AO.list (rV (cp ++ List.replicate m H6.length))]
  ((with_reducible refine sc ?_))
  ((with_reducible refine bs_assign (be_lst (bes_cons (be_bin (be_sub ?_))))); refine bvar (by (simp only [List.lookup_cons, String.reduceBEq]; first | done | assumption | rfl)) ?_; (with_reducible refine bkSub1_eq (bwE_int ?_)); (with_reducible refine bsub2 (l3_0 (bas S m3)) ?_); (with_reducible refine bkBin1_eq (be_bin (be_lst (bes_cons (bwE_str (bkEs1_nil (bkLst_1 (bkBin1_eq ?_)))))))); refine bvar rfl ?_; (with_reducible refine bbin (by assumption) ?_); (with_reducible refine bbin (by assumption) ?_); (with_reducible refine bkEs1_cons (be_bin (be_sub ?_))); refine bvar (by (simp only [List.lookup_cons, String.reduceBEq]; first | done | assumption | rfl)) ?_; (with_reducible refine bkSub1_eq (bwE_int ?_)); (with_reducible refine bsub2 (by assumption) ?_); (with_reducible refine bkBin1_eq (be_bin (be_lst (bes_cons (bwE_str (bkEs1_nil (bkLst_1 (bkBin1_eq ?_)))))))); refine bvar rfl ?_; (with_reducible refine bbin (by assumption) ?_); (with_reducible refine bbin (by assumption) ?_); (with_reducible refine bkEs1_cons (be_bin (be_sub ?_))); refine bvar (by (simp only [List.lookup_cons, String.reduceBEq]; first | done | assumption | rfl)) ?_; (with_reducible refine bkSub1_eq (bwE_int ?_)); (with_reducible refine bsub2 (by assumption) ?_); (with_reducible refine bkBin1_eq (be_bin (be_lst (bes_cons (be_lst (bes_nil (bkLst_0 (bkEs1_nil (bkLst_1 (bkBin1_eq ?_)))))))))); refine bvar rfl ?_; (with_reducible refine bbin (by assumption) ?_); (with_reducible refine bbin (by assumption) ?_); (with_reducible refine bkEs1_nil (bkEs2_eq (bkEs2_eq ?_))); simp only [setE, true_and, List.length_cons, List.length_nil, Nat.reduceAdd, Nat.zero_add, lim_3, cont_next, kLst_eq, kAs_eq, l3_0 (bas S m3), lim_3])
  have S11 := S10.push (AO.list [.ref (H ++ [AO.list [AV.str ""]] ++ [AO.list (sV (List.replicate m ""))]).length, .ref (H3 ++ [AO.list [AV.str ""]] ++ [AO.list (sV (List.replicate m ""))]).length, .ref (H6 ++ [AO.list []] ++ [AO.list [AV.ref H6.length]] ++ [AO.list (rV (List.replicate m H6.length))]).length])
  have B11 := B10.keep [AO.list [.ref (H ++ [AO.list [AV.str ""]] ++ [AO.list (sV (List.replicate m ""))]).length, .ref (H3 ++ [AO.list [AV.str ""]] ++ [AO.list (sV (List.replicate m ""))]).length, .ref (H6 ++ [AO.list []] ++ [AO.list [AV.ref H6.length]] ++ [AO.list (rV (List.replicate m H6.length))]).length]]
  generalize hx0 : (H ++ [AO.list [AV.str ""]] ++ [AO.list (sV (List.replicate m ""))]).length = y0 at *
  generalize hx1 : (H3 ++ [AO.list [AV.str ""]] ++ [AO.list (sV (List.replicate m ""))]).length = y1 at *
  generalize hx2 : (H6 ++ [AO.list []] ++ [AO.list [AV.ref H6.length]] ++ [AO.list (rV (List.replicate m H6.length))]).length = y2 at *
  generalize hx3 : (H6 ++ [AO.list []] ++ [AO.list [AV.ref H6.length]] ++ [AO.list (rV (List.replicate m H6.length))] ++ [AO.list (rV (cp ++ List.replicate m H6.length))]).length = y3 at *
  generalize H6 ++ [AO.list []] ++ [AO.list [AV.ref H6.length]] ++ [AO.list (rV (List.replicate m H6.length))] ++ [AO.list (rV (cp ++ List.replicate m H6.length))] ++ [AO.list [.ref y0, .ref y1, .ref y2]] = H11 at S11 B11 ⊢
  generalize H6.length = y6 at *
  have g0 : H11[y3]? = some (.list [.ref y0, .ref y1, .ref y2]) := S11.getj 0 rfl
  have g1 : H11[y0]? = some (.list (sV (Tc.names ++ List.replicate m ""))) := S11.getj 8 rfl
  have g2 : H11[y1]? = some (.list (sV (Tc.spaces ++ List.replicate m ""))) := S11.getj 5 rfl
  have g3 : H11[y2]? = some (.list (rV (cp ++ List.replicate m y6))) := S11.getj 1 rfl
  have g4 : H11[y6]? = some (.list []) := S11.getj 4 rfl
  have kp : ∀ {H : AH} {a : Nat} {o : AO} (K : AH), H[a]? = some o → (H ++ K)[a]? = some o := fun K e => by
    rw [List.getElem?_append_left (List.getElem?_eq_some_iff.mp e).1]; exact e
  clear S1 S2 S3 S4 S5 S6 S7 S8 S9 S10 S11 B1 B2 B3 B4 B5 B6 B7 B8 B9 B10 x1 x2 x3 x4 x5 x6 x8 x9 hH3 hH6 hx0 hx1 hx2 hx3 S
  -- the test
  have B12 := B11.keep [AO.list [.ref (h + 7), .ref (h + 6), .ref (h + 8)]]
  have gn : (H11 ++ [AO.list [.ref (h + 7), .ref (h + 6), .ref (h + 8)]])[H11.length]? = some (.list [.ref (h + 7), .ref (h + 6), .ref (h + 8)]) := gK0
  have B13 := B12.keep [AO.list []]
  have ge : (H11 ++ [AO.list [.ref (h + 7), .ref (h + 6), .ref (h + 8)]] ++ [AO.list []])[(H11 ++ [AO.list [.ref (h + 7), .ref (h + 6), .ref (h + 8)]]).length]? = some (.list []) := gK0
  have tn := t_names B12
  have ts := t_spaces B12
  rw [E.names] at tn
  rw [E.spaces] at ts
  have n1 : cmpA (H11 ++ [AO.list [.ref (h + 7), .ref (h + 6), .ref (h + 8)]]) .NotEq (.ref H11.length) (.ref y3) = some false := by
    refine ne_of (aeq_list gn (kp _ g0) rfl (aeqL_cons (aeq_sV (n := 3) tn (kp _ g1)) (aeqL_cons (aeq_sV (n := 3) ts (kp _ g2)) (aeqL_cons (aeq_list (n := 4) (t_attrs B12) (kp _ g3) ?_ (aeqL_ar (n := 3) T.ar _ ?_ (fun p hp => t_ar B12 hp) ?_)) aeqL_nil))))
    · simp only [List.length_map, List.length_append, List.length_replicate]; lia
    · simp only [List.length_append, List.length_replicate]; lia
    · intro p hp
      rcases List.mem_append.mp hp with z | z
      · exact bas B12 (mc p z)
      · rw [(List.mem_replicate.mp z).2]; exact kp _ g4
  have n2 : cmpA (H11 ++ [AO.list [.ref (h + 7), .ref (h + 6), .ref (h + 8)]]) .NotEq (.ref (h + 17)) (.ref ln) = some false := ne_of (aeq_iV (n := 4) (b_items B12) (f_line B12))
  have n3 : cmpA (H11 ++ [AO.list [.ref (h + 7), .ref (h + 6), .ref (h + 8)]] ++ [AO.list []]) .NotEq (.ref (h + 23)) (.ref (H11 ++ [AO.list [.ref (h + 7), .ref (h + 6), .ref (h + 8)]]).length) = some false :=
    ne_of (aeq_list (b_errors B13) ge rfl rfl)
  ((with_reducible refine sc ?_))
  ((with_reducible refine bs_ifs (bt_or (bts_cons (bt_cmp (be_lst (bes_cons (be_attr ?_))))))); refine bvar (by (simp only [List.lookup_cons, String.reduceBEq]; first | done | assumption | rfl)) ?_; (with_reducible refine battr (a_names B11) ?_); (with_reducible refine bkEs1_cons (be_attr ?_)); refine bvar (by (simp only [List.lookup_cons, String.reduceBEq]; first | done | assumption | rfl)) ?_; (with_reducible refine battr (a_spaces B11) ?_); (with_reducible refine bkEs1_cons (be_attr ?_)); refine bvar (by (simp only [List.lookup_cons, String.reduceBEq]; first | done | assumption | rfl)) ?_; (with_reducible refine battr (a_attrs B11) ?_); (with_reducible refine bkEs1_nil (bkEs2_eq (bkEs2_eq ?_))); simp only [String.reduceBEq, BEq.rfl, opt_some, List.lookup_cons, true_implies, false_implies, and_true, true_and, Bool.false_eq_true, eq_self, List.length_cons, List.length_nil, Nat.reduceAdd, Nat.zero_add, Nat.zero_le, lim_3, cont_next, wSs_nil, kv_eq, e_var, e_attr, kAttr_eq, kc1_eq, kc2_eq, e_lst, kLst_eq, es_nil, t_cmp, ts_nil, ts_cons, kTs_f, kIf_eq, h1, h6, a_names B11, a_spaces B11, a_attrs B11, n1, a_stack B12, a_items B12, n2, a_errors B12, n3])
  have tk := t_kinds B13
  have tt := t_texts B13
  have tp := t_parents B13
  have kk := q_kinds (SK B13)
  have kt := q_texts (SK B13)
  have kpp := q_parents (SK B13)
  rw [Mt.kinds] at kk
  rw [Mt.texts] at kt
  rw [Mt.parents] at kpp
  generalize hH13 : H11 ++ [AO.list [.ref (h + 7), .ref (h + 6), .ref (h + 8)]] ++ [AO.list []] = H13 at *
  have e1 : cmpA H13 .Eq (.tup [.ref (h + 5), .ref (h + 9), .ref (h + 10), .ref (h + 11)]) (.tup [.ref k0, .ref k1, .ref k2, .ref k3]) = some true := by
    refine eq_of (aeq_tup (n := 5) (aeqL_cons (aeq_sV (n := 3) tk kk) (aeqL_cons (aeq_sV (n := 3) tt kt) (aeqL_cons (aeq_iV (n := 3) tp kpp) (aeqL_cons (aeq_list (n := 4) (t_children B13) (q_children (SK B13)) ?_ (aeqL_ch (n := 2) T.ch K.ch Mt.ch.symm ?_ ?_)) aeqL_nil)))))
    · have := congrArg List.length Mt.ch
      rw [List.length_map, List.length_map] at this
      rw [List.length_map, List.length_map]; exact this.symm
    · intro p hp
      obtain ⟨j, hj⟩ := List.mem_iff_getElem?.mp hp
      exact t_ch B13 (j := j) (r := p.1) (l := p.2) hj
    · intro p hp
      exact (SK B13).get (List.mem_append_right _ (List.mem_append_right _ (List.mem_map.mpr ⟨p, hp, rfl⟩)))
  have e2 : cmpA H13 .Eq (.ref (h + 12)) (.ref wr) = some true := eq_of (aeq_contD (n := 4) (t_contents B13) (f_cont B13) nd)
  ((with_reducible refine sc ?_))
  ((with_reducible refine bs_ret (be_and (bb_cons (be_cmp (be_tup (bes_cons (be_attr ?_))))))); refine bvar (by (simp only [List.lookup_cons, String.reduceBEq]; first | done | assumption | rfl)) ?_; (with_reducible refine battr (a_kinds B13) ?_); (with_reducible refine bkEs1_cons (be_attr ?_)); refine bvar (by (simp only [List.lookup_cons, String.reduceBEq]; first | done | assumption | rfl)) ?_; (with_reducible refine battr (a_texts B13) ?_); (with_reducible refine bkEs1_cons (be_attr ?_)); refine bvar (by (simp only [List.lookup_cons, String.reduceBEq]; first | done | assumption | rfl)) ?_; (with_reducible refine battr (a_parents B13) ?_); (with_reducible refine bkEs1_cons (be_attr ?_)); refine bvar (by (simp only [List.lookup_cons, String.reduceBEq]; first | done | assumption | rfl)) ?_; (with_reducible refine battr (a_children B13) ?_); (with_reducible refine bkEs1_nil (bkEs2_eq (bkEs2_eq (bkEs2_eq (bkTup_4 (bkc1_eq ?_)))))); refine bvar (by (simp only [List.lookup_cons, String.reduceBEq]; first | done | assumption | rfl)) ?_; (with_reducible refine bcmp (by assumption) ?_); (with_reducible refine bkCmp3_eq (bkB1 (bkB2_tt (bb_one (be_cmp (be_attr ?_)))))); refine bvar (by (simp only [List.lookup_cons, String.reduceBEq]; first | done | assumption | rfl)) ?_; (with_reducible refine battr (a_contents B13) ?_); (with_reducible refine bkc1_eq (be_sub ?_)); refine bvar (by (simp only [List.lookup_cons, String.reduceBEq]; first | done | assumption | rfl)) ?_; (with_reducible refine bkSub1_eq (bwE_int ?_)); simp only [opt_some, cont_ret, kv_eq, kSub2_eq, kc2_eq, kCmp3_eq, kRet_eq, a_kinds B13, a_texts B13, a_parents B13, a_children B13, a_contents B13, e2, t4_3])
  exact q _ H13 B13
end
end Mine
end
section
set_option maxRecDepth 100000
namespace Mine
section
variable {H : AH} {h : Nat} {T : Tr} {f : Bool} {line : List Int} {M R : List (Nat × AO)} {Q : AF → AE → AH → Prop} {d B m : Nat} {ln nm up wr k0 k1 k2 k3 dg : Nat} {named : List (Int × String)} {ups : List (Int × Int)} {K : Kp} {ρ : AE} {ds : List Int}

/-- the copies -/
theorem scene_k (C : Scn B T line named ups) (S : Sat H (SD h T f line ln nm up wr named ups M)) (h2 : ρ.lookup "tree" = some (.ref (h + 4))) {rest : MSs}
    (q : ∀ H' k0 k1 k2 k3 n0 n1 n2 n3 K M' cp, Sat H' (SD h T f line ln nm up wr named ups ((M' ++ M) ++ keptD k0 k1 k2 k3 K)) → Mat T K → (n0, AO.list (sV T.names)) ∈ M' → (n1, AO.list (sV T.spaces)) ∈ M' → (n2, AO.list (rV cp)) ∈ M' → (∀ r ∈ cp, (r, AO.list []) ∈ M') → (n3, AO.list [.ref n0, .ref n1, .ref n2]) ∈ M' → cp.length = T.ar.length →
      wSs (d + 4) rest (("named", .ref n3) :: ("kept", .tup [.ref k0, .ref k1, .ref k2, .ref k3]) :: ρ) H' Q) :
    wSs (d + 4) (.cons (.assign "kept" (.tup (.cons (.call "list" (.cons (.attr (.var "tree") "kinds") .nil)) (.cons (.call "list" (.cons (.attr (.var "tree") "texts") .nil)) (.cons (.call "list" (.cons (.attr (.var "tree") "parents") .nil)) (.cons (.comp (.call "list" (.cons (.var "each") .nil)) "each" (.attr (.var "tree") "children") .absent []) .nil)))))) (.cons (.assign "named" (.lst (.cons (.call "list" (.cons (.attr (.var "tree") "names") .nil)) (.cons (.call "list" (.cons (.attr (.var "tree") "spaces") .nil)) (.cons (.comp (.call "list" (.cons (.var "pairs") .nil)) "pairs" (.attr (.var "tree") "attrs") .absent []) .nil))))) rest)) ρ H Q := by
  have hlim := lim_ge
  have L := C.inv.ln
  have lB := L.hB
  have lT := L.le
  have l1 := L.spaces
  have l2 := L.names
  have l3 := L.ar
  have l4 := L.texts
  have l5 := L.parents
  have l6 := L.ch
  have sl : ∀ l : List String, l.length = T.kinds.length → (sV l).length ≤ lim := fun l e => by rw [List.length_map]; lia
  ((with_reducible refine sc ?_))
  have B1 := S.keep [AO.list (sV T.kinds)]
  have B2 := B1.keep [AO.list (sV T.texts)]
  have B3 := B2.keep [AO.list (iV T.parents)]
  ((with_reducible refine bs_assign (be_tup (bes_cons (be_call (bes_cons (be_attr ?_)))))); (with_reducible refine bvar (by assumption) ?_); (with_reducible refine battr (a_kinds S) ?_); (with_reducible refine bkEs1_nil (bc_list ?_)); (with_reducible refine boptr (listOf_ref (t_kinds S) (sl _ rfl)) ?_); (with_reducible refine bkEs1_cons (be_call (bes_cons (be_attr ?_)))); (with_reducible refine bvar (by assumption) ?_); (with_reducible refine battr (a_texts B1) ?_); (with_reducible refine bkEs1_nil (bc_list ?_)); (with_reducible refine boptr (listOf_ref (t_texts B1) (sl _ l4)) ?_); (with_reducible refine bkEs1_cons (be_call (bes_cons (be_attr ?_)))); (with_reducible refine bvar (by assumption) ?_); (with_reducible refine battr (a_parents B2) ?_); (with_reducible refine bkEs1_nil (bc_list ?_)); (with_reducible refine boptr (listOf_ref (t_parents B2) (by rw [List.length_map]; lia)) ?_); (with_reducible refine bkEs1_cons (be_comp (be_attr ?_))); (with_reducible refine bvar (by assumption) ?_); (with_reducible refine battr (a_children B3) ?_); (with_reducible refine bkComp_ref ?_); simp only [a_kinds S, listOf_ref (t_kinds S) (sl _ rfl), a_texts B1, listOf_ref (t_texts B1) (sl _ l4), a_parents B2, listOf_ref (t_parents B2) (by rw [List.length_map]; lia), a_children B3, filt0])
  have S4 := (((S.pushE (AO.list (sV T.kinds))).pushE (AO.list (sV T.texts))).pushE (AO.list (iV T.parents))).pushE (AO.list [])
  generalize (H ++ [AO.list (sV T.kinds)] ++ [AO.list (sV T.texts)] ++ [AO.list (iV T.parents)]).length = k3 at *
  generalize (H ++ [AO.list (sV T.kinds)] ++ [AO.list (sV T.texts)]).length = k2 at *
  generalize (H ++ [AO.list (sV T.kinds)]).length = k1 at *
  generalize (H ++ [AO.list (sV T.kinds)] ++ [AO.list (sV T.texts)] ++ [AO.list (iV T.parents)] ++ [AO.list []]) = H4 at *
  generalize H.length = k0 at *
  have S5 : Sat H4 (SD h T f line ln nm up wr named ups M ++ keptD k0 k1 k2 k3 { kinds := T.kinds, texts := T.texts, parents := T.parents, ch := [] }) := by
    have e : SD h T f line ln nm up wr named ups M ++ keptD k0 k1 k2 k3 { kinds := T.kinds, texts := T.texts, parents := T.parents, ch := [] } = SD h T f line ln nm up wr named ups M ++ [(k0, AO.list (sV T.kinds))] ++ [(k1, AO.list (sV T.texts))] ++ [(k2, AO.list (iV T.parents))] ++ [(k3, AO.list [])] := by
      unfold keptD keptF; simp only [List.append_assoc, List.map_nil, List.append_nil, List.cons_append, List.nil_append]
    rw [e]; exact S4
  clear S4 S B1 B2 B3
  refine ⟨T.ch.length + 1, comp_ch (A := SD h T f line ln nm up wr named ups M) (K := { kinds := T.kinds, texts := T.texts, parents := T.parents, ch := [] }) (src := T.ch) (a := h + 11) (fun H K S => ?_) (by lia) (fun p hp => by have := L.cle p hp; lia) T.ch.length 0 [] H4 (by lia) rfl S5 fun H5 done hdone S6 => ?_⟩
  · have S' : Sat H (SD h T f line ln nm up wr named ups M) := S.left
    refine ⟨t_children S', fun p hp => ?_⟩
    obtain ⟨j, hj⟩ := List.mem_iff_getElem?.mp hp
    exact t_ch S' (j := j) (r := p.1) (l := p.2) hj
  -- named
  have Mt : Mat T { kinds := T.kinds, texts := T.texts, parents := T.parents, ch := done } := ⟨rfl, rfl, rfl, hdone⟩
  dsimp only at S6
  generalize ({ kinds := T.kinds, texts := T.texts, parents := T.parents, ch := done } : Kp) = K at *
  ((with_reducible refine bkEs1_nil (bkEs2_eq (bkEs2_eq (bkEs2_eq (bkTup_4 (bkAs_c ?_)))))); (with_reducible refine sc ?_))
  have S6' : Sat H5 (SD h T f line ln nm up wr named ups M) := S6.left
  have C1 := S6'.keep [AO.list (sV T.names)]
  have C2 := C1.keep [AO.list (sV T.spaces)]
  ((with_reducible refine bs_assign (be_lst (bes_cons (be_call (bes_cons (be_attr ?_)))))); refine bvar (by (simp only [setE, List.lookup_cons, String.reduceBEq]; first | done | assumption | rfl)) ?_; (with_reducible refine battr (a_names S6') ?_); (with_reducible refine bkEs1_nil (bc_list ?_)); (with_reducible refine boptr (listOf_ref (t_names S6') (sl _ l2)) ?_); (with_reducible refine bkEs1_cons (be_call (bes_cons (be_attr ?_)))); refine bvar (by (simp only [setE, List.lookup_cons, String.reduceBEq]; first | done | assumption | rfl)) ?_; (with_reducible refine battr (a_spaces C1) ?_); (with_reducible refine bkEs1_nil (bc_list ?_)); (with_reducible refine boptr (listOf_ref (t_spaces C1) (sl _ l1)) ?_); (with_reducible refine bkEs1_cons (be_comp (be_attr ?_))); refine bvar (by (simp only [setE, List.lookup_cons, String.reduceBEq]; first | done | assumption | rfl)) ?_; (with_reducible refine battr (a_attrs C2) ?_); (with_reducible refine bkComp_ref ?_); simp only [a_names S6', listOf_ref (t_names S6') (sl _ l2), a_spaces C1, listOf_ref (t_spaces C1) (sl _ l1), a_attrs C2, filt0]; simp only [setE, a_names S6', listOf_ref (t_names S6') (sl _ l2), a_spaces C1, listOf_ref (t_spaces C1) (sl _ l1), a_attrs C2])
  have S7 := ((S6.push (AO.list (sV T.names))).push (AO.list (sV T.spaces))).push (AO.list [])
  generalize (H5 ++ [AO.list (sV T.names)] ++ [AO.list (sV T.spaces)]).length = n2 at *
  generalize (H5 ++ [AO.list (sV T.names)] ++ [AO.list (sV T.spaces)] ++ [AO.list []]) = H6 at *
  generalize (H5 ++ [AO.list (sV T.names)]).length = n1 at *
  generalize H5.length = n0 at *
  clear C1 C2 S6 S6'
  refine ⟨T.ar.length + 1, comp_ar (D := (n1, AO.list (sV T.spaces)) :: (n0, AO.list (sV T.names)) :: (SD h T f line ln nm up wr named ups M ++ keptD k0 k1 k2 k3 K)) (src := T.ar) (a := h + 8) (fun H S => ?_) (by lia) T.ar.length 0 [] H6 (by lia) rfl S7 fun H7 cp hcp S8 => ?_⟩
  · have S' : Sat H (SD h T f line ln nm up wr named ups M) := (S.sub (((List.Sublist.refl _).cons _).cons _) : Sat H (SD h T f line ln nm up wr named ups M ++ keptD k0 k1 k2 k3 K)).left
    exact ⟨t_attrs S', fun p hp => t_ar S' hp⟩
  have S9 := S8.push (AO.list [.ref n0, .ref n1, .ref n2])
  ((with_reducible refine bkEs1_nil (bkEs2_eq (bkEs2_eq ?_))); simp only [setE, true_and, List.length_cons, List.length_nil, Nat.reduceAdd, Nat.zero_add, lim_3, cont_next, kLst_eq, kAs_eq])
  refine q _ k0 k1 k2 k3 n0 n1 n2 H7.length K ((H7.length, AO.list [.ref n0, .ref n1, .ref n2]) :: (n2, AO.list (rV cp)) :: (arD cp ++ [(n1, AO.list (sV T.spaces)), (n0, AO.list (sV T.names))])) cp ?_ Mt ?_ ?_ ?_ ?_ ?_ hcp
  · have e : (H7.length, AO.list [.ref n0, .ref n1, .ref n2]) :: (n2, AO.list (rV cp)) :: (arD cp ++ (n1, AO.list (sV T.spaces)) :: (n0, AO.list (sV T.names)) :: (SD h T f line ln nm up wr named ups M ++ keptD k0 k1 k2 k3 K)) =
        ((H7.length, AO.list [.ref n0, .ref n1, .ref n2]) :: (n2, AO.list (rV cp)) :: (arD cp ++ [(n1, AO.list (sV T.spaces)), (n0, AO.list (sV T.names))])) ++ ((treeD h T ++ (bldD h f line ++ factD ln nm up wr line named ups T.cont)) ++ (M ++ keptD k0 k1 k2 k3 K)) := by
      simp only [List.append_assoc, List.cons_append, List.nil_append]
    rw [e] at S9
    have S10 := S9.perm (perm_swap _ _ _)
    simp only [List.append_assoc, List.cons_append, List.nil_append] at S10 ⊢
    exact S10
  · simp
  · simp
  · simp
  · intro r hr
    refine List.mem_cons_of_mem _ (List.mem_cons_of_mem _ (List.mem_append_left _ (List.mem_map.mpr ⟨r, hr, rfl⟩)))
  · simp

noncomputable def bodyT : MSs := (.cons (.ifs (.cmp .Eq (.var "text") (.str "p")) (.cons (.assign "foster" (.not (.var "foster"))) (.cons (.setattr (.var "builder") "is_foster" (.var "foster")) .nil)) .nil) (.cons (.ifs (.cmp .Eq (.var "text") (.str "k")) (.cons (.expr (.call "insert_comment" (.cons (.var "builder") (.cons (.var "text") .nil)))) .nil) (.cons (.expr (.call "insert_sign" (.cons (.var "builder") (.cons (.var "text") .nil)))) .nil)) (.cons (.expr (.call "_law_put" (.cons (.var "kept") (.cons (.call "_law_spot" (.cons (.var "facts") (.cons (.var "last") (.cons (.var "foster") .nil)))) (.cons (.ite (.cmp .Eq (.var "text") (.str "k")) (.str "comment") (.str "text")) (.cons (.var "text") .nil)))))) .nil)))

/-- all the signs -/
theorem signs : ∀ (ts : List String) (B : Nat) (T : Tr) (K : Kp) (f : Bool) (H : AH) (ρ : AE) (m : Nat), (∀ t ∈ ts, t.length ≤ 1) → B + 2 * ts.length ≤ 980 → Scn B T line named ups → Sat H (SD h T f line ln nm up wr named ups (M ++ keptD k0 k1 k2 k3 K)) → Mat T K →
    ρ.lookup "builder" = some (.ref (h + 2)) → ρ.lookup "facts" = some (.tup [.ref ln, .ref nm, .ref up, .ref wr]) → ρ.lookup "foster" = some (.bool f) → ρ.lookup "last" = some (.int (lastL line)) → ρ.lookup "kept" = some (.tup [.ref k0, .ref k1, .ref k2, .ref k3]) →
    (∀ H' T' K' f' ρ' m, m ≤ ts.length → Sat H' (SD h T' f' line ln nm up wr named ups (M ++ keptD k0 k1 k2 k3 K')) → Scn (B + 2 * ts.length) T' line named ups → Mat T' K' → Ex T T' m → Same ["text", "foster"] ρ ρ' → Q .next ρ' H') →
    XFv (d + 4) "text" (sV ts) bodyT ρ H Q := by
  intro ts
  induction ts with
  | nil =>
    intro B T K f H ρ m ht hB C S Mt h1 h2 h3 h4 h5 q
    exact XFv_nil (q H T K f ρ 0 (Nat.le_refl _) S C Mt .refl .refl)
  | cons t r ih =>
    intro B T K f H ρ m ht hB C S Mt h1 h2 h3 h4 h5 q
    rw [List.length_cons] at hB
    refine fv_cons ?_
    refine turn C (by lia) S Mt (ht t List.mem_cons_self) (by simp only [String.reduceBEq, List.lookup_cons, setE, eq_self, h1]) (by simp only [String.reduceBEq, List.lookup_cons, setE, eq_self, h2]) (by simp only [String.reduceBEq, List.lookup_cons, setE, eq_self, h3]) (by simp only [String.reduceBEq, List.lookup_cons, setE, eq_self, h4]) (by simp only [String.reduceBEq, List.lookup_cons, setE, eq_self, h5]) (by simp only [BEq.rfl, List.lookup_cons, setE, eq_self]) fun H1 T1 K1 f1 ρ1 m1 hm1 S1 C1 M1 E1 hf1 sm1 => ?_
    have sm1' : Same ["text", "foster"] ρ ρ1 := Same.trans (Same.set (by simp)) fun x hx => sm1 x fun z => hx (List.mem_cons_of_mem _ z)
    refine ih (B + 2) T1 K1 f1 H1 ρ1 0 (fun s hs => ht s (List.mem_cons_of_mem _ hs)) (by lia) C1 S1 M1 (sm1'.get (by decide) h1) (sm1'.get (by decide) h2) hf1 (sm1'.get (by decide) h4) (sm1'.get (by decide) h5) fun H2 T2 K2 f2 ρ2 m2 hm2 S2 C2 M2 E2 sm2 => ?_
    refine q H2 T2 K2 f2 ρ2 (m1 + m2) (by rw [List.length_cons]; lia) S2 ?_ M2 (E1.trans E2) (sm1'.trans sm2)
    have e : B + 2 * (t :: r).length = B + 2 + 2 * r.length := by rw [List.length_cons]; lia
    rw [e]; exact C2

theorem scene_b (C : Scn 57 T line named ups) (nd : (T.cont.map (·.1)).Nodup) (S : Sat H (SD h T f line ln nm up wr named ups R)) (hd : (dg, .list (iV ds)) ∈ R) (h6 : ds.length = 6)
    (h1 : ρ.lookup "builder" = some (.ref (h + 2))) (h2 : ρ.lookup "tree" = some (.ref (h + 4))) (h3 : ρ.lookup "facts" = some (.tup [.ref ln, .ref nm, .ref up, .ref wr])) (h4 : ρ.lookup "digits" = some (.ref dg))
    (q : ∀ ρ' H', Sat H' R → Q (.ret (.bool true)) ρ' H') :
    wSs (d + 4) (.cons (.assign "line" (.sub (.var "facts") (.int 0))) (.cons (.assign "last" (.sub (.var "line") (.neg (.int 1)))) (.cons (.assign "more" (.bin .Mod (.bin .FloorDiv (.sub (.var "digits") (.int 5)) (.int 2)) (.int 3))) (.cons (.ifs (.cmp .Gt (.var "more") (.int 0)) (.cons (.expr (.meth (.var "tree") "append" (.cons (.meth (.sub (.var "facts") (.int 3)) "get" (.cons (.var "last") (.cons (.var "last") .nil))) (.cons (.ite (.cmp .Eq (.var "more") (.int 1)) (.meth (.var "tree") "text" (.cons (.str "z") .nil)) (.meth (.var "tree") "comment" (.cons (.str "y") .nil))) .nil)))) .nil) .nil) (.cons (.for "foster" (.tup (.cons (.bool false) (.cons (.bool true) .nil))) (.cons (.setattr (.var "builder") "is_foster" (.var "foster")) (.cons (.ifs (.cmp .NotEq (.call "place_for" (.cons (.var "builder") .nil)) (.call "_law_spot" (.cons (.var "facts") (.cons (.var "last") (.cons (.var "foster") .nil))))) (.cons (.ret (.bool false)) .nil) .nil) (.cons (.for "here" (.var "line") (.cons (.ifs (.cmp .NotEq (.call "place_for" (.cons (.var "builder") (.cons (.var "here") .nil))) (.call "_law_spot" (.cons (.var "facts") (.cons (.var "here") (.cons (.var "foster") .nil))))) (.cons (.ret (.bool false)) .nil) .nil) .nil)) .nil)))) (.cons (.assign "kept" (.tup (.cons (.call "list" (.cons (.attr (.var "tree") "kinds") .nil)) (.cons (.call "list" (.cons (.attr (.var "tree") "texts") .nil)) (.cons (.call "list" (.cons (.attr (.var "tree") "parents") .nil)) (.cons (.comp (.call "list" (.cons (.var "each") .nil)) "each" (.attr (.var "tree") "children") .absent []) .nil)))))) (.cons (.assign "named" (.lst (.cons (.call "list" (.cons (.attr (.var "tree") "names") .nil)) (.cons (.call "list" (.cons (.attr (.var "tree") "spaces") .nil)) (.cons (.comp (.call "list" (.cons (.var "pairs") .nil)) "pairs" (.attr (.var "tree") "attrs") .absent []) .nil))))) (.cons (.assign "foster" (.cmp .Eq (.bin .Mod (.sub (.var "digits") (.int 5)) (.int 2)) (.int 0))) (.cons (.setattr (.var "builder") "is_foster" (.var "foster")) (.cons (.for "text" (.tup (.cons (.str "m") (.cons (.str "n") (.cons (.str "k") (.cons (.str "o") (.cons (.str "p") .nil)))))) bodyT) (.cons (.expr (.call "insert_comment" (.cons (.var "builder") (.cons (.str "t") (.cons (.sub (.var "line") (.int 0)) .nil))))) (.cons (.expr (.call "_law_put" (.cons (.var "kept") (.cons (.tup (.cons (.sub (.var "line") (.int 0)) (.cons (.neg (.int 1)) .nil))) (.cons (.str "comment") (.cons (.str "t") .nil)))))) (.cons (.assign "many" (.bin .Sub (.call "len" (.cons (.sub (.var "kept") (.int 0)) .nil)) (.call "len" (.cons (.sub (.var "named") (.int 0)) .nil)))) (.cons (.assign "due" (.lst (.cons (.bin .Add (.sub (.var "named") (.int 0)) (.bin .Mult (.lst (.cons (.str "") .nil)) (.var "many"))) (.cons (.bin .Add (.sub (.var "named") (.int 1)) (.bin .Mult (.lst (.cons (.str "") .nil)) (.var "many"))) (.cons (.bin .Add (.sub (.var "named") (.int 2)) (.bin .Mult (.lst (.cons (.lst .nil) .nil)) (.var "many"))) .nil))))) (.cons (.ifs (.or (.cons (.cmp .NotEq (.lst (.cons (.attr (.var "tree") "names") (.cons (.attr (.var "tree") "spaces") (.cons (.attr (.var "tree") "attrs") .nil)))) (.var "due")) (.cons (.cmp .NotEq (.attr (.attr (.var "builder") "stack") "items") (.var "line")) (.cons (.cmp .NotEq (.attr (.var "builder") "errors") (.lst .nil)) .nil)))) (.cons (.ret (.bool false)) .nil) .nil) (.cons (.ret (.and (.cons (.cmp .Eq (.tup (.cons (.attr (.var "tree") "kinds") (.cons (.attr (.var "tree") "texts") (.cons (.attr (.var "tree") "parents") (.cons (.attr (.var "tree") "children") .nil))))) (.var "kept")) (.cons (.cmp .Eq (.attr (.var "tree") "contents") (.sub (.var "facts") (.int 3))) .nil)))) .nil)))))))))))))))) ρ H Q := by
  have hlim := lim_ge
  have hlen := C.len
  ((with_reducible refine sc ?_))
  ((with_reducible refine bs_assign (be_sub ?_)); (with_reducible refine bvar (by assumption) ?_); (with_reducible refine bkSub1_eq (bwE_int ?_)); simp only [opt_some, setE, cont_next, kv_eq, kSub2_eq, kAs_eq, t4_0])
  ((with_reducible refine sc ?_))
  have hl := sub_last (f_line S) C.pos (by lia)
  change subA H (.ref ln) (.int (-1)) = some (.int (lastL line)) at hl
  ((with_reducible refine bs_assign (be_sub ?_)); refine bvar rfl ?_; (with_reducible refine bkSub1_eq (be_neg1 ?_)); (with_reducible refine bsub2 (by assumption) ?_); (with_reducible refine bkAs_c ?_); simp only [setE])
  have gd : H[dg]? = some (.list (iV ds)) := S.get (mem_M hd)
  ((with_reducible refine sc ?_))
  ((with_reducible refine bs_assign (be_bin (be_bin (be_sub ?_)))); refine bvar (by (simp only [List.lookup_cons, String.reduceBEq]; first | done | assumption | rfl)) ?_; (with_reducible refine bkSub1_eq (bwE_int ?_)); (with_reducible refine bsub2 (sub_i gd (x := 5) (by decide) (by lia) (by lia)) ?_); (with_reducible refine bkBin1_eq (bwE_int ?_)); (with_reducible refine bbin (div_i (y := 2) (by decide) (by decide)) ?_); (with_reducible refine bkBin1_eq (bwE_int ?_)); (with_reducible refine bbin (mod_i (y := 3) (by decide) (by decide)) ?_); (with_reducible refine bkAs_c ?_); simp only [setE, sub_i gd (x := 5) (by decide) (by lia) (by lia), div_i (y := 2) (by decide) (by decide), mod_i (y := 3) (by decide) (by decide)])
  clear hl gd
  refine more_step (B := 57) C (by decide) S (by simp only [String.reduceBEq, List.lookup_cons, eq_self, h2]) (by simp only [String.reduceBEq, List.lookup_cons, eq_self, h3]) (mo := Int.fmod (Int.fdiv (gi ds 5) 2) 3) (by simp only [BEq.rfl, List.lookup_cons, eq_self]) (by simp only [String.reduceBEq, BEq.rfl, List.lookup_cons, eq_self]) fun H1 T1 m1 hm1 S1 C1 E1 => ?_
  refine foster_loop C1 (by decide) S1 (by simp only [String.reduceBEq, List.lookup_cons, eq_self, h1]) (by simp only [String.reduceBEq, List.lookup_cons, eq_self, h3]) (by simp only [String.reduceBEq, BEq.rfl, List.lookup_cons, eq_self]) (by simp only [String.reduceBEq, BEq.rfl, List.lookup_cons, eq_self]) fun H2 ρ2 S2 sm2 => ?_
  have r1 : ρ2.lookup "builder" = some (.ref (h + 2)) := sm2.get (by decide) (by simp only [String.reduceBEq, List.lookup_cons, eq_self, h1])
  have r2 : ρ2.lookup "tree" = some (.ref (h + 4)) := sm2.get (by decide) (by simp only [String.reduceBEq, List.lookup_cons, eq_self, h2])
  have r3 : ρ2.lookup "facts" = some (.tup [.ref ln, .ref nm, .ref up, .ref wr]) := sm2.get (by decide) (by simp only [String.reduceBEq, List.lookup_cons, eq_self, h3])
  have r4 : ρ2.lookup "digits" = some (.ref dg) := sm2.get (by decide) (by simp only [String.reduceBEq, List.lookup_cons, eq_self, h4])
  have r5 : ρ2.lookup "last" = some (.int (lastL line)) := sm2.get (by decide) (by simp only [String.reduceBEq, BEq.rfl, List.lookup_cons, eq_self])
  have r6 : ρ2.lookup "line" = some (.ref ln) := sm2.get (by decide) (by simp only [String.reduceBEq, BEq.rfl, List.lookup_cons, eq_self])
  refine scene_k C1 S2 r2 fun H3 k0 k1 k2 k3 n0 n1 n2 n3 K M' cp S3 Mt m0 m1' m2 mc m3 hcp => ?_
  ((with_reducible refine sc ?_))
  have gd3 : H3[dg]? = some (.list (iV ds)) := S3.get (mem_M (List.mem_append_left _ (List.mem_append_right _ hd)))
  ((with_reducible refine bs_assign (be_cmp (be_bin (be_sub ?_)))); refine bvar (by (simp only [List.lookup_cons, String.reduceBEq]; first | done | assumption | rfl)) ?_; (with_reducible refine bkSub1_eq (bwE_int ?_)); (with_reducible refine bsub2 (sub_i gd3 (x := 5) (by decide) (by lia) (by lia)) ?_); (with_reducible refine bkBin1_eq (bwE_int ?_)); (with_reducible refine bbin (mod_i (y := 2) (by decide) (by decide)) ?_); (with_reducible refine bkc1_eq (bwE_int ?_)); (with_reducible refine bcmp cmp_eq_i ?_); (with_reducible refine bkCmp3_eq (bkAs_c ?_)); simp only [setE, sub_i gd3 (x := 5) (by decide) (by lia) (by lia), mod_i (y := 2) (by decide) (by decide)])
  generalize decide (Int.fmod (gi ds 5) 2 = 0) = b
  ((with_reducible refine sc ?_))
  ((with_reducible refine bs_setattr ?_); refine bvar rfl ?_; (with_reducible refine bkSa1_eq ?_); refine bvar (by (simp only [List.lookup_cons, String.reduceBEq]; first | done | assumption | rfl)) ?_; (with_reducible refine bsa (u_foster S3 b) ?_); (with_reducible refine bcont_next ?_))
  have S4 := s_foster S3 b
  clear gd3 S3
  ((with_reducible refine sc ?_))
  ((with_reducible refine bs_for (be_tup (bes_cons (bwE_str (bkEs1_cons (bwE_str (bkEs1_cons (bwE_str (bkEs1_cons (bwE_str (bkEs1_cons (bwE_str (bkEs1_nil (bkEs2_eq (bkEs2_eq (bkEs2_eq (bkEs2_eq (bkTup_5 (bkFor_tup ?_))))))))))))))))))))
  refine signs (M := M' ++ R) ["m", "n", "k", "o", "p"] 59 T1 K b _ _ 0 (by decide) (by decide) C1 S4 Mt (by simp only [String.reduceBEq, List.lookup_cons, eq_self, r1]) (by simp only [String.reduceBEq, List.lookup_cons, eq_self, r3]) (by simp only [BEq.rfl, List.lookup_cons, eq_self]) (by simp only [String.reduceBEq, List.lookup_cons, eq_self, r5]) (by simp only [String.reduceBEq, BEq.rfl, List.lookup_cons, eq_self]) fun H5 T5 K5 f5 ρ5 m5 hm5 S5 C5 M5 E5 sm5 => ?_
  have t1 : ρ5.lookup "builder" = some (.ref (h + 2)) := sm5.get (by decide) (by simp only [String.reduceBEq, List.lookup_cons, eq_self, r1])
  have t2 : ρ5.lookup "tree" = some (.ref (h + 4)) := sm5.get (by decide) (by simp only [String.reduceBEq, List.lookup_cons, eq_self, r2])
  have t3 : ρ5.lookup "facts" = some (.tup [.ref ln, .ref nm, .ref up, .ref wr]) := sm5.get (by decide) (by simp only [String.reduceBEq, List.lookup_cons, eq_self, r3])
  have t5 : ρ5.lookup "kept" = some (.tup [.ref k0, .ref k1, .ref k2, .ref k3]) := sm5.get (by decide) (by simp only [String.reduceBEq, BEq.rfl, List.lookup_cons, eq_self])
  have t6 : ρ5.lookup "line" = some (.ref ln) := sm5.get (by decide) (by simp only [String.reduceBEq, List.lookup_cons, eq_self, r6])
  have t7 : ρ5.lookup "named" = some (.ref n3) := sm5.get (by decide) (by simp only [String.reduceBEq, BEq.rfl, List.lookup_cons, eq_self])
  change Scn 69 T5 line named ups at C5
  have I5 := C5.inv
  have o0 := C5.ok _ C5.mem0
  have sp : Spot T5 (gi line 0) (-1) := ⟨o0, .inl rfl⟩
  have gl0 : ∀ {H : AH}, H[ln]? = some (.list (iV line)) → subA H (.ref ln) (.int 0) = some (.int (gi line 0)) := fun e => sub_i e (by decide) (by have := C.pos; lia) (by lia)
  have cpos := C.pos
  ((with_reducible refine bcont_next ?_); (with_reducible refine sc ?_))
  ((try have ff2 := gl0 (f_line S5)); (with_reducible refine bs_expr (be_call (bes_cons ?_))); (with_reducible refine bvar (by assumption) ?_); (with_reducible refine bkEs1_cons (bwE_str (bkEs1_cons (be_sub ?_)))); (with_reducible refine bvar (by assumption) ?_); (with_reducible refine bkSub1_eq (bwE_int ?_)); (with_reducible refine bsub2 (by assumption) ?_); (with_reducible refine bkEs1_nil (bkEs2_eq (bkEs2_eq (bc_g5 ?_)))); (try clear ff2))
  refine c_insert_comment2 S5 I5 (by decide) C5.ok (by lia) (by decide) o0 fun H6 a1 a2 S6 => ?_
  refine ⟨.inl rfl, ?_⟩
  have I6 : Inv 71 (T5.put "comment" "t" (gi line 0) (-1) a1 a2) := I5.put (by decide) (by decide) (by decide) o0
  have E6 : Ex T5 (T5.put "comment" "t" (gi line 0) (-1) a1 a2) 1 := .put I5.ln
  have C6 := C5.ex E6 (by decide) I6
  have S6' : Sat H6 (SD h (T5.put "comment" "t" (gi line 0) (-1) a1 a2) f5 line ln nm up wr named ups ((M' ++ R) ++ keptD k0 k1 k2 k3 K5)) := S6
  have S6k := S6'
  rw [eqA] at S6k
  ((with_reducible refine bcont_next ?_); (with_reducible refine sc ?_))
  ((try have ff2 := gl0 (f_line S6')); (with_reducible refine bs_expr (be_call (bes_cons ?_))); (with_reducible refine bvar (by assumption) ?_); (with_reducible refine bkEs1_cons (be_tup (bes_cons (be_sub ?_)))); (with_reducible refine bvar (by assumption) ?_); (with_reducible refine bkSub1_eq (bwE_int ?_)); (with_reducible refine bsub2 (by assumption) ?_); (with_reducible refine bkEs1_cons (be_neg1 (bkEs1_nil (bkEs2_eq (bkTup_2 (bkEs1_cons (bwE_str (bkEs1_cons (bwE_str (bkEs1_nil (bkEs2_eq (bkEs2_eq (bkEs2_eq (bc_g10 ?_)))))))))))))); (try clear ff2))
  have kl := M5.kln I5
  refine c_law_put S6k kl o0.1 (by rw [M5.kinds]; exact o0.2) (.inl rfl) (by decide) fun H7 b1 b2 S7 => ?_
  refine ⟨.inl rfl, ?_⟩
  rw [← eqA] at S7
  have M6 := mat_comment (t := "t") (r1 := a1) (r2 := a2) (r3 := b1) (r4 := b2) M5 I5 sp
  have E : Ex T1 (T5.put "comment" "t" (gi line 0) (-1) a1 a2) (m5 + 1) := E5.trans E6
  have L1 := (C1.inv.mono (B' := 71) (by decide) (by decide)).ln
  have hm5' : m5 ≤ 5 := hm5
  refine scene_c C6 ?_ S7 M6 E (by lia) L1 (List.mem_append_left _ m0) (List.mem_append_left _ m1') (List.mem_append_left _ m2) (fun r hr => List.mem_append_left _ (mc r hr)) (List.mem_append_left _ m3) hcp t1 t2 t3 t5 t7 t6 fun ρ' H8 S8 => ?_
  · rw [E.cont, E1.cont]; exact nd
  · refine q ρ' H8 (S8.sub ?_)
    refine List.Sublist.trans ?_ (List.sublist_append_right _ _)
    refine List.Sublist.trans ?_ (List.sublist_append_right _ _)
    refine List.Sublist.trans ?_ (List.sublist_append_right _ _)
    exact List.Sublist.trans (List.sublist_append_right _ _) (List.sublist_append_left _ _)

theorem c_law_scene (S : Sat H R) (hd : (dg, .list (iV ds)) ∈ R) (h6 : ds.length = 6) {Q : AV → AH → Prop} (q : ∀ H', Sat H' R → Q (.bool true) H') : WC (d + 5) f_law_scene [.ref dg] H Q := by
  refine wc_of (ρ := [("digits", .ref dg)]) rfl ?_
  unfold f_law_scene
  dsimp only
  refine scene_a S hd h6 fun H1 h T line named ups ln nm up wr ρ S1 C1 nd h1 h2 h3 h4 => ?_
  exact scene_b C1 nd S1 hd h6 h1 h2 h3 h4 fun ρ' H' S' => q H' S'
end
end Mine
end
section
set_option maxRecDepth 100000
namespace Mine
theorem sat0 {H : AH} : Sat H [] := ⟨fun p hp => (by cases hp), List.nodup_nil⟩
noncomputable def basesV : AV := .tup [.tup (iV [5, 66, 8, 2, 9, 0]), .tup (iV [3, 198, 1, 7, 2, 2]), .tup (iV [22, 4, 6, 10, 1, 0]), .tup (iV [4, 22, 9, 5, 2, 4]), .tup (iV [5, 6, 1, 3, 8, 0]), .tup (iV [10, 33, 2, 7, 1, 0]), .tup (iV [4, 55, 1, 5, 2, 1]), .tup (iV [10, 110, 9, 5, 1, 0])]
theorem bases_at (s : Nat) (hs : s < 8) : ∃ l : List Int, l.length = 6 ∧ ∀ H, subA H basesV (.int (s : Int)) = some (.tup (iV l)) := by
  have : s = 0 ∨ s = 1 ∨ s = 2 ∨ s = 3 ∨ s = 4 ∨ s = 5 ∨ s = 6 ∨ s = 7 := by lia
  rcases this with rfl | rfl | rfl | rfl | rfl | rfl | rfl | rfl
  · exact ⟨[5, 66, 8, 2, 9, 0], rfl, fun _ => rfl⟩
  · exact ⟨[3, 198, 1, 7, 2, 2], rfl, fun _ => rfl⟩
  · exact ⟨[22, 4, 6, 10, 1, 0], rfl, fun _ => rfl⟩
  · exact ⟨[4, 22, 9, 5, 2, 4], rfl, fun _ => rfl⟩
  · exact ⟨[5, 6, 1, 3, 8, 0], rfl, fun _ => rfl⟩
  · exact ⟨[10, 33, 2, 7, 1, 0], rfl, fun _ => rfl⟩
  · exact ⟨[4, 55, 1, 5, 2, 1], rfl, fun _ => rfl⟩
  · exact ⟨[10, 110, 9, 5, 1, 0], rfl, fun _ => rfl⟩
section
variable {H : AH} {d : Nat} {xs : List Int}
theorem c_law_bases {Q : AV → AH → Prop} (q : Q basesV H) : WC (d + 1) f_law_bases [] H Q := by
  refine wc_of (ρ := []) rfl ?_
  unfold f_law_bases
  dsimp only
  ((with_reducible refine sc ?_))
  ((with_reducible refine bs_ret (be_tup (bes_cons (be_tup (bes_cons (bwE_int (bkEs1_cons (bwE_int (bkEs1_cons (bwE_int (bkEs1_cons (bwE_int (bkEs1_cons (bwE_int (bkEs1_cons (bwE_int (bkEs1_nil (bkEs2_eq (bkEs2_eq (bkEs2_eq (bkEs2_eq (bkEs2_eq ?_)))))))))))))))))))))); simp only [true_and, List.length_cons, List.length_nil, Nat.reduceAdd, Nat.zero_add, lim_6, lim_8, cont_ret, wE_int, e_tup, kTup_eq, es_cons, kEs1_nil, kEs1_cons, kEs2_eq, kRet_eq, kFn_r])
  exact q
theorem sub_sl {x : Int} (h0 : 0 ≤ x) (h1 : x < xs.length) (h2 : xs.length ≤ lim) : subA H (.sl xs) (.int x) = some (.int (gi xs x)) := by
  unfold subA; dsimp only
  rw [if_pos h0, idx_ok h0 h1 h2, Option.bind_some, List.getElem?_eq_getElem (toNat_lt h0 h1)]
  unfold gi; rw [List.getD_eq_getElem?_getD, List.getElem?_eq_getElem (toNat_lt h0 h1)]; rfl
theorem mul_i {x y : Int} (h0 : 0 ≤ x) (h1 : x ≤ lim) (h2 : 0 ≤ y) (h3 : y ≤ lim) : binA H .Mult (.int x) (.int y) = some (.int (x * y), H) := by
  unfold binA; dsimp only; rw [if_pos ⟨h0, h1, h2, h3⟩]
theorem len_sl (h : xs.length ≤ lim) : lenA H (.sl xs) = some (xs.length : Int) := by
  unfold lenA; dsimp only; rw [if_pos h]

theorem digits_loop (hx : xs.length ≤ 63) {s : Nat} (hs : s < 8) {dg : Nat} {Q : AF → AE → AH → Prop} :
    ∀ (ks : List Nat) (ds : List Int) (H : AH) (ρ : AE), (∀ k ∈ ks, k < 6) → ds.length + ks.length ≤ 100 → ρ.lookup "bases" = some basesV → ρ.lookup "scene" = some (.int (s : Int)) → ρ.lookup "script" = some (.sl xs) → ρ.lookup "digits" = some (.ref dg) →
      Sat H [(dg, .list (iV ds))] → (∀ H' ds' ρ', ds'.length = ds.length + ks.length → Sat H' [(dg, .list (iV ds'))] → Same ["k", "place"] ρ ρ' → Q .next ρ' H') →
      XFv d "k" (ks.map fun (j : Nat) => .int j) (.cons (.assign "place" (.bin .Add (.bin .Mult (.int 6) (.var "scene")) (.var "k"))) (.cons (.expr (.meth (.var "digits") "append" (.cons (.bin .Add (.sub (.sub (.var "bases") (.var "scene")) (.var "k")) (.ite (.cmp .Lt (.var "place") (.call "len" (.cons (.var "script") .nil))) (.sub (.var "script") (.var "place")) (.int 0))) .nil))) .nil)) ρ H Q := by
  have hlim := lim_ge
  obtain ⟨l, hl, hb⟩ := bases_at s hs
  intro ks
  induction ks with
  | nil =>
    intro ds H ρ hk hd h1 h2 h3 h4 S q
    exact XFv_nil (q H ds ρ rfl S .refl)
  | cons k r ih =>
    intro ds H ρ hk hd h1 h2 h3 h4 S q
    rw [List.length_cons] at hd
    have k6 := hk k List.mem_cons_self
    rw [List.map_cons]
    refine fv_cons ?_
    ((with_reducible refine sc ?_))
    ((with_reducible refine bs_assign (be_bin (be_bin (bwE_int (bkBin1_eq ?_))))); refine bvar (by (simp only [setE, List.lookup_cons, String.reduceBEq]; first | done | assumption | rfl)) ?_; (with_reducible refine bbin (mul_i (x := 6) (y := (s : Int)) (by decide) (by lia) (by lia) (by lia)) ?_); (with_reducible refine bkBin1_eq ?_); refine bvar rfl ?_; (with_reducible refine bbin bin_add ?_); (with_reducible refine bkAs_c ?_); simp only [setE, mul_i (x := 6) (y := (s : Int)) (by decide) (by lia) (by lia) (by lia)])
    have gD := S.getj 0 rfl
    ((with_reducible refine sc ?_))
    ((with_reducible refine bs_expr (be_meth ?_)); refine bvar (by (simp only [List.lookup_cons, String.reduceBEq]; first | done | assumption | rfl)) ?_; (with_reducible refine bkl (kind_list gD) rfl ?_); (with_reducible refine bes_cons (be_bin (be_sub (be_sub ?_)))); refine bvar (by (simp only [List.lookup_cons, String.reduceBEq]; first | done | assumption | rfl)) ?_; (with_reducible refine bkSub1_eq ?_); refine bvar (by (simp only [List.lookup_cons, String.reduceBEq]; first | done | assumption | rfl)) ?_; simp only [String.reduceBEq, BEq.rfl, opt_some, List.lookup_cons, cmp_lt, decide_eq_true_eq, decide_eq_false_iff_not, bin_add, wE_int, kv_eq, kr_eq, e_var, e_sub, kSub1_eq, kSub2_eq, kBin1_eq, kBin2_eq, kc1_eq, kc2_eq, e_ite, kIte_eq, e_call, kLen_e, kML_eq, es_cons, kEs1_nil, t_cmp, c_len, h3, kind_list gD, hb, tup_i (l := l) (x := (k : Int)) (by lia) (by lia) (by lia), len_sl (xs := xs) (by lia)])
    have next : ∀ v : Int, XFv d "k" (r.map fun (j : Nat) => .int j) (.cons (.assign "place" (.bin .Add (.bin .Mult (.int 6) (.var "scene")) (.var "k"))) (.cons (.expr (.meth (.var "digits") "append" (.cons (.bin .Add (.sub (.sub (.var "bases") (.var "scene")) (.var "k")) (.ite (.cmp .Lt (.var "place") (.call "len" (.cons (.var "script") .nil))) (.sub (.var "script") (.var "place")) (.int 0))) .nil))) .nil)) (("place", .int (6 * (s : Int) + (k : Int))) :: ("k", .int (k : Int)) :: ρ) (H.set dg (.list (iV (ds ++ [v])))) Q := by
      intro v
      have S1 : Sat (H.set dg (.list (iV (ds ++ [v])))) [(dg, .list (iV (ds ++ [v])))] := S.setj 0 (.list (iV (ds ++ [v]))) rfl
      refine ih (ds ++ [v]) _ _ (fun y hy => hk y (List.mem_cons_of_mem _ hy)) (by rw [List.length_append, List.length_singleton]; lia) (by simp only [String.reduceBEq, List.lookup_cons, eq_self, h1]) (by simp only [String.reduceBEq, List.lookup_cons, eq_self, h2]) (by simp only [String.reduceBEq, List.lookup_cons, eq_self, h3]) (by simp only [String.reduceBEq, List.lookup_cons, eq_self, h4]) S1 fun H' ds' ρ' hl' S' sm => ?_
      exact q H' ds' ρ' (by rw [hl', List.length_append, List.length_singleton, List.length_cons]; lia) S' (Same.trans (Same.trans (Same.set (by simp)) (Same.set (by simp))) sm)
    by_cases e : 6 * (s : Int) + (k : Int) < (xs.length : Int)
    · (simp only [not_true_eq_false, e, sub_sl (xs := xs) (x := 6 * (s : Int) + (k : Int)) (by lia) e (by lia), app_i gD (by lia)]; simp only [opt_some, true_implies, false_implies, and_true, bin_add, cont_next, wSs_nil, kv_eq, kr_eq, kBin2_eq, kML_eq, kEs1_nil, kEx_n, kFv_n, sub_sl (xs := xs) (x := 6 * (s : Int) + (k : Int)) (by lia) e (by lia), app_i gD (by lia)])
      exact next _
    · (simp only [not_false_eq_true, e, app_i gD (by lia)]; simp only [opt_some, true_implies, false_implies, true_and, cont_next, wSs_nil, kr_eq, kEx_n, kFv_n, app_i gD (by lia)])
      exact next _

theorem scenes_loop (hx : xs.length ≤ 63) {Q : AF → AE → AH → Prop} :
    ∀ (ks : List Nat) (H : AH) (ρ : AE), (∀ k ∈ ks, k < 8) → ρ.lookup "bases" = some basesV → ρ.lookup "script" = some (.sl xs) → (∀ H' ρ', Q .next ρ' H') →
      XFv (d + 5) "scene" (ks.map fun (j : Nat) => .int j) (.cons (.assign "digits" (.lst .nil)) (.cons (.for "k" (.call "range" (.cons (.int 6) .nil)) (.cons (.assign "place" (.bin .Add (.bin .Mult (.int 6) (.var "scene")) (.var "k"))) (.cons (.expr (.meth (.var "digits") "append" (.cons (.bin .Add (.sub (.sub (.var "bases") (.var "scene")) (.var "k")) (.ite (.cmp .Lt (.var "place") (.call "len" (.cons (.var "script") .nil))) (.sub (.var "script") (.var "place")) (.int 0))) .nil))) .nil))) (.cons (.ifs (.not (.call "_law_scene" (.cons (.var "digits") .nil))) (.cons (.ret (.bool false)) .nil) .nil) .nil))) ρ H Q := by
  have hlim := lim_ge
  have hlimI : (6 : Int) ≤ lim := by lia
  intro ks
  induction ks with
  | nil => intro H ρ hk h1 h2 q; exact XFv_nil (q H ρ)
  | cons k r ih =>
    intro H ρ hk h1 h2 q
    rw [List.map_cons]
    refine fv_cons ?_
    ((with_reducible refine sc ?_))
    ((with_reducible refine bs_assign (be_lst (bes_nil (bkLst_0 (bkAs_c ?_))))); simp only [setE])
    have S1 : Sat (H ++ [.list []]) [(H.length, .list (iV []))] := sat0.push (.list [])
    ((with_reducible refine sc ?_))
    ((with_reducible refine bs_for (be_call (bes_cons (bwE_int (bkEs1_nil ?_))))); simp only [true_and, kFor_rng, c_range, hlimI])
    refine ⟨by decide, by decide, ?_⟩
    refine digits_loop hx (hk k List.mem_cons_self) (List.range 6) [] _ (("digits", .ref H.length) :: ("scene", .int (k : Int)) :: ρ) (fun y hy => List.mem_range.mp hy) (by decide) (by simp only [String.reduceBEq, List.lookup_cons, eq_self, h1]) (by simp only [String.reduceBEq, BEq.rfl, List.lookup_cons, eq_self]) (by simp only [String.reduceBEq, List.lookup_cons, eq_self, h2]) (by simp only [BEq.rfl, List.lookup_cons, eq_self]) S1 fun H2 ds ρ2 hl S2 sm => ?_
    have g1 : ρ2.lookup "digits" = some (.ref H.length) := sm.get (by decide) (by simp only [BEq.rfl, List.lookup_cons, eq_self])
    ((with_reducible refine bcont_next ?_); (with_reducible refine sc ?_))
    ((with_reducible refine bs_ifs (bt_not (bt_call (be_call (bes_cons ?_))))); (with_reducible refine bvar (by assumption) ?_); (with_reducible refine bkEs1_nil (bc_g11 ?_)))
    refine c_law_scene S2 List.mem_cons_self hl fun H3 S3 => ?_
    ((with_reducible refine bkTr_b (bkTn_eq ?_)); simp only [Bool.not_true]; (with_reducible refine bkIf_f (bwSs_nil (bcont_next (bwSs_nil (bkFv_n ?_))))))
    exact ih H3 ρ2 (fun y hy => hk y (List.mem_cons_of_mem _ hy)) (sm.get (by decide) (by simp only [String.reduceBEq, List.lookup_cons, eq_self, h1])) (sm.get (by decide) (by simp only [String.reduceBEq, List.lookup_cons, eq_self, h2])) q

theorem c_law (hx : xs.length ≤ 63) : WC (d + 6) f_law [.sl xs] [] fun v _ => v = .bool true := by
  refine wc_of (ρ := [("script", .sl xs)]) rfl ?_
  unfold f_law
  dsimp only
  have hlim := lim_ge
  ((with_reducible refine sc ?_))
  simp only [wS]
  refine c_Builder (d := d + 2) (sat0 (H := [])) fun H1 S1 => ?_
  generalize ([] : AH).length = h at S1 ⊢
  have I0 := inv0 h
  ((with_reducible refine bcont_next ?_); simp only [setE])
  ((with_reducible refine sc ?_))
  ((with_reducible refine bs_expr (be_call (bes_cons ?_))); refine bvar rfl ?_; (with_reducible refine bkEs1_cons (bwE_str (bkEs1_nil (bkEs2_eq (bc_g4 ?_))))))
  refine c_insert_sign (d := d + 1) S1 I0 (by decide) (fun y hy => by cases hy) (Nat.zero_le _) (by decide) fun H2 r1 r2 S2 => ?_
  refine ⟨.inl rfl, ?_⟩
  have e0 : placeP (T0 h) [] false (-1) = (0, -1) := rfl
  have e1 : (T0 h).sign "s" 0 (-1) r1 r2 = T0 h := rfl
  rw [e0] at S2
  dsimp only at S2
  rw [e1] at S2
  clear S1
  ((with_reducible refine bcont_next ?_); (with_reducible refine sc ?_))
  ((with_reducible refine bs_ifs (bt_or (bts_cons (bt_cmp (be_call (bes_cons ?_)))))); refine bvar rfl ?_; (with_reducible refine bkEs1_nil (bc_g3 ?_)))
  refine c_place_for1 (d := d + 2) S2 I0.ln (fun y hy => by cases hy) (Nat.zero_le _) ?_
  rw [e0]
  have S3 := S2.push (.list [.str "document"])
  have B3 := S2.keep [.list [.str "document"]]
  have S4 := (B3.push (.list []))
  have S5 := S4.push (.list [.ref (H2 ++ [AO.list [AV.str "document"]]).length])
  have B5 := (B3.keep [.list []]).keep [.list [.ref (H2 ++ [AO.list [AV.str "document"]]).length]]
  have n1 : cmpA (H2 ++ [AO.list [AV.str "document"]]) .NotEq (.ref (h + 5)) (.ref H2.length) = some false :=
    ne_of (aeq_sV (n := 4) (l := ["document"]) (t_kinds B3) (S3.getj 0 rfl))
  have n2 : cmpA (H2 ++ [AO.list [AV.str "document"]] ++ [AO.list []] ++ [AO.list [.ref (H2 ++ [AO.list [AV.str "document"]]).length]]) .NotEq (.ref (h + 11)) (.ref (H2 ++ [AO.list [AV.str "document"]] ++ [AO.list []]).length) = some false :=
    ne_of (aeq_list (t_children B5) (S5.getj 0 rfl) rfl (aeqL_cons (aeq_list (t_ch B5 (j := 0) (r := h + 14) (l := []) rfl) (S5.getj 1 rfl) rfl rfl) aeqL_nil))
  ((with_reducible refine bkc1_eq (be_tup (bes_cons (bwE_int (bkEs1_cons (be_neg1 (bkEs1_nil (bkEs2_eq (bkTup_2 ?_))))))))); (with_reducible refine bcmp (ne_tup2) ?_); (with_reducible refine bkTs_ff (bts_cons (bt_cmp (be_attr (be_attr ?_))))); refine bvar rfl ?_; (with_reducible refine battr (a_tree S2) ?_); (with_reducible refine battr (a_kinds S2) ?_); (with_reducible refine bkc1_eq (be_lst (bes_cons (bwE_str (bkEs1_nil (bkLst_1 ?_)))))); (with_reducible refine bcmp (by assumption) ?_); (with_reducible refine bkTs_ff (bts_cons (bt_cmp (be_attr (be_attr ?_))))); refine bvar rfl ?_; (with_reducible refine battr (a_tree B3) ?_); (with_reducible refine battr (a_children B3) ?_); (with_reducible refine bkc1_eq (be_lst (bes_cons (be_lst (bes_nil (bkLst_0 (bkEs1_nil (bkLst_1 ?_)))))))); (with_reducible refine bcmp (by assumption) ?_); (with_reducible refine bkTs_ff (bts_nil (bkIf_f (bwSs_nil (bcont_next ?_))))))
  ((with_reducible refine sc ?_))
  ((with_reducible refine bs_assign (be_call (bes_nil (bc_g7 ?_)))))
  refine c_law_bases ?_
  have hlimI : (8 : Int) ≤ lim := by lia
  ((with_reducible refine bkAs_c ?_); (with_reducible refine sc ?_))
  ((with_reducible refine bs_for (be_call (bes_cons (bwE_int (bkEs1_nil ?_))))); simp only [setE, true_and, kFor_rng, c_range, hlimI])
  refine ⟨by decide, by decide, ?_⟩
  refine scenes_loop hx (List.range 8) _ _ (fun y hy => List.mem_range.mp hy) (by simp only [BEq.rfl, List.lookup_cons, eq_self]) (by simp only [String.reduceBEq, BEq.rfl, List.lookup_cons, eq_self]) fun H' ρ' => ?_
  ((with_reducible refine bcont_next ?_); (with_reducible refine sc ?_))
  ((with_reducible refine bs_ret (bwE_bool (bkRet_c (bkFn_r ?_)))); simp only [eq_self])

end
end Mine
end
section
open PySem PySem.W PySem.Calls PyProof.Rows PySem.SeqAt
set_option maxRecDepth 100000
set_option maxHeartbeats 4000000
namespace Mine
theorem join_core {prog : Program} {w : World} {K : Frag} {s₁ s : Shared} (W : Wd clm K s₁.heap) {name : Str} {scope : Scope} {fa : Addr} {cd : Value} {body : List Stmt} (hsc : scope.kind = .function) (hb : RSs scope f_law.body body) (hk : scope.names.lookup (Str.ofString "script") = some .local)
    (hcell : ∀ y ∈ scope.names, y.2 ≠ .cell) {ns : List Int} (hx : ns.length ≤ 63) {la : Addr} {cvs : List Value} (hIL : s₁.heap.IsList la cvs.toArray) (hI : IntsAre cvs ns)
    (F : Fr s₁.heap s₁.heap.objs.size s.heap (fun y => List.lookup y [(Str.ofString "script", Value.ref la)].reverse)) {Q : Flow → Shared → Prop} {E : Value → Shared → Prop}
    (hQ : ∀ h' t', (∀ b o, s₁.heap.get? b = some o → h'.get? b = some o) → Q (.ret (.bool true)) { s with heap := h', toks := t' }) :
    wpAny (model prog w) (callerA.deeper (envOf name scope s₁.heap.objs.size fa cd)) (execs body (envOf name scope s₁.heap.objs.size fa cd)) Q E s := by
  obtain ⟨ρ, hρ, he⟩ := opt_elim (c_law (d := 0) hx)
  have hb1 : bindA f_law.params f_law.dflts [.sl ns] = some [("script", .sl ns)] := rfl
  rw [hb1] at hρ
  cases hρ
  have C : Cx (callerA.deeper (envOf name scope s₁.heap.objs.size fa cd)) 5 := ⟨rfl, by show 1 + claimMargin + 1 + 4 * 5 + 8 < recursionLimit; decide, by show 4 + 3 + 16 * 5 + 32 < cLine; decide⟩
  have KO : KindOk (envOf name scope s₁.heap.objs.size fa cd) scope := fun x k q _ => q
  have big : ∃ b o, s₁.heap.objs.size ≤ b ∧ s.heap.get? b = some o := by
    obtain ⟨o, es, ep, ho, _⟩ := F.ns
    exact ⟨_, o, Nat.le_refl _, ho⟩
  have R : Rel clm s₁.heap [] [] s.heap := ⟨F.keep, rfl, List.nodup_nil, fun a m => (by cases m), big, fun i a ao q => (by cases q)⟩
  have FR : FrR s₁.heap (envOf name scope s₁.heap.objs.size fa cd) [("script", .sl ns)] [] s.heap := by
    refine ⟨hsc, rfl, rfl, ⟨_, F.ns, fun x v q => ?_⟩, fun n c m => (by cases m), List.Pairwise.nil, fun m => (by cases m), Nat.le_refl _, fun n q => ?_⟩
    · rw [List.lookup_cons] at q
      by_cases e : x = "script"
      · subst e
        rw [beq_self_eq_true] at q
        cases q
        refine .inl ⟨hk, .ref la, ?_, .sl hIL hI⟩
        show List.lookup (Str.ofString "script") [(Str.ofString "script", Value.ref la)] = _
        simp
      · rw [beq_eq_false_iff_ne.mpr e] at q
        cases q
    · exact absurd rfl (hcell _ (mem_of_lookup q))
  refine all_xs W (all_c W 5) f_law.body _ [] _ he scope body hb _ E s [] _ Q C KO R FR fun af ρ' H' hp f h' t' ι' R' _ _ hf => ?_
  cases af with
  | next => cases hp
  | ret v =>
    have hp : v = .bool true := hp
    subst hp
    obtain ⟨cv, rfl, hv⟩ := hf
    cases hv
    exact hQ h' t' R'.keep
end Mine
end
section
open PySem PySem.W PySem.Calls PyProof.Rows PySem.SeqAt
set_option maxRecDepth 100000
namespace Mine
noncomputable def main.tw13962693860625380366 : Nat := 0
noncomputable def main.tw2852251193174398662 : Nat := 0
noncomputable def main.tw15589955886551607785 : Nat := 0
noncomputable def main.tw11692516046256081784 : Nat := 0
noncomputable def main.tw11273777480241942364 : Nat := 0
noncomputable def main.tw5084117380071580128 : Nat := 0
noncomputable def main.tw11156056980113079860 : Nat := 0
noncomputable def main.tw14080665800827857628 : Nat := 0
noncomputable def main.tw14864641218109852296 : Nat := 0
noncomputable def main.tw14646587721710459877 : Nat := 0
noncomputable def main.tw7083192437325867461 : Nat := 0
noncomputable def main.tw13626721169425172152 : Nat := 0
noncomputable def main.tw11857135199678951331 : Nat := 0
noncomputable def main.tw15803610866087392283 : Nat := 0
noncomputable def main.tw15491723280356408159 : Nat := 0
noncomputable def main.tw15023316991559800185 : Nat := 0
noncomputable def main.tw12298629886278197574 : Nat := 0
noncomputable def main.tw10896356407431480244 : Nat := 0
noncomputable def main.tw17120147093228096131 : Nat := 0
noncomputable def main.tw12747388180105724736 : Nat := 0
noncomputable def main.tw4026956272090484662 : Nat := 0
noncomputable def main.tw11735423636902730196 : Nat := 0
noncomputable def main.tw5418533224930618480 : Nat := 0
noncomputable def main.tw17695171507069755227 : Nat := 0
noncomputable def main.tw15510692781650021527 : Nat := 0
noncomputable def main.tw17292155258170135553 : Nat := 0
noncomputable def main.tw4544244032028310869 : Nat := 0
noncomputable def main.tw1390771862084280389 : Nat := 0
noncomputable def main.tw8905464785575363620 : Nat := 0
noncomputable def main.tw5181119749688162637 : Nat := 0
noncomputable def main.tw15365013842991253249 : Nat := 0
noncomputable def main.tw4573282807186111410 : Nat := 0
noncomputable def main.tw9498315638749924794 : Nat := 0
noncomputable def main.tw13974046611088194958 : Nat := 0
noncomputable def main.tw12872379398031375081 : Nat := 0
noncomputable def main.tw15616401959046598769 : Nat := 0
noncomputable def main.tw8930851030842425676 : Nat := 0
noncomputable def main.tw16026485685270457870 : Nat := 0
noncomputable def main.tw2744014450722944760 : Nat := 0
noncomputable def main.tw12936808549087660027 : Nat := 0
noncomputable def main.tw16008457594558532635 : Nat := 0
noncomputable def main.tw8440099810896429113 : Nat := 0
noncomputable def main.tw9274054859765456524 : Nat := 0
noncomputable def main.tw12041191138299487052 : Nat := 0
noncomputable def main.tw3958507339218470045 : Nat := 0
noncomputable def main.tw14216407083858561409 : Nat := 0
noncomputable def main.tw31828345220925962 : Nat := 0
noncomputable def main.tw18287795668848337631 : Nat := 0
noncomputable def main.tw365850788961202214 : Nat := 0
noncomputable def main.tw5240779543111244032 : Nat := 0
noncomputable def main.tw14457758005677747962 : Nat := 0
noncomputable def main.tw15734200111481486640 : Nat := 0
noncomputable def main.tw16035907590883218939 : Nat := 0
noncomputable def main.tw14539993770535171780 : Nat := 0
noncomputable def main.tw3549514262204291990 : Nat := 0
noncomputable def main.tw7113585516715319716 : Nat := 0
noncomputable def main.tw9307664123825394698 : Nat := 0
noncomputable def main.tw5842977544298395883 : Nat := 0
noncomputable def main.tw17708487481403421675 : Nat := 0
noncomputable def main.tw6361450105264607166 : Nat := 0
noncomputable def main.tw1289389943133740499 : Nat := 0
noncomputable def main.tw1429040668314091153 : Nat := 0
noncomputable def main.tw3864431920445960829 : Nat := 0
noncomputable def main.tw15624239662980076321 : Nat := 0
noncomputable def main.tw11239335112260394413 : Nat := 0
noncomputable def main.tw917386388269078853 : Nat := 0
noncomputable def main.tw14722489848711283861 : Nat := 0
noncomputable def main.tw13180746182150919023 : Nat := 0
noncomputable def main.tw4637267157515435788 : Nat := 0
noncomputable def main.tw3045742163950154196 : Nat := 0
noncomputable def main.tw6697339332421208802 : Nat := 0
noncomputable def main.tw2173562974560187446 : Nat := 0
noncomputable def main.tw17147588175821073265 : Nat := 0
noncomputable def main.tw10450603732522932521 : Nat := 0
noncomputable def main.tw4423423576564373014 : Nat := 0
noncomputable def main.tw9994787619460420439 : Nat := 0
noncomputable def main.tw11399646045708457374 : Nat := 0
noncomputable def main.tw9483120023164983764 : Nat := 0
noncomputable def main.tw1826329307503635854 : Nat := 0
noncomputable def main.tw1678875084529416142 : Nat := 0
noncomputable def main.tw1545906260438175962 : Nat := 0
noncomputable def main.tw12623159325031504133 : Nat := 0
noncomputable def main.tw11020365191643786025 : Nat := 0
noncomputable def main.tw10140136200207757160 : Nat := 0
noncomputable def main.tw1677766988990989824 : Nat := 0
noncomputable def main.tw17958375852430007124 : Nat := 0
noncomputable def main.tw8844999433837080629 : Nat := 0
noncomputable def main.tw2629084897520917108 : Nat := 0
noncomputable def main.tw6741292078354696603 : Nat := 0
noncomputable def main.tw5127751686995613262 : Nat := 0
noncomputable def main.tw6557543464795787104 : Nat := 0
noncomputable def main.tw13803360072150633466 : Nat := 0
noncomputable def main.tw765107192605250810 : Nat := 0
noncomputable def main.tw16721930046160240684 : Nat := 0
noncomputable def main.tw12273490649430754879 : Nat := 0
noncomputable def main.tw4651154628705390771 : Nat := 0
noncomputable def main.tw10877679251791092727 : Nat := 0
noncomputable def main.tw6690441779611380620 : Nat := 0
noncomputable def main.tw7273056430967151046 : Nat := 0
noncomputable def main.tw5995161000843957690 : Nat := 0
noncomputable def main.tw6449824600675878752 : Nat := 0
noncomputable def main.tw7647378279178456250 : Nat := 0
noncomputable def main.tw5061512775090418087 : Nat := 0
noncomputable def main.tw1253437644075932092 : Nat := 0
noncomputable def main.tw7298748307773712898 : Nat := 0
noncomputable def main.tw10094358506670053839 : Nat := 0
noncomputable def main.tw14492832472218066102 : Nat := 0
noncomputable def main.tw3848698983108048278 : Nat := 0
noncomputable def main.tw9155575984036265788 : Nat := 0
noncomputable def main.tw6044114016751833949 : Nat := 0
noncomputable def main.tw14666387041718499266 : Nat := 0
noncomputable def main.tw13406003279186336099 : Nat := 0
noncomputable def main.tw2402762420636078793 : Nat := 0
noncomputable def main.tw6334894449686545209 : Nat := 0
noncomputable def main.tw13368196752451780497 : Nat := 0
noncomputable def main.tw2538046985915079169 : Nat := 0
noncomputable def main.tw4324958949535026087 : Nat := 0
noncomputable def main.tw11101190512080308003 : Nat := 0
noncomputable def main.tw9942282790977331292 : Nat := 0
noncomputable def main.tw10298723112805639129 : Nat := 0
noncomputable def main.tw13313126695403321540 : Nat := 0
noncomputable def main.tw11716418206903941319 : Nat := 0
noncomputable def main.tw13838900630717943254 : Nat := 0
noncomputable def main.tw10924716458440934090 : Nat := 0
noncomputable def main.tw1469836325065767749 : Nat := 0
noncomputable def main.tw15350898050860989542 : Nat := 0
noncomputable def main.tw5790326737455844299 : Nat := 0
noncomputable def main.tw5921134243170700561 : Nat := 0
noncomputable def main.tw13157206579259725088 : Nat := 0
noncomputable def main.tw10652611922669240339 : Nat := 0
noncomputable def main.tw2406621943657119228 : Nat := 0
noncomputable def main.tw16187894506366716058 : Nat := 0
noncomputable def main.tw16544489699163171333 : Nat := 0
noncomputable def main.tw1615956725737779560 : Nat := 0
noncomputable def main.tw17236958762192778904 : Nat := 0
noncomputable def main.tw9561784451562097942 : Nat := 0
noncomputable def main.tw962032349192862916 : Nat := 0
noncomputable def main.tw4775608329324902142 : Nat := 0
noncomputable def main.tw12361340156312767134 : Nat := 0
noncomputable def main.tw7308723440029596264 : Nat := 0
noncomputable def main.tw5517759331935216279 : Nat := 0
noncomputable def main.tw9925469786538053656 : Nat := 0
noncomputable def main.tw5518243967957118194 : Nat := 0
noncomputable def main.tw8748973510418095054 : Nat := 0
noncomputable def main.tw6660377722381337597 : Nat := 0
noncomputable def main.tw4812270449578504274 : Nat := 0
noncomputable def main.tw10047389527955405517 : Nat := 0
noncomputable def main.tw13547569757486424058 : Nat := 0
noncomputable def main.tw1496695287857109588 : Nat := 0
noncomputable def main.tw9848185148710128376 : Nat := 0
noncomputable def main.tw7332552209862256014 : Nat := 0
noncomputable def main.tw12646911602827044314 : Nat := 0
noncomputable def main.tw18403998269306519403 : Nat := 0
noncomputable def main.tw2714283472998740243 : Nat := 0
noncomputable def main.tw10453263994017694363 : Nat := 0
noncomputable def main.tw15608450976537380609 : Nat := 0
noncomputable def main.tw10642606787283503386 : Nat := 0
noncomputable def main.tw16819838333489098493 : Nat := 0
noncomputable def main.tw7904437144335635152 : Nat := 0
noncomputable def main.tw16656740534632174751 : Nat := 0
noncomputable def main.tw11407399753219959037 : Nat := 0
noncomputable def main.tw11774690029378154688 : Nat := 0
noncomputable def main.tw6164561884633627433 : Nat := 0
noncomputable def main.tw12431561837914552411 : Nat := 0
noncomputable def main.tw1319676515408343850 : Nat := 0
noncomputable def main.tw8436210846270712021 : Nat := 0
noncomputable def main.tw7221758910455160077 : Nat := 0
noncomputable def main.tw15277975159832343749 : Nat := 0
noncomputable def main.tw12608185968620612914 : Nat := 0
noncomputable def main.tw5450094653865882931 : Nat := 0
noncomputable def main.tw12564604832814323664 : Nat := 0
noncomputable def main.tw17438294365789470252 : Nat := 0
noncomputable def main.tw452746233719593009 : Nat := 0
noncomputable def main.tw4585930131862741453 : Nat := 0
noncomputable def main.tw6385024630547198690 : Nat := 0
noncomputable def main.tw16965079339398995527 : Nat := 0
noncomputable def main.tw13465503431842376007 : Nat := 0
noncomputable def main.tw10609540516017602915 : Nat := 0
noncomputable def main.tw6886502059237256666 : Nat := 0
noncomputable def main.tw1027651156746619712 : Nat := 0
noncomputable def main.tw4072190877284726289 : Nat := 0
noncomputable def main.tw1454224541498743561 : Nat := 0
noncomputable def main.tw13693970394777133609 : Nat := 0
noncomputable def main.tw1632041292262086317 : Nat := 0
noncomputable def main.tw9189880136782149556 : Nat := 0
noncomputable def main.tw2729793432009153956 : Nat := 0
noncomputable def main.tw14313897822631088780 : Nat := 0
noncomputable def main.tw534805316618712249 : Nat := 0
noncomputable def main.tw12252054271945606052 : Nat := 0
noncomputable def main.tw16451033083921036709 : Nat := 0
noncomputable def main.tw9369988214560726041 : Nat := 0
noncomputable def main.tw9121559901702372667 : Nat := 0
noncomputable def main.tw18218335207050127959 : Nat := 0
noncomputable def main.tw656089360051881306 : Nat := 0
noncomputable def main.tw6389877041954997217 : Nat := 0
noncomputable def main.tw8207831470162742035 : Nat := 0
noncomputable def main.tw14047528560240846109 : Nat := 0
noncomputable def main.tw15225127925928830808 : Nat := 0
noncomputable def main.tw17336282652733537790 : Nat := 0
noncomputable def main.tw1980160206288974728 : Nat := 0
noncomputable def main.tw453184122279072053 : Nat := 0
noncomputable def main.tw6855474311058116810 : Nat := 0
noncomputable def main.tw10199874654664476236 : Nat := 0
noncomputable def main.tw2456247091588846565 : Nat := 0
noncomputable def main.tw6112859857366181021 : Nat := 0
noncomputable def main.tw5372645768047454471 : Nat := 0
noncomputable def main.tw1777545030009416734 : Nat := 0
noncomputable def main.tw13479238511153315478 : Nat := 0
noncomputable def main.tw11646826074482590764 : Nat := 0
noncomputable def main.tw3491332818749588091 : Nat := 0
noncomputable def main.tw49674306023711395 : Nat := 0
noncomputable def main.tw7074144079889050967 : Nat := 0
noncomputable def main.tw17453503289922162039 : Nat := 0
noncomputable def main.tw12800608258095302798 : Nat := 0
noncomputable def main.tw8947760058931562597 : Nat := 0
noncomputable def main.tw12463224122652932544 : Nat := 0
noncomputable def main.tw18421580907717582127 : Nat := 0
noncomputable def main.tw18425317256667529438 : Nat := 0
noncomputable def main.tw12343854547171428336 : Nat := 0
noncomputable def main.tw14027531716089632829 : Nat := 0
noncomputable def main.tw9957550378297406723 : Nat := 0
noncomputable def main.tw10123989817122485451 : Nat := 0
noncomputable def main.tw7698036289167662538 : Nat := 0
noncomputable def main.tw16320215318167395912 : Nat := 0
noncomputable def main.tw341453280667917650 : Nat := 0
noncomputable def main.tw12139096438432415106 : Nat := 0
noncomputable def main.tw14672674291997333471 : Nat := 0
noncomputable def main.tw4452170602077327944 : Nat := 0
noncomputable def main.tw4766233809647381661 : Nat := 0
noncomputable def main.tw18190005008629794160 : Nat := 0
noncomputable def main.tw6981815665589151136 : Nat := 0
noncomputable def main.tw10169072693733980587 : Nat := 0
noncomputable def main.tw16641786646906312760 : Nat := 0
noncomputable def main.tw10231336680788121439 : Nat := 0
noncomputable def main.tw3613476055612923068 : Nat := 0
noncomputable def main.tw14060465935940456498 : Nat := 0
noncomputable def main.tw10669944970481658594 : Nat := 0
noncomputable def main.tw9897820754763898449 : Nat := 0
noncomputable def main.tw16480584520131690045 : Nat := 0
noncomputable def main.tw12224747205274536944 : Nat := 0
noncomputable def main.tw9515011664573035354 : Nat := 0
noncomputable def main.tw11349898740250378076 : Nat := 0
noncomputable def main.tw6663778134991626487 : Nat := 0
noncomputable def main.tw11962923498438245051 : Nat := 0
noncomputable def main.tw13667920496262714385 : Nat := 0
noncomputable def main.tw11218778669853930896 : Nat := 0
noncomputable def main.tw7165207203227711834 : Nat := 0
noncomputable def main.tw9392487213469676918 : Nat := 0
noncomputable def main.tw7699798408344515789 : Nat := 0
noncomputable def main.tw12751799325998411230 : Nat := 0
noncomputable def main.tw16826212616301561204 : Nat := 0
noncomputable def main.tw10876229203375891673 : Nat := 0
noncomputable def main.tw11261727412033496967 : Nat := 0
noncomputable def main.tw3454311308915712629 : Nat := 0
noncomputable def main.tw12885673836220544336 : Nat := 0
noncomputable def main.tw9268297945177815525 : Nat := 0
noncomputable def main.tw18165044119631177899 : Nat := 0
noncomputable def main.tw18031918436515192882 : Nat := 0
noncomputable def main.tw5473700226181020891 : Nat := 0
noncomputable def main.tw16922381011570985944 : Nat := 0
noncomputable def main.tw9302470337196694018 : Nat := 0
noncomputable def main.tw13980345723018547825 : Nat := 0
noncomputable def main.tw11388154006635350966 : Nat := 0
noncomputable def main.tw9069182735580402390 : Nat := 0
noncomputable def main.tw17268439761433841065 : Nat := 0
noncomputable def main.tw8729708805864041840 : Nat := 0
noncomputable def main.tw2583023086579268501 : Nat := 0
noncomputable def main.tw7214478077546791972 : Nat := 0
noncomputable def main.tw15955573374722617477 : Nat := 0
noncomputable def main.tw9265829497004654079 : Nat := 0
noncomputable def main.tw12941917028564957548 : Nat := 0
noncomputable def main.tw11476092923266045095 : Nat := 0
noncomputable def main.tw15387884906608193903 : Nat := 0
noncomputable def main.tw7186131708394509389 : Nat := 0
noncomputable def main.tw6075091234017535682 : Nat := 0
noncomputable def main.tw7268301785047649679 : Nat := 0
noncomputable def main.tw5234446048077146213 : Nat := 0
noncomputable def main.tw2110754180369666209 : Nat := 0
noncomputable def main.tw545269030811804461 : Nat := 0
noncomputable def main.tw2007339730380871907 : Nat := 0
noncomputable def main.tw17561526911342447988 : Nat := 0
noncomputable def main.tw14562738103837258888 : Nat := 0
noncomputable def main.tw11092141859048813250 : Nat := 0
noncomputable def main.tw3557749057250611081 : Nat := 0
noncomputable def main.tw10750994468655217958 : Nat := 0
noncomputable def main.tw17715262827843222689 : Nat := 0
noncomputable def main.tw6584820252761975732 : Nat := 0
noncomputable def main.tw1645717771770832407 : Nat := 0
noncomputable def main.tw5400957986263281647 : Nat := 0
noncomputable def main.tw834873547066669988 : Nat := 0
noncomputable def main.tw14439473939278146460 : Nat := 0
noncomputable def main.tw6222487380544312443 : Nat := 0
noncomputable def main.tw1628013610222277130 : Nat := 0
noncomputable def main.tw9772175576572683089 : Nat := 0
noncomputable def main.tw3796207824708393856 : Nat := 0
noncomputable def main.tw11221353774195762014 : Nat := 0
noncomputable def main.tw9512817274939609580 : Nat := 0
noncomputable def main.tw5030646048842474821 : Nat := 0
noncomputable def main.tw6785657489111691699 : Nat := 0
noncomputable def main.tw9670510015898674028 : Nat := 0
noncomputable def main.tw1130211791997205004 : Nat := 0
noncomputable def main.tw16778611742570070204 : Nat := 0
noncomputable def main.tw17450470499104002142 : Nat := 0
noncomputable def main.tw12260438938755061251 : Nat := 0
noncomputable def main.tw6912675738884088206 : Nat := 0
noncomputable def main.tw451873465583785326 : Nat := 0
noncomputable def main.tw18332899500509843999 : Nat := 0
noncomputable def main.tw11001617756164336837 : Nat := 0
noncomputable def main.tw15356762974548107741 : Nat := 0
noncomputable def main.tw3370190323706015969 : Nat := 0
noncomputable def main.tw13503263706703578961 : Nat := 0
noncomputable def main.tw16136984950599521427 : Nat := 0
noncomputable def main.tw10334261112615635914 : Nat := 0
noncomputable def main.tw12483276189755474720 : Nat := 0
noncomputable def main.tw5240536507193477226 : Nat := 0
noncomputable def main.tw4297412468100583042 : Nat := 0
noncomputable def main.tw3160845607165458772 : Nat := 0
noncomputable def main.tw5309058905264134205 : Nat := 0
noncomputable def main.tw17784085234867301975 : Nat := 0
noncomputable def main.tw3829396358689915599 : Nat := 0
noncomputable def main.tw13876859957761632879 : Nat := 0
noncomputable def main.tw10455743928339290457 : Nat := 0
noncomputable def main.tw9557352009045844224 : Nat := 0
noncomputable def main.tw3583811862363856187 : Nat := 0
noncomputable def main.tw14064073609400967072 : Nat := 0
noncomputable def main.tw12518504611687188807 : Nat := 0
noncomputable def main.tw12431731261707249289 : Nat := 0
noncomputable def main.tw8478376212529829071 : Nat := 0
noncomputable def main.tw16135426469972691074 : Nat := 0
noncomputable def main.tw11544348965984651327 : Nat := 0
noncomputable def main.tw7590696779544312186 : Nat := 0
noncomputable def main.tw16806246253224384389 : Nat := 0
noncomputable def main.tw10363585996791799541 : Nat := 0
noncomputable def main.tw11501822485730972192 : Nat := 0
noncomputable def main.tw9681375758050803366 : Nat := 0
noncomputable def main.tw3466206800631347469 : Nat := 0
noncomputable def main.tw18238007617527299592 : Nat := 0
noncomputable def main.tw18302796317244248524 : Nat := 0
noncomputable def main.tw11120327062377616369 : Nat := 0
noncomputable def main.tw12543713266681445118 : Nat := 0
noncomputable def main.tw3706830351922483016 : Nat := 0
noncomputable def main.tw13350764725976880583 : Nat := 0
noncomputable def main.tw18178676814319149831 : Nat := 0
noncomputable def main.tw9417822746687237092 : Nat := 0
noncomputable def main.tw12885385263037960081 : Nat := 0
noncomputable def main.tw16102231251864390963 : Nat := 0
noncomputable def main.tw4139100593308808776 : Nat := 0
noncomputable def main.tw4500915450034043215 : Nat := 0
noncomputable def main.tw13110577991587790113 : Nat := 0
noncomputable def main.tw10953687544409504101 : Nat := 0
noncomputable def main.tw1156462466702112376 : Nat := 0
noncomputable def main.tw15928290008803537013 : Nat := 0
noncomputable def main.tw2496676261509829067 : Nat := 0
noncomputable def main.tw6635558491612396129 : Nat := 0
noncomputable def main.tw3027586509356016917 : Nat := 0
noncomputable def main.tw14168887731352723522 : Nat := 0
noncomputable def main.tw13402765919934010277 : Nat := 0
noncomputable def main.tw7912134107096832877 : Nat := 0
noncomputable def main.tw10234815189450012239 : Nat := 0
noncomputable def main.tw2724176850512262202 : Nat := 0
noncomputable def main.tw17477492558424962760 : Nat := 0
noncomputable def main.tw17679725944135375923 : Nat := 0
noncomputable def main.tw12653679108036650311 : Nat := 0
noncomputable def main.tw15270170921892066516 : Nat := 0
noncomputable def main.tw6519269512792494810 : Nat := 0
noncomputable def main.tw9368617206455126095 : Nat := 0
noncomputable def main.tw8475525182357872103 : Nat := 0
noncomputable def main.tw6508729118710982530 : Nat := 0
noncomputable def main.tw2702614204127132176 : Nat := 0
noncomputable def main.tw4948327476702027199 : Nat := 0
noncomputable def main.tw3905226178654972811 : Nat := 0
noncomputable def main.tw17510229520200029679 : Nat := 0
noncomputable def main.tw14907226015203709474 : Nat := 0
noncomputable def main.tw330327031418712150 : Nat := 0
noncomputable def main.tw1886080085820668685 : Nat := 0
noncomputable def main.tw17403364634526059139 : Nat := 0
noncomputable def main.tw7293298908176781663 : Nat := 0
noncomputable def main.tw11554813239044494598 : Nat := 0
noncomputable def main.tw5102693214775723256 : Nat := 0
noncomputable def main.tw14635473669698735251 : Nat := 0
noncomputable def main.tw3960113756560652017 : Nat := 0
noncomputable def main.tw6674893403203295414 : Nat := 0
noncomputable def main.tw16689149305811164139 : Nat := 0
noncomputable def main.tw4749052000479324790 : Nat := 0
noncomputable def main.tw12590340796369385619 : Nat := 0
noncomputable def main.tw8046773169563483271 : Nat := 0
noncomputable def main.tw11982392923317675503 : Nat := 0
noncomputable def main.tw6565609875121592624 : Nat := 0
noncomputable def main.tw13154001654789283132 : Nat := 0
noncomputable def main.tw7875838824674609581 : Nat := 0
noncomputable def main.tw16923884221124529275 : Nat := 0
noncomputable def main.tw8652556701797213591 : Nat := 0
noncomputable def main.tw17223442867436993403 : Nat := 0
noncomputable def main.tw12455012482086183272 : Nat := 0
noncomputable def main.tw3399194913794709936 : Nat := 0
noncomputable def main.tw6655696309031964122 : Nat := 0
noncomputable def main.tw15303317825217679618 : Nat := 0
noncomputable def main.tw12839114828313443825 : Nat := 0
noncomputable def main.tw16519101796099990279 : Nat := 0
noncomputable def main.tw9656510801202774680 : Nat := 0
noncomputable def main.tw13676971244355772609 : Nat := 0
noncomputable def main.tw18325589031809861271 : Nat := 0
noncomputable def main.tw1242282695825638017 : Nat := 0
noncomputable def main.tw16950194794029067938 : Nat := 0
noncomputable def main.tw11409991511011244131 : Nat := 0
noncomputable def main.tw2544328076492683441 : Nat := 0
noncomputable def main.tw9756827057097773860 : Nat := 0
noncomputable def main.tw2019394398466159022 : Nat := 0
noncomputable def main.tw52199770228462824 : Nat := 0
noncomputable def main.tw73751810991705359 : Nat := 0
noncomputable def main.tw9976160756891316704 : Nat := 0
noncomputable def main.tw3314904115985164895 : Nat := 0
noncomputable def main.tw48596604365144762 : Nat := 0
noncomputable def main.tw1439166485080882 : Nat := 0
noncomputable def main.tw961187720498965250 : Nat := 0
noncomputable def main.tw4044139247061151142 : Nat := 0
noncomputable def main.tw6907636171062424033 : Nat := 0
noncomputable def main.tw6862492499505807319 : Nat := 0
noncomputable def main.tw223528310411579522 : Nat := 0
noncomputable def main.tw13219505800766818778 : Nat := 0
noncomputable def main.tw17353955331779342651 : Nat := 0
noncomputable def main.tw16218864148678617972 : Nat := 0
noncomputable def main.tw3779293765908593550 : Nat := 0
noncomputable def main.tw14504180641510445567 : Nat := 0
noncomputable def main.tw11987853993630220354 : Nat := 0
noncomputable def main.tw15595112118272840620 : Nat := 0
noncomputable def main.tw9360745474812902239 : Nat := 0
noncomputable def main.tw7411558596216406370 : Nat := 0
noncomputable def main.tw10707853282979444102 : Nat := 0
noncomputable def main.tw2895952525429962455 : Nat := 0
noncomputable def main.tw7093617532817203218 : Nat := 0
noncomputable def main.tw12670839924663504800 : Nat := 0
noncomputable def main.tw14759895335926876869 : Nat := 0
noncomputable def main.tw6418098437765475518 : Nat := 0
noncomputable def main.tw11710404883906591787 : Nat := 0
noncomputable def main.tw15514936471743626214 : Nat := 0
noncomputable def main.tw10982014176374687213 : Nat := 0
noncomputable def main.tw4261964983698606537 : Nat := 0
noncomputable def main.tw2566753976717531306 : Nat := 0
noncomputable def main.tw1236483940969888574 : Nat := 0
noncomputable def main.tw5613160597433933154 : Nat := 0
noncomputable def main.tw14909365282108701170 : Nat := 0
noncomputable def main.tw4839478117068044826 : Nat := 0
noncomputable def main.tw9730157408454304684 : Nat := 0
noncomputable def main.tw7439787175107056256 : Nat := 0
noncomputable def main.tw3013668910541026245 : Nat := 0
noncomputable def main.tw65644731488775911 : Nat := 0
noncomputable def main.tw11003572833241299968 : Nat := 0
noncomputable def main.tw3626430660855392483 : Nat := 0
noncomputable def main.tw6605666738245375177 : Nat := 0
noncomputable def main.tw4156125974679941130 : Nat := 0
noncomputable def main.tw16305672181175384284 : Nat := 0
noncomputable def main.tw6788530277367551627 : Nat := 0
noncomputable def main.tw12927740378394474205 : Nat := 0
noncomputable def main.tw18063282731904131703 : Nat := 0
noncomputable def main.tw12702744160499308131 : Nat := 0
noncomputable def main.tw16251939892948500945 : Nat := 0
noncomputable def main.tw358491910552652209 : Nat := 0
noncomputable def main.tw16008252555379753968 : Nat := 0
noncomputable def main.tw7742616358663508648 : Nat := 0
noncomputable def main.tw15136431859952498927 : Nat := 0
noncomputable def main.tw13724616953566380437 : Nat := 0
noncomputable def main.tw10665089971535097683 : Nat := 0
noncomputable def main.tw12675357926760492328 : Nat := 0
noncomputable def main.tw9573086628692744296 : Nat := 0
noncomputable def main.tw5968803625530292463 : Nat := 0
noncomputable def main.tw13591255225166038476 : Nat := 0
noncomputable def main.tw6657087868060814 : Nat := 0
noncomputable def main.tw8467378866343419333 : Nat := 0
noncomputable def main.tw9470667924834194258 : Nat := 0
noncomputable def main.tw15079240505294077160 : Nat := 0
noncomputable def main.tw4189750870438640210 : Nat := 0
noncomputable def main.tw13777938177461255882 : Nat := 0
noncomputable def main.tw16952715711813285254 : Nat := 0
noncomputable def main.tw8952462522180670554 : Nat := 0
noncomputable def main.tw5363903885879670357 : Nat := 0
noncomputable def main.tw16049902774474827687 : Nat := 0
noncomputable def main.tw18284262389922463811 : Nat := 0
noncomputable def main.tw302440914744352476 : Nat := 0
noncomputable def main.tw18418235949754561950 : Nat := 0
noncomputable def main.tw6674386428176565332 : Nat := 0
noncomputable def main.tw8484041278411425421 : Nat := 0
noncomputable def main.tw1453356044741674121 : Nat := 0
noncomputable def main.tw17298425922696826006 : Nat := 0
noncomputable def main.tw17972135902276802693 : Nat := 0
noncomputable def main.tw3343439749351644125 : Nat := 0
noncomputable def main.tw2195194259037543316 : Nat := 0
noncomputable def main.tw17201416709059790184 : Nat := 0
noncomputable def main.tw10159738436595150677 : Nat := 0
noncomputable def main.tw12732289081945773324 : Nat := 0
noncomputable def main.tw16193401482309157537 : Nat := 0
noncomputable def main.tw2524017781993486291 : Nat := 0
noncomputable def main.tw10625486282989778954 : Nat := 0
noncomputable def main.tw13293747886898857621 : Nat := 0
noncomputable def main.tw6880717277089553138 : Nat := 0
noncomputable def main.tw13113777628852026922 : Nat := 0
noncomputable def main.tw13270728482189477470 : Nat := 0
noncomputable def main.tw962193829226610041 : Nat := 0
noncomputable def main.tw9190990891756207365 : Nat := 0
noncomputable def main.tw1744436735468091496 : Nat := 0
noncomputable def main.tw2279707942289718827 : Nat := 0
noncomputable def main.tw15321712131102177588 : Nat := 0
noncomputable def main.tw5571399437266216444 : Nat := 0
noncomputable def main.tw15465920861327815835 : Nat := 0
noncomputable def main.tw12057704586751987240 : Nat := 0
noncomputable def main.tw15060185592220127646 : Nat := 0
noncomputable def main.tw5378808338967829844 : Nat := 0
noncomputable def main.tw17272174723667511238 : Nat := 0
noncomputable def main.tw15109750227778091905 : Nat := 0
noncomputable def main.tw4817600198373253283 : Nat := 0
noncomputable def main.tw7235775444256392728 : Nat := 0
noncomputable def main.tw1118068078248606362 : Nat := 0
noncomputable def main.tw11086099901593105684 : Nat := 0
noncomputable def main.tw17737603089517620647 : Nat := 0
noncomputable def main.tw10864377008497418100 : Nat := 0
noncomputable def main.tw9840939614602229412 : Nat := 0
noncomputable def main.tw387501639795913443 : Nat := 0
noncomputable def main.tw11410963132546700228 : Nat := 0
noncomputable def main.tw11181722664286889309 : Nat := 0
noncomputable def main.tw11403851563620829512 : Nat := 0
noncomputable def main.tw15017983477296125989 : Nat := 0
noncomputable def main.tw1504049600530537962 : Nat := 0
noncomputable def main.tw16959884160788844718 : Nat := 0
noncomputable def main.tw2341703837736514645 : Nat := 0
noncomputable def main.tw645136716886899192 : Nat := 0
noncomputable def main.tw8557395850702784662 : Nat := 0
noncomputable def main.tw6542085627976250192 : Nat := 0
noncomputable def main.tw6541472054586571296 : Nat := 0
noncomputable def main.tw15410482203810522393 : Nat := 0
noncomputable def main.tw1850612553970854742 : Nat := 0
noncomputable def main.tw18289446531380648130 : Nat := 0
noncomputable def main.tw13227692790652741651 : Nat := 0
noncomputable def main.tw4365514962571936147 : Nat := 0
noncomputable def main.tw4038153913678941442 : Nat := 0
noncomputable def main.tw10821422270917381399 : Nat := 0
noncomputable def main.tw2433702464844828792 : Nat := 0
noncomputable def main.tw16320729459185622934 : Nat := 0
noncomputable def main.tw10665469846841522134 : Nat := 0
noncomputable def main.tw8809968196449919288 : Nat := 0
noncomputable def main.tw1150287232629052791 : Nat := 0
noncomputable def main.tw15806524323241146399 : Nat := 0
noncomputable def main.tw8079908401900000222 : Nat := 0
noncomputable def main.tw14218914174604095658 : Nat := 0
noncomputable def main.tw5797031442667253490 : Nat := 0
noncomputable def main.tw17974016328880235120 : Nat := 0
noncomputable def main.tw16153842264607907944 : Nat := 0
noncomputable def main.tw16046730324260685337 : Nat := 0
noncomputable def main.tw1615045767204293396 : Nat := 0
noncomputable def main.tw3394367416137920725 : Nat := 0
noncomputable def main.tw7761410557224570781 : Nat := 0
noncomputable def main.tw15643365686152983790 : Nat := 0
noncomputable def main.tw10825838108423173272 : Nat := 0
noncomputable def main.tw1519927702969063271 : Nat := 0
noncomputable def main.tw2921958311620399285 : Nat := 0
noncomputable def main.tw7153082081811710619 : Nat := 0
noncomputable def main.tw10652863235454686790 : Nat := 0
noncomputable def main.tw2287757881348798766 : Nat := 0
noncomputable def main.tw3234112476842188716 : Nat := 0
noncomputable def main.tw2190695567426971638 : Nat := 0
noncomputable def main.tw18134284020713443437 : Nat := 0
noncomputable def main.tw1714950047550659301 : Nat := 0
noncomputable def main.tw18442785490491869365 : Nat := 0
noncomputable def main.tw7691172733374981047 : Nat := 0
noncomputable def main.tw12205347405646519318 : Nat := 0
noncomputable def main.tw1261021989165538067 : Nat := 0
noncomputable def main.tw10391951854915411234 : Nat := 0
noncomputable def main.tw14788915703135433725 : Nat := 0
noncomputable def main.tw6183352029847204284 : Nat := 0
noncomputable def main.tw3627144658338631552 : Nat := 0
noncomputable def main.tw1157997071576566072 : Nat := 0
noncomputable def main.tw17402982504261768225 : Nat := 0
noncomputable def main.tw8707812797481193996 : Nat := 0
noncomputable def main.tw14009396871252706886 : Nat := 0
noncomputable def main.tw14061640607465278742 : Nat := 0
noncomputable def main.tw2821470743931037460 : Nat := 0
noncomputable def main.tw15768048840197415361 : Nat := 0
noncomputable def main.tw6053611964639427726 : Nat := 0
noncomputable def main.tw17091655785135471103 : Nat := 0
noncomputable def main.tw12222963475772708484 : Nat := 0
noncomputable def main.tw2921621734765799159 : Nat := 0
noncomputable def main.tw3299218664060906527 : Nat := 0
noncomputable def main.tw16411370214107742406 : Nat := 0
noncomputable def main.tw11374851513655246148 : Nat := 0
noncomputable def main.tw7974275031393228247 : Nat := 0
noncomputable def main.tw7332330508316399935 : Nat := 0
noncomputable def main.tw8663697691656813868 : Nat := 0
noncomputable def main.tw6511744376749373798 : Nat := 0
noncomputable def main.tw17725498274588495791 : Nat := 0
noncomputable def main.tw15467891735981029475 : Nat := 0
noncomputable def main.tw2906824675625879941 : Nat := 0
noncomputable def main.tw832900586485598795 : Nat := 0
noncomputable def main.tw12915833801598196605 : Nat := 0
noncomputable def main.tw5665735395497279834 : Nat := 0
noncomputable def main.tw17699438841360665129 : Nat := 0
noncomputable def main.tw18392154025008590481 : Nat := 0
noncomputable def main.tw3994622017586750766 : Nat := 0
noncomputable def main.tw17118054049896295152 : Nat := 0
noncomputable def main.tw15131278010643852716 : Nat := 0
noncomputable def main.tw7173623326730630234 : Nat := 0
noncomputable def main.tw15984706205718930553 : Nat := 0
noncomputable def main.tw13642826006792871662 : Nat := 0
noncomputable def main.tw2900998541784483753 : Nat := 0
noncomputable def main.tw4681395471914393968 : Nat := 0
noncomputable def main.tw9808303207383738048 : Nat := 0
noncomputable def main.tw12900284412222446716 : Nat := 0
noncomputable def main.tw6596593509180878263 : Nat := 0
noncomputable def main.tw9682133043923132273 : Nat := 0
noncomputable def main.tw16848004606503056785 : Nat := 0
noncomputable def main.tw4990475226369331113 : Nat := 0
noncomputable def main.tw4605139254293405059 : Nat := 0
noncomputable def main.tw5781596087445459943 : Nat := 0
noncomputable def main.tw10663580350406149668 : Nat := 0
noncomputable def main.tw14662554035588321541 : Nat := 0
noncomputable def main.tw8228058824784995430 : Nat := 0
noncomputable def main.tw5649967823195072380 : Nat := 0
noncomputable def main.tw15485851114877660061 : Nat := 0
noncomputable def main.tw892681787802806017 : Nat := 0
noncomputable def main.tw1255815211270559930 : Nat := 0
noncomputable def main.tw8211959896082780389 : Nat := 0
noncomputable def main.tw14097447854668400296 : Nat := 0
noncomputable def main.tw2238316416991798583 : Nat := 0
noncomputable def main.tw15554039934745177238 : Nat := 0
noncomputable def main.tw13797323745857372409 : Nat := 0
noncomputable def main.tw5203219222101121401 : Nat := 0
noncomputable def main.tw4126091431370883743 : Nat := 0
noncomputable def main.tw17767330081159143506 : Nat := 0
noncomputable def main.tw4458048076830672230 : Nat := 0
noncomputable def main.tw5396361742852586263 : Nat := 0
end Mine
namespace Mine
set_option Elab.async true in
set_option maxRecDepth 100000 in
set_option maxHeartbeats 100000000 in
theorem main : PySem.Challenge.rw_nt0608_01.Holds := by
  w_on; o_law; k_head; (case hw => w_witness2)
  have fillNow : PySem.Challenge.rw_nt0608_01 = PySem.Challenge.rw_nt0608_01 ∧ Mine.main.heap_1_39 = Mine.main.heap_1_39 := by
    k_fill
    exact ⟨rfl, rfl⟩
  clear fillNow
  have wd : ∀ (P : Params) {base : Heap}, (Mine.main.heap_1_39 P).In base → (∃ p loose mg mb, TopRead p loose mg mb base) → Wd clm (Mine.main.heap_1_39 P) base := by
    have l_is_table_part : ∀ P : Params, FnLink (Mine.main.heap_1_39 P) f_is_table_part 28 := by
      intro P
      refine' mkLink ?ho ?hcd ?k1 ?k2 ?k3 ?body ?par ?nd ?nd2 ?bi
      case ho => k_is
      case hcd => kernel_rfl
      case k1 => rfl
      case k2 => rfl
      case k3 => rfl
      case body =>
        exact (.cons (.ret (.cmp kw (.tup (.cons .str (.cons .str (.cons .str (.cons .str (.cons .str .nil)))))) rfl))
        .nil)
      case par => decide +kernel
      case nd => decide +kernel
      case nd2 => decide +kernel
      case bi =>
        intro s vals X h1 h2
        rcases vals with _ | ⟨v0, _ | ⟨v1, r⟩⟩
        · exact absurd h1 (by show ¬ (1 ≤ 0 + 0); decide)
        · exact ⟨[], fun _ _ => .nil, BindsTo.of_eq (by kernel_rfl)⟩
        · exact absurd h2 (by show ¬ (r.length + 1 + 1 ≤ 1); lia)
    have l_foster_place : ∀ P : Params, FnLink (Mine.main.heap_1_39 P) f_foster_place 35 := by
      intro P
      refine' mkLink ?ho ?hcd ?k1 ?k2 ?k3 ?body ?par ?nd ?nd2 ?bi
      case ho => k_is
      case hcd => kernel_rfl
      case k1 => rfl
      case k2 => rfl
      case k3 => rfl
      case body =>
        exact (.cons (.assign (.attr kw (fun _ _ _ => rfl)) (.inl (by kernel_rfl)) (fun _ _ _ => rfl))
        (.cons (.assign (.attr (.attr kw (fun _ _ _ => rfl)) (fun _ _ _ => rfl)) (.inl (by kernel_rfl)) (fun _ _ _ => rfl))
        (.cons (.assign (.bin (.call (by kernel_rfl) (by unfold notDebug; kernel_rfl) (by kernel_rfl) (.cons kw .nil)) .int) (.inl (by kernel_rfl)) (fun _ _ _ => rfl))
        (.cons (.while (.and (.cons (.cmp kw .int rfl) (.cons (.not (.meth kw (fun _ _ _ => rfl) (.cons (.sub kw kw) (.cons .str .nil)) (by decide) rfl)) (.cons (.not (.meth kw (fun _ _ _ => rfl) (.cons (.sub kw kw) (.cons .str .nil)) (by decide) rfl)) .nil)))) (.cons (.aug .int (.inl (by kernel_rfl)))
        .nil))
        (.cons (.assign (.sub kw kw) (.inl (by kernel_rfl)) (fun _ _ _ => rfl))
        (.cons (.ifs (.not (.meth kw (fun _ _ _ => rfl) (.cons kw (.cons .str .nil)) (by decide) rfl)) (.cons (.ret (.tup (.cons kw (.cons (.neg .int) .nil))))
        .nil) .nil)
        (.cons (.ifs (.cmp (.sub (.attr kw (fun _ _ _ => rfl)) kw) (.neg .int) rfl) (.cons (.ret (.tup (.cons (.sub (.attr kw (fun _ _ _ => rfl)) kw) (.cons kw .nil))))
        .nil) .nil)
        (.cons (.ifs (.cmp kw .int rfl) (.cons (.assign (.sub kw (.bin kw .int)) (.inl (by kernel_rfl)) (fun _ _ _ => rfl))
        .nil) .nil)
        (.cons (.ret (.tup (.cons kw (.cons (.neg .int) .nil))))
        .nil)))))))))
      case par => decide +kernel
      case nd => decide +kernel
      case nd2 => decide +kernel
      case bi =>
        intro s vals X h1 h2
        rcases vals with _ | ⟨v0, _ | ⟨v1, r⟩⟩
        · exact absurd h1 (by show ¬ (1 ≤ 0 + 0); decide)
        · exact ⟨[], fun _ _ => .nil, BindsTo.of_eq (by kernel_rfl)⟩
        · exact absurd h2 (by show ¬ (r.length + 1 + 1 ≤ 1); lia)
    have l_place_for : ∀ P : Params, FnLink (Mine.main.heap_1_39 P) f_place_for 43 := by
      intro P
      refine' mkLink ?ho ?hcd ?k1 ?k2 ?k3 ?body ?par ?nd ?nd2 ?bi
      case ho => k_is
      case hcd => kernel_rfl
      case k1 => rfl
      case k2 => rfl
      case k3 => rfl
      case body =>
        exact (.cons (.assign (.attr kw (fun _ _ _ => rfl)) (.inl (by kernel_rfl)) (fun _ _ _ => rfl))
        (.cons (.assign kw (.inl (by kernel_rfl)) (fun _ _ _ => rfl))
        (.cons (.ifs (.cmp kw (.neg .int) rfl) (.cons (.assign (.meth (.attr kw (fun _ _ _ => rfl)) (fun _ _ _ => rfl) .nil (by decide) rfl) (.inl (by kernel_rfl)) (fun _ _ _ => rfl))
        .nil) .nil)
        (.cons (.ifs (.cmp kw (.neg .int) rfl) (.cons (.ret (.tup (.cons .int (.cons (.neg .int) .nil))))
        .nil) .nil)
        (.cons (.assign (.neg .int) (.inl (by kernel_rfl)) (fun _ _ _ => rfl))
        (.cons (.ifs (.and (.cons (.attr kw (fun _ _ _ => rfl)) (.cons (.cmp (.sub (.attr kw (fun _ _ _ => rfl)) kw) .str rfl) (.cons (.call (by kernel_rfl) (by unfold notDebug; kernel_rfl) (by kernel_rfl) (.cons (.sub (.attr kw (fun _ _ _ => rfl)) kw) .nil)) .nil)))) (.cons (.unpack (.call (by kernel_rfl) (by unfold notDebug; kernel_rfl) (by kernel_rfl) (.cons kw .nil)) (by unfold storeOk; decide +kernel) (.cons (.cons .nil)) (fun _ _ _ => rfl) (fun _ => rfl) (by decide))
        .nil) .nil)
        (.cons (.ifs (.cmp kw (.attr kw (fun _ _ _ => rfl)) rfl) (.cons (.ret (.tup (.cons (.sub (.attr kw (fun _ _ _ => rfl)) kw) (.cons (.neg .int) .nil))))
        .nil) .nil)
        (.cons (.ret (.tup (.cons kw (.cons kw .nil))))
        .nil))))))))
      case par => decide +kernel
      case nd => decide +kernel
      case nd2 => decide +kernel
      case bi =>
        intro s vals X h1 h2
        rcases vals with _ | ⟨v0, _ | ⟨v1, _ | ⟨v2, r⟩⟩⟩
        · exact absurd h1 (by show ¬ (2 ≤ 0 + 1); decide)
        · refine' bindsD X ?hd ?ho ?hv ?h1 ?h2
          case hd => rfl
          case ho => k_is
          case hv => intro base ι; exact (.cons (.int (-1) _) .nil)
          case h1 => rfl
          case h2 => rfl
        · refine' bindsD X ?hd ?ho ?hv ?h1 ?h2
          case hd => rfl
          case ho => k_is
          case hv => intro base ι; exact (.cons (.int (-1) _) .nil)
          case h1 => rfl
          case h2 => rfl
        · exact absurd h2 (by show ¬ (r.length + 1 + 1 + 1 ≤ 2); lia)
    have l_insert_sign : ∀ P : Params, FnLink (Mine.main.heap_1_39 P) f_insert_sign 50 := by
      intro P
      refine' mkLink ?ho ?hcd ?k1 ?k2 ?k3 ?body ?par ?nd ?nd2 ?bi
      case ho => k_is
      case hcd => kernel_rfl
      case k1 => rfl
      case k2 => rfl
      case k3 => rfl
      case body =>
        exact (.cons (.assign (.attr kw (fun _ _ _ => rfl)) (.inl (by kernel_rfl)) (fun _ _ _ => rfl))
        (.cons (.unpack (.call (by kernel_rfl) (by unfold notDebug; kernel_rfl) (by kernel_rfl) (.cons kw .nil)) (by unfold storeOk; decide +kernel) (.cons (.cons .nil)) (fun _ _ _ => rfl) (fun _ => rfl) (by decide))
        (.cons (.ifs (.cmp (.sub (.attr kw (fun _ _ _ => rfl)) kw) .str rfl) (.cons .retNone
        .nil) .nil)
        (.cons (.assign (.meth kw (fun _ _ _ => rfl) (.cons kw .nil) (by decide) rfl) (.inl (by kernel_rfl)) (fun _ _ _ => rfl))
        (.cons (.ifs (.cmp kw (.neg .int) rfl) (.cons (.assign (.meth kw (fun _ _ _ => rfl) (.cons kw .nil) (by decide) rfl) (.inl (by kernel_rfl)) (fun _ _ _ => rfl))
        (.cons (.assign (.neg .int) (.inl (by kernel_rfl)) (fun _ _ _ => rfl))
        (.cons (.ifs (.cmp kw .int rfl) (.cons (.assign (.sub (.sub (.attr kw (fun _ _ _ => rfl)) kw) (.bin kw .int)) (.inl (by kernel_rfl)) (fun _ _ _ => rfl))
        .nil) .nil)
        .nil))) .nil)
        (.cons (.ifs (.and (.cons (.cmp kw (.neg .int) rfl) (.cons (.cmp (.sub (.attr kw (fun _ _ _ => rfl)) kw) .str rfl) .nil))) (.cons (.setsub (.attr kw (fun _ _ _ => rfl)) kw (.bin (.sub (.attr kw (fun _ _ _ => rfl)) kw) kw) (fun _ _ _ => rfl))
        .nil) (.cons (.expr (.meth kw (fun _ _ _ => rfl) (.cons kw (.cons (.meth kw (fun _ _ _ => rfl) (.cons kw .nil) (by decide) rfl) (.cons kw .nil))) (by decide) rfl) (fun _ _ _ => rfl))
        .nil))
        .nil))))))
      case par => decide +kernel
      case nd => decide +kernel
      case nd2 => decide +kernel
      case bi =>
        intro s vals X h1 h2
        rcases vals with _ | ⟨v0, _ | ⟨v1, _ | ⟨v2, r⟩⟩⟩
        · exact absurd h1 (by show ¬ (2 ≤ 0 + 0); decide)
        · exact absurd h1 (by show ¬ (2 ≤ 1 + 0); decide)
        · exact ⟨[], fun _ _ => .nil, BindsTo.of_eq (by kernel_rfl)⟩
        · exact absurd h2 (by show ¬ (r.length + 1 + 1 + 1 ≤ 2); lia)
    have l_insert_comment : ∀ P : Params, FnLink (Mine.main.heap_1_39 P) f_insert_comment 58 := by
      intro P
      refine' mkLink ?ho ?hcd ?k1 ?k2 ?k3 ?body ?par ?nd ?nd2 ?bi
      case ho => k_is
      case hcd => kernel_rfl
      case k1 => rfl
      case k2 => rfl
      case k3 => rfl
      case body =>
        exact (.cons (.assign (.neg .int) (.inl (by kernel_rfl)) (fun _ _ _ => rfl))
        (.cons (.ifs (.cmp kw (.neg .int) rfl) (.cons (.unpack (.call (by kernel_rfl) (by unfold notDebug; kernel_rfl) (by kernel_rfl) (.cons kw .nil)) (by unfold storeOk; decide +kernel) (.cons (.cons .nil)) (fun _ _ _ => rfl) (fun _ => rfl) (by decide))
        .nil) .nil)
        (.cons (.expr (.meth (.attr kw (fun _ _ _ => rfl)) (fun _ _ _ => rfl) (.cons kw (.cons (.meth (.attr kw (fun _ _ _ => rfl)) (fun _ _ _ => rfl) (.cons kw .nil) (by decide) rfl) (.cons kw .nil))) (by decide) rfl) (fun _ _ _ => rfl))
        .nil)))
      case par => decide +kernel
      case nd => decide +kernel
      case nd2 => decide +kernel
      case bi =>
        intro s vals X h1 h2
        rcases vals with _ | ⟨v0, _ | ⟨v1, _ | ⟨v2, _ | ⟨v3, r⟩⟩⟩⟩
        · exact absurd h1 (by show ¬ (3 ≤ 0 + 1); decide)
        · exact absurd h1 (by show ¬ (3 ≤ 1 + 1); decide)
        · refine' bindsD X ?hd ?ho ?hv ?h1 ?h2
          case hd => rfl
          case ho => k_is
          case hv => intro base ι; exact (.cons (.int (-1) _) .nil)
          case h1 => rfl
          case h2 => rfl
        · refine' bindsD X ?hd ?ho ?hv ?h1 ?h2
          case hd => rfl
          case ho => k_is
          case hv => intro base ι; exact (.cons (.int (-1) _) .nil)
          case h1 => rfl
          case h2 => rfl
        · exact absurd h2 (by show ¬ (r.length + 1 + 1 + 1 + 1 ≤ 3); lia)
    have l_Formatting_init : ∀ P : Params, FnLink (Mine.main.heap_1_39 P) f_Formatting_init 104 := by
      intro P
      refine' mkLink ?ho ?hcd ?k1 ?k2 ?k3 ?body ?par ?nd ?nd2 ?bi
      case ho => k_is
      case hcd => kernel_rfl
      case k1 => rfl
      case k2 => rfl
      case k3 => rfl
      case body =>
        exact (.cons (.setattr kw kw (fun _ _ _ => rfl))
        (.cons (.setattr kw (.lst .nil) (fun _ _ _ => rfl))
        .nil))
      case par => decide +kernel
      case nd => decide +kernel
      case nd2 => decide +kernel
      case bi =>
        intro s vals X h1 h2
        rcases vals with _ | ⟨v0, _ | ⟨v1, _ | ⟨v2, r⟩⟩⟩
        · exact absurd h1 (by show ¬ (2 ≤ 0 + 0); decide)
        · exact absurd h1 (by show ¬ (2 ≤ 1 + 0); decide)
        · exact ⟨[], fun _ _ => .nil, BindsTo.of_eq (by kernel_rfl)⟩
        · exact absurd h2 (by show ¬ (r.length + 1 + 1 + 1 ≤ 2); lia)
    have l_OpenStack_init : ∀ P : Params, FnLink (Mine.main.heap_1_39 P) f_OpenStack_init 195 := by
      intro P
      refine' mkLink ?ho ?hcd ?k1 ?k2 ?k3 ?body ?par ?nd ?nd2 ?bi
      case ho => k_is
      case hcd => kernel_rfl
      case k1 => rfl
      case k2 => rfl
      case k3 => rfl
      case body =>
        exact (.cons (.setattr kw kw (fun _ _ _ => rfl))
        (.cons (.setattr kw (.lst .nil) (fun _ _ _ => rfl))
        .nil))
      case par => decide +kernel
      case nd => decide +kernel
      case nd2 => decide +kernel
      case bi =>
        intro s vals X h1 h2
        rcases vals with _ | ⟨v0, _ | ⟨v1, _ | ⟨v2, r⟩⟩⟩
        · exact absurd h1 (by show ¬ (2 ≤ 0 + 0); decide)
        · exact absurd h1 (by show ¬ (2 ≤ 1 + 0); decide)
        · exact ⟨[], fun _ _ => .nil, BindsTo.of_eq (by kernel_rfl)⟩
        · exact absurd h2 (by show ¬ (r.length + 1 + 1 + 1 ≤ 2); lia)
    have l_OpenStack_push : ∀ P : Params, FnLink (Mine.main.heap_1_39 P) f_OpenStack_push 202 := by
      intro P
      refine' mkLink ?ho ?hcd ?k1 ?k2 ?k3 ?body ?par ?nd ?nd2 ?bi
      case ho => k_is
      case hcd => kernel_rfl
      case k1 => rfl
      case k2 => rfl
      case k3 => rfl
      case body =>
        exact (.cons (.expr (.meth (.attr kw (fun _ _ _ => rfl)) (fun _ _ _ => rfl) (.cons kw .nil) (by decide) rfl) (fun _ _ _ => rfl))
        .nil)
      case par => decide +kernel
      case nd => decide +kernel
      case nd2 => decide +kernel
      case bi =>
        intro s vals X h1 h2
        rcases vals with _ | ⟨v0, _ | ⟨v1, _ | ⟨v2, r⟩⟩⟩
        · exact absurd h1 (by show ¬ (2 ≤ 0 + 0); decide)
        · exact absurd h1 (by show ¬ (2 ≤ 1 + 0); decide)
        · exact ⟨[], fun _ _ => .nil, BindsTo.of_eq (by kernel_rfl)⟩
        · exact absurd h2 (by show ¬ (r.length + 1 + 1 + 1 ≤ 2); lia)
    have l_OpenStack_current : ∀ P : Params, FnLink (Mine.main.heap_1_39 P) f_OpenStack_current 216 := by
      intro P
      refine' mkLink ?ho ?hcd ?k1 ?k2 ?k3 ?body ?par ?nd ?nd2 ?bi
      case ho => k_is
      case hcd => kernel_rfl
      case k1 => rfl
      case k2 => rfl
      case k3 => rfl
      case body =>
        exact (.cons (.ifs (.cmp (.call (by kernel_rfl) (by unfold notDebug; kernel_rfl) (by kernel_rfl) (.cons (.attr kw (fun _ _ _ => rfl)) .nil)) .int rfl) (.cons (.ret (.neg .int))
        .nil) .nil)
        (.cons (.ret (.sub (.attr kw (fun _ _ _ => rfl)) (.bin (.call (by kernel_rfl) (by unfold notDebug; kernel_rfl) (by kernel_rfl) (.cons (.attr kw (fun _ _ _ => rfl)) .nil)) .int)))
        .nil))
      case par => decide +kernel
      case nd => decide +kernel
      case nd2 => decide +kernel
      case bi =>
        intro s vals X h1 h2
        rcases vals with _ | ⟨v0, _ | ⟨v1, r⟩⟩
        · exact absurd h1 (by show ¬ (1 ≤ 0 + 0); decide)
        · exact ⟨[], fun _ _ => .nil, BindsTo.of_eq (by kernel_rfl)⟩
        · exact absurd h2 (by show ¬ (r.length + 1 + 1 ≤ 1); lia)
    have l_Tree_init : ∀ P : Params, FnLink (Mine.main.heap_1_39 P) f_Tree_init 300 := by
      intro P
      refine' mkLink ?ho ?hcd ?k1 ?k2 ?k3 ?body ?par ?nd ?nd2 ?bi
      case ho => k_is
      case hcd => kernel_rfl
      case k1 => rfl
      case k2 => rfl
      case k3 => rfl
      case body =>
        exact (.cons (.setattr kw (.lst .nil) (fun _ _ _ => rfl))
        (.cons (.setattr kw (.lst .nil) (fun _ _ _ => rfl))
        (.cons (.setattr kw (.lst .nil) (fun _ _ _ => rfl))
        (.cons (.setattr kw (.lst .nil) (fun _ _ _ => rfl))
        (.cons (.setattr kw (.lst .nil) (fun _ _ _ => rfl))
        (.cons (.setattr kw (.lst .nil) (fun _ _ _ => rfl))
        (.cons (.setattr kw (.lst .nil) (fun _ _ _ => rfl))
        (.cons (.setattr kw .dict0 (fun _ _ _ => rfl))
        (.cons (.expr (.meth kw (fun _ _ _ => rfl) (.cons .str .nil) (by decide) rfl) (fun _ _ _ => rfl))
        .nil)))))))))
      case par => decide +kernel
      case nd => decide +kernel
      case nd2 => decide +kernel
      case bi =>
        intro s vals X h1 h2
        rcases vals with _ | ⟨v0, _ | ⟨v1, r⟩⟩
        · exact absurd h1 (by show ¬ (1 ≤ 0 + 0); decide)
        · exact ⟨[], fun _ _ => .nil, BindsTo.of_eq (by kernel_rfl)⟩
        · exact absurd h2 (by show ¬ (r.length + 1 + 1 ≤ 1); lia)
    have l_Tree_add : ∀ P : Params, FnLink (Mine.main.heap_1_39 P) f_Tree_add 309 := by
      intro P
      refine' mkLink ?ho ?hcd ?k1 ?k2 ?k3 ?body ?par ?nd ?nd2 ?bi
      case ho => k_is
      case hcd => kernel_rfl
      case k1 => rfl
      case k2 => rfl
      case k3 => rfl
      case body =>
        exact (.cons (.expr (.meth (.attr kw (fun _ _ _ => rfl)) (fun _ _ _ => rfl) (.cons kw .nil) (by decide) rfl) (fun _ _ _ => rfl))
        (.cons (.expr (.meth (.attr kw (fun _ _ _ => rfl)) (fun _ _ _ => rfl) (.cons kw .nil) (by decide) rfl) (fun _ _ _ => rfl))
        (.cons (.expr (.meth (.attr kw (fun _ _ _ => rfl)) (fun _ _ _ => rfl) (.cons kw .nil) (by decide) rfl) (fun _ _ _ => rfl))
        (.cons (.expr (.meth (.attr kw (fun _ _ _ => rfl)) (fun _ _ _ => rfl) (.cons (.call (by kernel_rfl) (by unfold notDebug; kernel_rfl) (by kernel_rfl) (.cons kw .nil)) .nil) (by decide) rfl) (fun _ _ _ => rfl))
        (.cons (.expr (.meth (.attr kw (fun _ _ _ => rfl)) (fun _ _ _ => rfl) (.cons kw .nil) (by decide) rfl) (fun _ _ _ => rfl))
        (.cons (.expr (.meth (.attr kw (fun _ _ _ => rfl)) (fun _ _ _ => rfl) (.cons (.neg .int) .nil) (by decide) rfl) (fun _ _ _ => rfl))
        (.cons (.expr (.meth (.attr kw (fun _ _ _ => rfl)) (fun _ _ _ => rfl) (.cons (.lst .nil) .nil) (by decide) rfl) (fun _ _ _ => rfl))
        (.cons (.ret (.bin (.call (by kernel_rfl) (by unfold notDebug; kernel_rfl) (by kernel_rfl) (.cons (.attr kw (fun _ _ _ => rfl)) .nil)) .int))
        .nil))))))))
      case par => decide +kernel
      case nd => decide +kernel
      case nd2 => decide +kernel
      case bi =>
        intro s vals X h1 h2
        rcases vals with _ | ⟨v0, _ | ⟨v1, _ | ⟨v2, _ | ⟨v3, _ | ⟨v4, _ | ⟨v5, _ | ⟨v6, r⟩⟩⟩⟩⟩⟩⟩
        · exact absurd h1 (by show ¬ (6 ≤ 0 + 4); decide)
        · exact absurd h1 (by show ¬ (6 ≤ 1 + 4); decide)
        · refine' bindsD X ?hd ?ho ?hv ?h1 ?h2
          case hd => rfl
          case ho => k_is
          case hv => intro base ι; exact (.cons (.str "" _) (.cons (.str "" _) (.cons (.tup (X _ _ (by k_is)) rfl (fun j cv v a _ => by cases a)) (.cons (.str "" _) .nil))))
          case h1 => rfl
          case h2 => rfl
        · refine' bindsD X ?hd ?ho ?hv ?h1 ?h2
          case hd => rfl
          case ho => k_is
          case hv => intro base ι; exact (.cons (.str "" _) (.cons (.str "" _) (.cons (.tup (X _ _ (by k_is)) rfl (fun j cv v a _ => by cases a)) (.cons (.str "" _) .nil))))
          case h1 => rfl
          case h2 => rfl
        · refine' bindsD X ?hd ?ho ?hv ?h1 ?h2
          case hd => rfl
          case ho => k_is
          case hv => intro base ι; exact (.cons (.str "" _) (.cons (.str "" _) (.cons (.tup (X _ _ (by k_is)) rfl (fun j cv v a _ => by cases a)) (.cons (.str "" _) .nil))))
          case h1 => rfl
          case h2 => rfl
        · refine' bindsD X ?hd ?ho ?hv ?h1 ?h2
          case hd => rfl
          case ho => k_is
          case hv => intro base ι; exact (.cons (.str "" _) (.cons (.str "" _) (.cons (.tup (X _ _ (by k_is)) rfl (fun j cv v a _ => by cases a)) (.cons (.str "" _) .nil))))
          case h1 => rfl
          case h2 => rfl
        · refine' bindsD X ?hd ?ho ?hv ?h1 ?h2
          case hd => rfl
          case ho => k_is
          case hv => intro base ι; exact (.cons (.str "" _) (.cons (.str "" _) (.cons (.tup (X _ _ (by k_is)) rfl (fun j cv v a _ => by cases a)) (.cons (.str "" _) .nil))))
          case h1 => rfl
          case h2 => rfl
        · exact absurd h2 (by show ¬ (r.length + 1 + 1 + 1 + 1 + 1 + 1 + 1 ≤ 6); lia)
    have l_Tree_element : ∀ P : Params, FnLink (Mine.main.heap_1_39 P) f_Tree_element 318 := by
      intro P
      refine' mkLink ?ho ?hcd ?k1 ?k2 ?k3 ?body ?par ?nd ?nd2 ?bi
      case ho => k_is
      case hcd => kernel_rfl
      case k1 => rfl
      case k2 => rfl
      case k3 => rfl
      case body =>
        exact (.cons (.assign (.meth kw (fun _ _ _ => rfl) (.cons .str (.cons kw (.cons kw (.cons kw .nil)))) (by decide) rfl) (.inl (by kernel_rfl)) (fun _ _ _ => rfl))
        (.cons (.ifs (.and (.cons (.cmp kw .str rfl) (.cons (.cmp kw .str rfl) .nil))) (.cons (.setsub (.attr kw (fun _ _ _ => rfl)) kw (.meth kw (fun _ _ _ => rfl) (.cons .str .nil) (by decide) rfl) (fun _ _ _ => rfl))
        .nil) .nil)
        (.cons (.ret kw)
        .nil)))
      case par => decide +kernel
      case nd => decide +kernel
      case nd2 => decide +kernel
      case bi =>
        intro s vals X h1 h2
        rcases vals with _ | ⟨v0, _ | ⟨v1, _ | ⟨v2, _ | ⟨v3, _ | ⟨v4, r⟩⟩⟩⟩⟩
        · exact absurd h1 (by show ¬ (4 ≤ 0 + 2); decide)
        · exact absurd h1 (by show ¬ (4 ≤ 1 + 2); decide)
        · refine' bindsD X ?hd ?ho ?hv ?h1 ?h2
          case hd => rfl
          case ho => k_is
          case hv => intro base ι; exact (.cons (.str "html" _) (.cons (.tup (X _ _ (by k_is)) rfl (fun j cv v a _ => by cases a)) .nil))
          case h1 => rfl
          case h2 => rfl
        · refine' bindsD X ?hd ?ho ?hv ?h1 ?h2
          case hd => rfl
          case ho => k_is
          case hv => intro base ι; exact (.cons (.str "html" _) (.cons (.tup (X _ _ (by k_is)) rfl (fun j cv v a _ => by cases a)) .nil))
          case h1 => rfl
          case h2 => rfl
        · refine' bindsD X ?hd ?ho ?hv ?h1 ?h2
          case hd => rfl
          case ho => k_is
          case hv => intro base ι; exact (.cons (.str "html" _) (.cons (.tup (X _ _ (by k_is)) rfl (fun j cv v a _ => by cases a)) .nil))
          case h1 => rfl
          case h2 => rfl
        · exact absurd h2 (by show ¬ (r.length + 1 + 1 + 1 + 1 + 1 ≤ 4); lia)
    have l_Tree_text : ∀ P : Params, FnLink (Mine.main.heap_1_39 P) f_Tree_text 325 := by
      intro P
      refine' mkLink ?ho ?hcd ?k1 ?k2 ?k3 ?body ?par ?nd ?nd2 ?bi
      case ho => k_is
      case hcd => kernel_rfl
      case k1 => rfl
      case k2 => rfl
      case k3 => rfl
      case body =>
        exact (.cons (.ret (.meth kw (fun _ _ _ => rfl) (.cons .str (.cons .str (.cons .str (.cons (.tup .nil) (.cons kw .nil))))) (by decide) rfl))
        .nil)
      case par => decide +kernel
      case nd => decide +kernel
      case nd2 => decide +kernel
      case bi =>
        intro s vals X h1 h2
        rcases vals with _ | ⟨v0, _ | ⟨v1, _ | ⟨v2, r⟩⟩⟩
        · exact absurd h1 (by show ¬ (2 ≤ 0 + 0); decide)
        · exact absurd h1 (by show ¬ (2 ≤ 1 + 0); decide)
        · exact ⟨[], fun _ _ => .nil, BindsTo.of_eq (by kernel_rfl)⟩
        · exact absurd h2 (by show ¬ (r.length + 1 + 1 + 1 ≤ 2); lia)
    have l_Tree_comment : ∀ P : Params, FnLink (Mine.main.heap_1_39 P) f_Tree_comment 332 := by
      intro P
      refine' mkLink ?ho ?hcd ?k1 ?k2 ?k3 ?body ?par ?nd ?nd2 ?bi
      case ho => k_is
      case hcd => kernel_rfl
      case k1 => rfl
      case k2 => rfl
      case k3 => rfl
      case body =>
        exact (.cons (.ret (.meth kw (fun _ _ _ => rfl) (.cons .str (.cons .str (.cons .str (.cons (.tup .nil) (.cons kw .nil))))) (by decide) rfl))
        .nil)
      case par => decide +kernel
      case nd => decide +kernel
      case nd2 => decide +kernel
      case bi =>
        intro s vals X h1 h2
        rcases vals with _ | ⟨v0, _ | ⟨v1, _ | ⟨v2, r⟩⟩⟩
        · exact absurd h1 (by show ¬ (2 ≤ 0 + 0); decide)
        · exact absurd h1 (by show ¬ (2 ≤ 1 + 0); decide)
        · exact ⟨[], fun _ _ => .nil, BindsTo.of_eq (by kernel_rfl)⟩
        · exact absurd h2 (by show ¬ (r.length + 1 + 1 + 1 ≤ 2); lia)
    have l_Tree_insert : ∀ P : Params, FnLink (Mine.main.heap_1_39 P) f_Tree_insert 347 := by
      intro P
      refine' mkLink ?ho ?hcd ?k1 ?k2 ?k3 ?body ?par ?nd ?nd2 ?bi
      case ho => k_is
      case hcd => kernel_rfl
      case k1 => rfl
      case k2 => rfl
      case k3 => rfl
      case body =>
        exact (.cons (.ifs (.or (.cons (.cmp kw kw rfl) (.cons (.cmp kw (.call (by kernel_rfl) (by unfold notDebug; kernel_rfl) (by kernel_rfl) (.cons kw (.cons kw .nil))) rfl) .nil))) (.cons .stuck
        .nil) .nil)
        (.cons (.ifs (.and (.cons (.cmp kw (.neg .int) rfl) (.cons (.cmp kw (.sub (.attr kw (fun _ _ _ => rfl)) kw) rfl) .nil))) (.cons .stuck
        .nil) .nil)
        (.cons (.ifs (.cmp kw kw rfl) (.cons .retNone
        .nil) .nil)
        (.cons (.expr (.meth kw (fun _ _ _ => rfl) (.cons kw .nil) (by decide) rfl) (fun _ _ _ => rfl))
        (.cons (.assign (.call (by kernel_rfl) (by unfold notDebug; kernel_rfl) (by kernel_rfl) (.cons (.sub (.attr kw (fun _ _ _ => rfl)) kw) .nil)) (.inl (by kernel_rfl)) (fun _ _ _ => rfl))
        (.cons (.ifs (.cmp kw (.neg .int) rfl) (.cons (.assign (.meth (.sub (.attr kw (fun _ _ _ => rfl)) kw) (fun _ _ _ => rfl) (.cons kw .nil) (by decide) rfl) (.inl (by kernel_rfl)) (fun _ _ _ => rfl))
        .nil) .nil)
        (.cons (.expr (.meth (.sub (.attr kw (fun _ _ _ => rfl)) kw) (fun _ _ _ => rfl) (.cons kw (.cons kw .nil)) (by decide) rfl) (fun _ _ _ => rfl))
        (.cons (.setsub (.attr kw (fun _ _ _ => rfl)) kw kw (fun _ _ _ => rfl))
        .nil))))))))
      case par => decide +kernel
      case nd => decide +kernel
      case nd2 => decide +kernel
      case bi =>
        intro s vals X h1 h2
        rcases vals with _ | ⟨v0, _ | ⟨v1, _ | ⟨v2, _ | ⟨v3, _ | ⟨v4, r⟩⟩⟩⟩⟩
        · exact absurd h1 (by show ¬ (4 ≤ 0 + 1); decide)
        · exact absurd h1 (by show ¬ (4 ≤ 1 + 1); decide)
        · exact absurd h1 (by show ¬ (4 ≤ 2 + 1); decide)
        · refine' bindsD X ?hd ?ho ?hv ?h1 ?h2
          case hd => rfl
          case ho => k_is
          case hv => intro base ι; exact (.cons (.int (-1) _) .nil)
          case h1 => rfl
          case h2 => rfl
        · refine' bindsD X ?hd ?ho ?hv ?h1 ?h2
          case hd => rfl
          case ho => k_is
          case hv => intro base ι; exact (.cons (.int (-1) _) .nil)
          case h1 => rfl
          case h2 => rfl
        · exact absurd h2 (by show ¬ (r.length + 1 + 1 + 1 + 1 + 1 ≤ 4); lia)
    have l_Tree_append : ∀ P : Params, FnLink (Mine.main.heap_1_39 P) f_Tree_append 354 := by
      intro P
      refine' mkLink ?ho ?hcd ?k1 ?k2 ?k3 ?body ?par ?nd ?nd2 ?bi
      case ho => k_is
      case hcd => kernel_rfl
      case k1 => rfl
      case k2 => rfl
      case k3 => rfl
      case body =>
        exact (.cons (.expr (.meth kw (fun _ _ _ => rfl) (.cons kw (.cons kw .nil)) (by decide) rfl) (fun _ _ _ => rfl))
        .nil)
      case par => decide +kernel
      case nd => decide +kernel
      case nd2 => decide +kernel
      case bi =>
        intro s vals X h1 h2
        rcases vals with _ | ⟨v0, _ | ⟨v1, _ | ⟨v2, _ | ⟨v3, r⟩⟩⟩⟩
        · exact absurd h1 (by show ¬ (3 ≤ 0 + 0); decide)
        · exact absurd h1 (by show ¬ (3 ≤ 1 + 0); decide)
        · exact absurd h1 (by show ¬ (3 ≤ 2 + 0); decide)
        · exact ⟨[], fun _ _ => .nil, BindsTo.of_eq (by kernel_rfl)⟩
        · exact absurd h2 (by show ¬ (r.length + 1 + 1 + 1 + 1 ≤ 3); lia)
    have l_Tree_remove : ∀ P : Params, FnLink (Mine.main.heap_1_39 P) f_Tree_remove 361 := by
      intro P
      refine' mkLink ?ho ?hcd ?k1 ?k2 ?k3 ?body ?par ?nd ?nd2 ?bi
      case ho => k_is
      case hcd => kernel_rfl
      case k1 => rfl
      case k2 => rfl
      case k3 => rfl
      case body =>
        exact (.cons (.ifs (.cmp (.sub (.attr kw (fun _ _ _ => rfl)) kw) (.neg .int) rfl) (.cons (.expr (.meth (.sub (.attr kw (fun _ _ _ => rfl)) (.sub (.attr kw (fun _ _ _ => rfl)) kw)) (fun _ _ _ => rfl) (.cons kw .nil) (by decide) rfl) (fun _ _ _ => rfl))
        (.cons (.setsub (.attr kw (fun _ _ _ => rfl)) kw (.neg .int) (fun _ _ _ => rfl))
        .nil)) .nil)
        .nil)
      case par => decide +kernel
      case nd => decide +kernel
      case nd2 => decide +kernel
      case bi =>
        intro s vals X h1 h2
        rcases vals with _ | ⟨v0, _ | ⟨v1, _ | ⟨v2, r⟩⟩⟩
        · exact absurd h1 (by show ¬ (2 ≤ 0 + 0); decide)
        · exact absurd h1 (by show ¬ (2 ≤ 1 + 0); decide)
        · exact ⟨[], fun _ _ => .nil, BindsTo.of_eq (by kernel_rfl)⟩
        · exact absurd h2 (by show ¬ (r.length + 1 + 1 + 1 ≤ 2); lia)
    have l_Tree_place : ∀ P : Params, FnLink (Mine.main.heap_1_39 P) f_Tree_place 375 := by
      intro P
      refine' mkLink ?ho ?hcd ?k1 ?k2 ?k3 ?body ?par ?nd ?nd2 ?bi
      case ho => k_is
      case hcd => kernel_rfl
      case k1 => rfl
      case k2 => rfl
      case k3 => rfl
      case body =>
        exact (.cons (.ifs (.cmp (.sub (.attr kw (fun _ _ _ => rfl)) kw) (.neg .int) rfl) (.cons (.ret (.neg .int))
        .nil) .nil)
        (.cons (.ret (.meth (.sub (.attr kw (fun _ _ _ => rfl)) (.sub (.attr kw (fun _ _ _ => rfl)) kw)) (fun _ _ _ => rfl) (.cons kw .nil) (by decide) rfl))
        .nil))
      case par => decide +kernel
      case nd => decide +kernel
      case nd2 => decide +kernel
      case bi =>
        intro s vals X h1 h2
        rcases vals with _ | ⟨v0, _ | ⟨v1, _ | ⟨v2, r⟩⟩⟩
        · exact absurd h1 (by show ¬ (2 ≤ 0 + 0); decide)
        · exact absurd h1 (by show ¬ (2 ≤ 1 + 0); decide)
        · exact ⟨[], fun _ _ => .nil, BindsTo.of_eq (by kernel_rfl)⟩
        · exact absurd h2 (by show ¬ (r.length + 1 + 1 + 1 ≤ 2); lia)
    have l_Tree_last : ∀ P : Params, FnLink (Mine.main.heap_1_39 P) f_Tree_last 382 := by
      intro P
      refine' mkLink ?ho ?hcd ?k1 ?k2 ?k3 ?body ?par ?nd ?nd2 ?bi
      case ho => k_is
      case hcd => kernel_rfl
      case k1 => rfl
      case k2 => rfl
      case k3 => rfl
      case body =>
        exact (.cons (.ifs (.not (.sub (.attr kw (fun _ _ _ => rfl)) kw)) (.cons (.ret (.neg .int))
        .nil) .nil)
        (.cons (.ret (.sub (.sub (.attr kw (fun _ _ _ => rfl)) kw) (.neg .int)))
        .nil))
      case par => decide +kernel
      case nd => decide +kernel
      case nd2 => decide +kernel
      case bi =>
        intro s vals X h1 h2
        rcases vals with _ | ⟨v0, _ | ⟨v1, _ | ⟨v2, r⟩⟩⟩
        · exact absurd h1 (by show ¬ (2 ≤ 0 + 0); decide)
        · exact absurd h1 (by show ¬ (2 ≤ 1 + 0); decide)
        · exact ⟨[], fun _ _ => .nil, BindsTo.of_eq (by kernel_rfl)⟩
        · exact absurd h2 (by show ¬ (r.length + 1 + 1 + 1 ≤ 2); lia)
    have l_Tree_is_html : ∀ P : Params, FnLink (Mine.main.heap_1_39 P) f_Tree_is_html 396 := by
      intro P
      refine' mkLink ?ho ?hcd ?k1 ?k2 ?k3 ?body ?par ?nd ?nd2 ?bi
      case ho => k_is
      case hcd => kernel_rfl
      case k1 => rfl
      case k2 => rfl
      case k3 => rfl
      case body =>
        exact (.cons (.ret (.and (.cons (.cmp kw (.neg .int) rfl) (.cons (.cmp (.sub (.attr kw (fun _ _ _ => rfl)) kw) .str rfl) (.cons (.cmp (.sub (.attr kw (fun _ _ _ => rfl)) kw) kw rfl) .nil)))))
        .nil)
      case par => decide +kernel
      case nd => decide +kernel
      case nd2 => decide +kernel
      case bi =>
        intro s vals X h1 h2
        rcases vals with _ | ⟨v0, _ | ⟨v1, _ | ⟨v2, _ | ⟨v3, r⟩⟩⟩⟩
        · exact absurd h1 (by show ¬ (3 ≤ 0 + 0); decide)
        · exact absurd h1 (by show ¬ (3 ≤ 1 + 0); decide)
        · exact absurd h1 (by show ¬ (3 ≤ 2 + 0); decide)
        · exact ⟨[], fun _ _ => .nil, BindsTo.of_eq (by kernel_rfl)⟩
        · exact absurd h2 (by show ¬ (r.length + 1 + 1 + 1 + 1 ≤ 3); lia)
    have l_above : ∀ P : Params, FnLink (Mine.main.heap_1_39 P) f_above 410 := by
      intro P
      refine' mkLink ?ho ?hcd ?k1 ?k2 ?k3 ?body ?par ?nd ?nd2 ?bi
      case ho => k_is
      case hcd => kernel_rfl
      case k1 => rfl
      case k2 => rfl
      case k3 => rfl
      case body =>
        exact (.cons (.assign (.lst .nil) (.inl (by kernel_rfl)) (fun _ _ _ => rfl))
        (.cons (.assign (.sub (.attr kw (fun _ _ _ => rfl)) kw) (.inl (by kernel_rfl)) (fun _ _ _ => rfl))
        (.cons (.while (.cmp kw (.neg .int) rfl) (.cons (.expr (.meth kw (fun _ _ _ => rfl) (.cons kw .nil) (by decide) rfl) (fun _ _ _ => rfl))
        (.cons (.assign (.sub (.attr kw (fun _ _ _ => rfl)) kw) (.inl (by kernel_rfl)) (fun _ _ _ => rfl))
        .nil)))
        (.cons (.ret kw)
        .nil))))
      case par => decide +kernel
      case nd => decide +kernel
      case nd2 => decide +kernel
      case bi =>
        intro s vals X h1 h2
        rcases vals with _ | ⟨v0, _ | ⟨v1, _ | ⟨v2, r⟩⟩⟩
        · exact absurd h1 (by show ¬ (2 ≤ 0 + 0); decide)
        · exact absurd h1 (by show ¬ (2 ≤ 1 + 0); decide)
        · exact ⟨[], fun _ _ => .nil, BindsTo.of_eq (by kernel_rfl)⟩
        · exact absurd h2 (by show ¬ (r.length + 1 + 1 + 1 ≤ 2); lia)
    have l_Builder_init : ∀ P : Params, FnLink (Mine.main.heap_1_39 P) f_Builder_init 425 := by
      intro P
      refine' mkLink ?ho ?hcd ?k1 ?k2 ?k3 ?body ?par ?nd ?nd2 ?bi
      case ho => k_is
      case hcd => kernel_rfl
      case k1 => rfl
      case k2 => rfl
      case k3 => rfl
      case body =>
        exact (.cons (.setattr kw kw (fun _ _ _ => rfl))
        (.cons (.setattr kw (.call (by kernel_rfl) (by unfold notDebug; kernel_rfl) (by kernel_rfl) .nil) (fun _ _ _ => rfl))
        (.cons (.setattr kw (.call (by kernel_rfl) (by unfold notDebug; kernel_rfl) (by kernel_rfl) (.cons (.attr kw (fun _ _ _ => rfl)) .nil)) (fun _ _ _ => rfl))
        (.cons (.setattr kw (.call (by kernel_rfl) (by unfold notDebug; kernel_rfl) (by kernel_rfl) (.cons (.attr kw (fun _ _ _ => rfl)) .nil)) (fun _ _ _ => rfl))
        (.cons (.setattr kw .str (fun _ _ _ => rfl))
        (.cons (.setattr kw .str (fun _ _ _ => rfl))
        (.cons (.setattr kw (.lst .nil) (fun _ _ _ => rfl))
        (.cons (.setattr kw (.neg .int) (fun _ _ _ => rfl))
        (.cons (.setattr kw (.neg .int) (fun _ _ _ => rfl))
        (.cons (.setattr kw .dict0 (fun _ _ _ => rfl))
        (.cons (.setattr kw .bool (fun _ _ _ => rfl))
        (.cons (.setattr kw kw (fun _ _ _ => rfl))
        (.cons (.setattr kw .bool (fun _ _ _ => rfl))
        (.cons (.setattr kw (.neg .int) (fun _ _ _ => rfl))
        (.cons (.setattr kw .str (fun _ _ _ => rfl))
        (.cons (.setattr kw (.lst .nil) (fun _ _ _ => rfl))
        (.cons (.setattr kw (.lst .nil) (fun _ _ _ => rfl))
        (.cons (.setattr kw .str (fun _ _ _ => rfl))
        (.cons (.setattr kw .bool (fun _ _ _ => rfl))
        (.cons (.setattr kw .bool (fun _ _ _ => rfl))
        (.cons (.setattr kw .bool (fun _ _ _ => rfl))
        .nil)))))))))))))))))))))
      case par => decide +kernel
      case nd => decide +kernel
      case nd2 => decide +kernel
      case bi =>
        intro s vals X h1 h2
        rcases vals with _ | ⟨v0, _ | ⟨v1, _ | ⟨v2, _ | ⟨v3, r⟩⟩⟩⟩
        · exact absurd h1 (by show ¬ (3 ≤ 0 + 1); decide)
        · exact absurd h1 (by show ¬ (3 ≤ 1 + 1); decide)
        · refine' bindsD X ?hd ?ho ?hv ?h1 ?h2
          case hd => rfl
          case ho => k_is
          case hv => intro base ι; exact (.cons (.bool false) .nil)
          case h1 => rfl
          case h2 => rfl
        · refine' bindsD X ?hd ?ho ?hv ?h1 ?h2
          case hd => rfl
          case ho => k_is
          case hv => intro base ι; exact (.cons (.bool false) .nil)
          case h1 => rfl
          case h2 => rfl
        · exact absurd h2 (by show ¬ (r.length + 1 + 1 + 1 + 1 ≤ 3); lia)
    have l_law_bases : ∀ P : Params, FnLink (Mine.main.heap_1_39 P) f_law_bases 488 := by
      intro P
      refine' mkLink ?ho ?hcd ?k1 ?k2 ?k3 ?body ?par ?nd ?nd2 ?bi
      case ho => k_is
      case hcd => kernel_rfl
      case k1 => rfl
      case k2 => rfl
      case k3 => rfl
      case body =>
        exact (.cons (.ret (.tup (.cons (.tup (.cons .int (.cons .int (.cons .int (.cons .int (.cons .int (.cons .int .nil))))))) (.cons (.tup (.cons .int (.cons .int (.cons .int (.cons .int (.cons .int (.cons .int .nil))))))) (.cons (.tup (.cons .int (.cons .int (.cons .int (.cons .int (.cons .int (.cons .int .nil))))))) (.cons (.tup (.cons .int (.cons .int (.cons .int (.cons .int (.cons .int (.cons .int .nil))))))) (.cons (.tup (.cons .int (.cons .int (.cons .int (.cons .int (.cons .int (.cons .int .nil))))))) (.cons (.tup (.cons .int (.cons .int (.cons .int (.cons .int (.cons .int (.cons .int .nil))))))) (.cons (.tup (.cons .int (.cons .int (.cons .int (.cons .int (.cons .int (.cons .int .nil))))))) (.cons (.tup (.cons .int (.cons .int (.cons .int (.cons .int (.cons .int (.cons .int .nil))))))) .nil))))))))))
        .nil)
      case par => decide +kernel
      case nd => decide +kernel
      case nd2 => decide +kernel
      case bi =>
        intro s vals X h1 h2
        rcases vals with _ | ⟨v0, r⟩
        · exact ⟨[], fun _ _ => .nil, BindsTo.of_eq (by kernel_rfl)⟩
        · exact absurd h2 (by show ¬ (r.length + 1 ≤ 0); lia)
    have l_law_grow : ∀ P : Params, FnLink (Mine.main.heap_1_39 P) f_law_grow 495 := by
      intro P
      refine' mkLink ?ho ?hcd ?k1 ?k2 ?k3 ?body ?par ?nd ?nd2 ?bi
      case ho => k_is
      case hcd => kernel_rfl
      case k1 => rfl
      case k2 => rfl
      case k3 => rfl
      case body =>
        exact (.cons (.unpack kw (by unfold storeOk; decide +kernel) (.cons (.cons (.cons (.cons .nil)))) (fun _ _ _ => rfl) (fun _ => rfl) (by decide))
        (.cons (.assign (.attr kw (fun _ _ _ => rfl)) (.inl (by kernel_rfl)) (fun _ _ _ => rfl))
        (.cons (.assign (.bin kw .int) (.inl (by kernel_rfl)) (fun _ _ _ => rfl))
        (.cons (.assign (.sub (.tup (.cons .str (.cons .str (.cons .str (.cons .str (.cons .str (.cons .str (.cons .str (.cons .str (.cons .str (.cons .str (.cons .str .nil)))))))))))) kw) (.inl (by kernel_rfl)) (fun _ _ _ => rfl))
        (.cons (.assign (.meth kw (fun _ _ _ => rfl) (.cons kw (.cons (.ite (.cmp kw (.tup (.cons .int (.cons .int .nil))) rfl) .str .str) .nil)) (by decide) rfl) (.inl (by kernel_rfl)) (fun _ _ _ => rfl))
        (.cons (.assign (.meth kw (fun _ _ _ => rfl) (.cons (.sub kw (.neg .int)) (.cons (.sub kw (.neg .int)) .nil)) (by decide) rfl) (.inl (by kernel_rfl)) (fun _ _ _ => rfl))
        (.cons (.assign (.bin (.bin kw .int) .int) (.inl (by kernel_rfl)) (fun _ _ _ => rfl))
        (.cons (.ifs (.cmp kw .int rfl) (.cons (.assign (.sub (.tup (.cons (.neg .int) (.cons .int (.cons kw (.cons (.sub kw (.neg .int)) .nil))))) (.bin kw .int)) (.inl (by kernel_rfl)) (fun _ _ _ => rfl))
        .nil) .nil)
        (.cons (.ifs (.and (.cons (.cmp kw .int rfl) (.cons (.cmp (.bin (.bin kw .int) .int) .int rfl) .nil))) (.cons (.expr (.meth kw (fun _ _ _ => rfl) (.cons kw (.cons (.meth kw (fun _ _ _ => rfl) (.cons .str .nil) (by decide) rfl) .nil)) (by decide) rfl) (fun _ _ _ => rfl))
        .nil) .nil)
        (.cons (.ifs (.and (.cons (.cmp kw .int rfl) (.cons (.cmp (.bin (.bin kw .int) .int) .int rfl) .nil))) (.cons (.expr (.meth kw (fun _ _ _ => rfl) (.cons kw (.cons (.meth kw (fun _ _ _ => rfl) (.cons .str .nil) (by decide) rfl) .nil)) (by decide) rfl) (fun _ _ _ => rfl))
        .nil) .nil)
        (.cons (.ifs (.cmp kw (.neg .int) rfl) (.cons (.expr (.meth kw (fun _ _ _ => rfl) (.cons kw (.cons kw .nil)) (by decide) rfl) (fun _ _ _ => rfl))
        .nil) .nil)
        (.cons (.ifs (.and (.cons (.cmp kw .int rfl) (.cons (.cmp (.bin (.bin kw .int) .int) .int rfl) .nil))) (.cons (.expr (.meth kw (fun _ _ _ => rfl) (.cons kw (.cons (.meth kw (fun _ _ _ => rfl) (.cons .str .nil) (by decide) rfl) .nil)) (by decide) rfl) (fun _ _ _ => rfl))
        .nil) .nil)
        (.cons (.ifs (.cmp kw .int rfl) (.cons (.setsub kw kw (.sub (.attr kw (fun _ _ _ => rfl)) kw) (fun _ _ _ => rfl))
        .nil) .nil)
        (.cons (.expr (.meth (.attr kw (fun _ _ _ => rfl)) (fun _ _ _ => rfl) (.cons kw .nil) (by decide) rfl) (fun _ _ _ => rfl))
        (.cons (.expr (.meth kw (fun _ _ _ => rfl) (.cons kw .nil) (by decide) rfl) (fun _ _ _ => rfl))
        (.cons (.setsub kw kw (.ite (.cmp kw (.tup (.cons .int (.cons .int .nil))) rfl) .str kw) (fun _ _ _ => rfl))
        (.cons (.setsub kw kw kw (fun _ _ _ => rfl))
        .nil)))))))))))))))))
      case par => decide +kernel
      case nd => decide +kernel
      case nd2 => decide +kernel
      case bi =>
        intro s vals X h1 h2
        rcases vals with _ | ⟨v0, _ | ⟨v1, _ | ⟨v2, _ | ⟨v3, _ | ⟨v4, r⟩⟩⟩⟩⟩
        · exact absurd h1 (by show ¬ (4 ≤ 0 + 0); decide)
        · exact absurd h1 (by show ¬ (4 ≤ 1 + 0); decide)
        · exact absurd h1 (by show ¬ (4 ≤ 2 + 0); decide)
        · exact absurd h1 (by show ¬ (4 ≤ 3 + 0); decide)
        · exact ⟨[], fun _ _ => .nil, BindsTo.of_eq (by kernel_rfl)⟩
        · exact absurd h2 (by show ¬ (r.length + 1 + 1 + 1 + 1 + 1 ≤ 4); lia)
    have l_law_spot : ∀ P : Params, FnLink (Mine.main.heap_1_39 P) f_law_spot 500 := by
      intro P
      refine' mkLink ?ho ?hcd ?k1 ?k2 ?k3 ?body ?par ?nd ?nd2 ?bi
      case ho => k_is
      case hcd => kernel_rfl
      case k1 => rfl
      case k2 => rfl
      case k3 => rfl
      case body =>
        exact (.cons (.unpack kw (by unfold storeOk; decide +kernel) (.cons (.cons (.cons (.cons .nil)))) (fun _ _ _ => rfl) (fun _ => rfl) (by decide))
        (.cons (.assign (.tup (.cons kw (.cons (.neg .int) .nil))) (.inl (by kernel_rfl)) (fun _ _ _ => rfl))
        (.cons (.ifs (.and (.cons kw (.cons (.cmp (.sub kw kw) (.tup (.cons .str (.cons .str (.cons .str (.cons .str (.cons .str .nil)))))) rfl) .nil))) (.cons (.compAssign (.comp (.call (by kernel_rfl) (by unfold notDebug; kernel_rfl) (by kernel_rfl) (.cons (.call (by kernel_rfl) (by unfold notDebug; kernel_rfl) (by kernel_rfl) (.cons kw .nil)) .nil)) kw (.one (.cmp (.sub kw (.sub kw kw)) .str rfl)) rfl (by kernel_rfl) (by decide +kernel) (by decide +kernel) (by decide +kernel) (by decide)) (by kernel_rfl) ⟨_, _, _, _, rfl, rfl, by kernel_rfl⟩)
        (.cons (.compAssign (.comp (.call (by kernel_rfl) (by unfold notDebug; kernel_rfl) (by kernel_rfl) (.cons (.call (by kernel_rfl) (by unfold notDebug; kernel_rfl) (by kernel_rfl) (.cons kw .nil)) .nil)) kw (.one (.cmp (.sub kw (.sub kw kw)) .str rfl)) rfl (by kernel_rfl) (by decide +kernel) (by decide +kernel) (by decide +kernel) (by decide)) (by kernel_rfl) ⟨_, _, _, _, rfl, rfl, by kernel_rfl⟩)
        (.cons (.ifs (.and (.cons (.cmp (.call (by kernel_rfl) (by unfold notDebug; kernel_rfl) (by kernel_rfl) (.cons kw .nil)) .int rfl) (.cons (.or (.cons (.cmp (.call (by kernel_rfl) (by unfold notDebug; kernel_rfl) (by kernel_rfl) (.cons kw .nil)) .int rfl) (.cons (.cmp (.sub kw (.neg .int)) (.sub kw (.neg .int)) rfl) .nil))) .nil))) (.cons (.assign (.tup (.cons (.sub kw (.sub kw (.neg .int))) (.cons (.neg .int) .nil))) (.inl (by kernel_rfl)) (fun _ _ _ => rfl))
        .nil) (.cons (.ifs (.cmp (.call (by kernel_rfl) (by unfold notDebug; kernel_rfl) (by kernel_rfl) (.cons kw .nil)) .int rfl) (.cons (.assign (.tup (.cons (.sub kw .int) (.cons (.neg .int) .nil))) (.inl (by kernel_rfl)) (fun _ _ _ => rfl))
        .nil) (.cons (.ifs (.cmp (.sub kw (.sub kw (.sub kw (.neg .int)))) (.neg .int) rfl) (.cons (.assign (.tup (.cons (.sub kw (.sub kw (.sub kw (.neg .int)))) (.cons (.sub kw (.sub kw (.neg .int))) .nil))) (.inl (by kernel_rfl)) (fun _ _ _ => rfl))
        .nil) (.cons (.assign (.tup (.cons (.sub kw (.bin (.sub kw (.neg .int)) .int)) (.cons (.neg .int) .nil))) (.inl (by kernel_rfl)) (fun _ _ _ => rfl))
        .nil))
        .nil))
        .nil))
        .nil))) .nil)
        (.cons (.ifs (.cmp (.sub kw .int) kw rfl) (.cons (.ret (.tup (.cons (.sub kw (.sub kw .int)) (.cons (.neg .int) .nil))))
        .nil) .nil)
        (.cons (.ret kw)
        .nil)))))
      case par => decide +kernel
      case nd => decide +kernel
      case nd2 => decide +kernel
      case bi =>
        intro s vals X h1 h2
        rcases vals with _ | ⟨v0, _ | ⟨v1, _ | ⟨v2, _ | ⟨v3, r⟩⟩⟩⟩
        · exact absurd h1 (by show ¬ (3 ≤ 0 + 0); decide)
        · exact absurd h1 (by show ¬ (3 ≤ 1 + 0); decide)
        · exact absurd h1 (by show ¬ (3 ≤ 2 + 0); decide)
        · exact ⟨[], fun _ _ => .nil, BindsTo.of_eq (by kernel_rfl)⟩
        · exact absurd h2 (by show ¬ (r.length + 1 + 1 + 1 + 1 ≤ 3); lia)
    have l_law_put : ∀ P : Params, FnLink (Mine.main.heap_1_39 P) f_law_put 505 := by
      intro P
      refine' mkLink ?ho ?hcd ?k1 ?k2 ?k3 ?body ?par ?nd ?nd2 ?bi
      case ho => k_is
      case hcd => kernel_rfl
      case k1 => rfl
      case k2 => rfl
      case k3 => rfl
      case body =>
        exact (.cons (.unpack kw (by unfold storeOk; decide +kernel) (.cons (.cons (.cons (.cons .nil)))) (fun _ _ _ => rfl) (fun _ => rfl) (by decide))
        (.cons (.unpack kw (by unfold storeOk; decide +kernel) (.cons (.cons .nil)) (fun _ _ _ => rfl) (fun _ => rfl) (by decide))
        (.cons (.assign (.ite (.cmp kw (.neg .int) rfl) (.call (by kernel_rfl) (by unfold notDebug; kernel_rfl) (by kernel_rfl) (.cons (.sub kw kw) .nil)) (.meth (.sub kw kw) (fun _ _ _ => rfl) (.cons kw .nil) (by decide) rfl)) (.inl (by kernel_rfl)) (fun _ _ _ => rfl))
        (.cons (.assign (.slice (.sub kw kw) .absent (.some kw)) (.inl (by kernel_rfl)) (fun _ _ _ => rfl))
        (.cons (.ifs (.and (.cons (.cmp kw .str rfl) (.cons (.cmp kw .int rfl) .nil))) (.cons .retNone
        .nil) .nil)
        (.cons (.ifs (.and (.cons (.cmp kw .str rfl) (.cons (.cmp (.comp (.slice kw (.some (.neg .int)) .absent) (.sub kw kw) .absent rfl (by kernel_rfl) (by decide +kernel) (by decide +kernel) (by decide +kernel) (by decide)) (.lst (.cons .str .nil)) rfl) .nil))) (.cons (.setsub kw (.sub kw (.neg .int)) (.bin (.sub kw (.sub kw (.neg .int))) kw) (fun _ _ _ => rfl))
        (.cons .retNone
        .nil)) .nil)
        (.cons (.setsub kw kw (.bin (.bin kw (.lst (.cons (.call (by kernel_rfl) (by unfold notDebug; kernel_rfl) (by kernel_rfl) (.cons kw .nil)) .nil))) (.slice (.sub kw kw) (.some kw) .absent)) (fun _ _ _ => rfl))
        (.cons (.expr (.meth kw (fun _ _ _ => rfl) (.cons kw .nil) (by decide) rfl) (fun _ _ _ => rfl))
        (.cons (.expr (.meth kw (fun _ _ _ => rfl) (.cons kw .nil) (by decide) rfl) (fun _ _ _ => rfl))
        (.cons (.expr (.meth kw (fun _ _ _ => rfl) (.cons kw .nil) (by decide) rfl) (fun _ _ _ => rfl))
        (.cons (.expr (.meth kw (fun _ _ _ => rfl) (.cons (.lst .nil) .nil) (by decide) rfl) (fun _ _ _ => rfl))
        .nil)))))))))))
      case par => decide +kernel
      case nd => decide +kernel
      case nd2 => decide +kernel
      case bi =>
        intro s vals X h1 h2
        rcases vals with _ | ⟨v0, _ | ⟨v1, _ | ⟨v2, _ | ⟨v3, _ | ⟨v4, r⟩⟩⟩⟩⟩
        · exact absurd h1 (by show ¬ (4 ≤ 0 + 0); decide)
        · exact absurd h1 (by show ¬ (4 ≤ 1 + 0); decide)
        · exact absurd h1 (by show ¬ (4 ≤ 2 + 0); decide)
        · exact absurd h1 (by show ¬ (4 ≤ 3 + 0); decide)
        · exact ⟨[], fun _ _ => .nil, BindsTo.of_eq (by kernel_rfl)⟩
        · exact absurd h2 (by show ¬ (r.length + 1 + 1 + 1 + 1 + 1 ≤ 4); lia)
    have l_law_scene : ∀ P : Params, FnLink (Mine.main.heap_1_39 P) f_law_scene 510 := by
      intro P
      refine' mkLink ?ho ?hcd ?k1 ?k2 ?k3 ?body ?par ?nd ?nd2 ?bi
      case ho => k_is
      case hcd => kernel_rfl
      case k1 => rfl
      case k2 => rfl
      case k3 => rfl
      case body =>
        exact (.cons (.assign (.call (by kernel_rfl) (by unfold notDebug; kernel_rfl) (by kernel_rfl) (.cons .dict0 .nil)) (.inl (by kernel_rfl)) (fun _ _ _ => rfl))
        (.cons (.assign (.attr kw (fun _ _ _ => rfl)) (.inl (by kernel_rfl)) (fun _ _ _ => rfl))
        (.cons (.assign (.meth kw (fun _ _ _ => rfl) (.cons .str .nil) (by decide) rfl) (.inl (by kernel_rfl)) (fun _ _ _ => rfl))
        (.cons (.expr (.meth kw (fun _ _ _ => rfl) (.cons .int (.cons kw .nil)) (by decide) rfl) (fun _ _ _ => rfl))
        (.cons (.expr (.meth (.attr kw (fun _ _ _ => rfl)) (fun _ _ _ => rfl) (.cons kw .nil) (by decide) rfl) (fun _ _ _ => rfl))
        (.cons (.assign (.meth kw (fun _ _ _ => rfl) (.cons .str .nil) (by decide) rfl) (.inl (by kernel_rfl)) (fun _ _ _ => rfl))
        (.cons (.expr (.meth kw (fun _ _ _ => rfl) (.cons kw (.cons kw .nil)) (by decide) rfl) (fun _ _ _ => rfl))
        (.cons (.assign (.tup (.cons (.lst (.cons kw .nil)) (.cons (.dict1 kw .str) (.cons (.dict1 kw .int) (.cons .dict0 .nil))))) (.inl (by kernel_rfl)) (fun _ _ _ => rfl))
        (.cons (.for (.slice kw .absent (.some .int)) (.inl (by kernel_rfl)) (.cons (.expr (.call (by kernel_rfl) (by unfold notDebug; kernel_rfl) (by kernel_rfl) (.cons kw (.cons kw (.cons kw (.cons kw .nil))))) (fun _ _ _ => rfl))
        .nil))
        (.cons (.assign (.sub kw .int) (.inl (by kernel_rfl)) (fun _ _ _ => rfl))
        (.cons (.assign (.sub kw (.neg .int)) (.inl (by kernel_rfl)) (fun _ _ _ => rfl))
        (.cons (.assign (.bin (.bin (.sub kw .int) .int) .int) (.inl (by kernel_rfl)) (fun _ _ _ => rfl))
        (.cons (.ifs (.cmp kw .int rfl) (.cons (.expr (.meth kw (fun _ _ _ => rfl) (.cons (.meth (.sub kw .int) (fun _ _ _ => rfl) (.cons kw (.cons kw .nil)) (by decide) rfl) (.cons (.ite (.cmp kw .int rfl) (.meth kw (fun _ _ _ => rfl) (.cons .str .nil) (by decide) rfl) (.meth kw (fun _ _ _ => rfl) (.cons .str .nil) (by decide) rfl)) .nil)) (by decide) rfl) (fun _ _ _ => rfl))
        .nil) .nil)
        (.cons (.for (.tup (.cons .bool (.cons .bool .nil))) (.inl (by kernel_rfl)) (.cons (.setattr kw kw (fun _ _ _ => rfl))
        (.cons (.ifs (.cmp (.call (by kernel_rfl) (by unfold notDebug; kernel_rfl) (by kernel_rfl) (.cons kw .nil)) (.call (by kernel_rfl) (by unfold notDebug; kernel_rfl) (by kernel_rfl) (.cons kw (.cons kw (.cons kw .nil)))) rfl) (.cons (.ret .bool)
        .nil) .nil)
        (.cons (.for kw (.inl (by kernel_rfl)) (.cons (.ifs (.cmp (.call (by kernel_rfl) (by unfold notDebug; kernel_rfl) (by kernel_rfl) (.cons kw (.cons kw .nil))) (.call (by kernel_rfl) (by unfold notDebug; kernel_rfl) (by kernel_rfl) (.cons kw (.cons kw (.cons kw .nil)))) rfl) (.cons (.ret .bool)
        .nil) .nil)
        .nil))
        .nil))))
        (.cons (.assign (.tup (.cons (.call (by kernel_rfl) (by unfold notDebug; kernel_rfl) (by kernel_rfl) (.cons (.attr kw (fun _ _ _ => rfl)) .nil)) (.cons (.call (by kernel_rfl) (by unfold notDebug; kernel_rfl) (by kernel_rfl) (.cons (.attr kw (fun _ _ _ => rfl)) .nil)) (.cons (.call (by kernel_rfl) (by unfold notDebug; kernel_rfl) (by kernel_rfl) (.cons (.attr kw (fun _ _ _ => rfl)) .nil)) (.cons (.comp (.attr kw (fun _ _ _ => rfl)) (.call (by kernel_rfl) (by unfold notDebug; kernel_rfl) (by kernel_rfl) (.cons kw .nil)) .absent rfl (by kernel_rfl) (by decide +kernel) (by decide +kernel) (by decide +kernel) (by decide)) .nil))))) (.inl (by kernel_rfl)) (fun _ _ _ => rfl))
        (.cons (.assign (.lst (.cons (.call (by kernel_rfl) (by unfold notDebug; kernel_rfl) (by kernel_rfl) (.cons (.attr kw (fun _ _ _ => rfl)) .nil)) (.cons (.call (by kernel_rfl) (by unfold notDebug; kernel_rfl) (by kernel_rfl) (.cons (.attr kw (fun _ _ _ => rfl)) .nil)) (.cons (.comp (.attr kw (fun _ _ _ => rfl)) (.call (by kernel_rfl) (by unfold notDebug; kernel_rfl) (by kernel_rfl) (.cons kw .nil)) .absent rfl (by kernel_rfl) (by decide +kernel) (by decide +kernel) (by decide +kernel) (by decide)) .nil)))) (.inl (by kernel_rfl)) (fun _ _ _ => rfl))
        (.cons (.assign (.cmp (.bin (.sub kw .int) .int) .int rfl) (.inl (by kernel_rfl)) (fun _ _ _ => rfl))
        (.cons (.setattr kw kw (fun _ _ _ => rfl))
        (.cons (.for (.tup (.cons .str (.cons .str (.cons .str (.cons .str (.cons .str .nil)))))) (.inl (by kernel_rfl)) (.cons (.ifs (.cmp kw .str rfl) (.cons (.assign (.not kw) (.inl (by kernel_rfl)) (fun _ _ _ => rfl))
        (.cons (.setattr kw kw (fun _ _ _ => rfl))
        .nil)) .nil)
        (.cons (.ifs (.cmp kw .str rfl) (.cons (.expr (.call (by kernel_rfl) (by unfold notDebug; kernel_rfl) (by kernel_rfl) (.cons kw (.cons kw .nil))) (fun _ _ _ => rfl))
        .nil) (.cons (.expr (.call (by kernel_rfl) (by unfold notDebug; kernel_rfl) (by kernel_rfl) (.cons kw (.cons kw .nil))) (fun _ _ _ => rfl))
        .nil))
        (.cons (.expr (.call (by kernel_rfl) (by unfold notDebug; kernel_rfl) (by kernel_rfl) (.cons kw (.cons (.call (by kernel_rfl) (by unfold notDebug; kernel_rfl) (by kernel_rfl) (.cons kw (.cons kw (.cons kw .nil)))) (.cons (.ite (.cmp kw .str rfl) .str .str) (.cons kw .nil))))) (fun _ _ _ => rfl))
        .nil))))
        (.cons (.expr (.call (by kernel_rfl) (by unfold notDebug; kernel_rfl) (by kernel_rfl) (.cons kw (.cons .str (.cons (.sub kw .int) .nil)))) (fun _ _ _ => rfl))
        (.cons (.expr (.call (by kernel_rfl) (by unfold notDebug; kernel_rfl) (by kernel_rfl) (.cons kw (.cons (.tup (.cons (.sub kw .int) (.cons (.neg .int) .nil))) (.cons .str (.cons .str .nil))))) (fun _ _ _ => rfl))
        (.cons (.assign (.bin (.call (by kernel_rfl) (by unfold notDebug; kernel_rfl) (by kernel_rfl) (.cons (.sub kw .int) .nil)) (.call (by kernel_rfl) (by unfold notDebug; kernel_rfl) (by kernel_rfl) (.cons (.sub kw .int) .nil))) (.inl (by kernel_rfl)) (fun _ _ _ => rfl))
        (.cons (.assign (.lst (.cons (.bin (.sub kw .int) (.bin (.lst (.cons .str .nil)) kw)) (.cons (.bin (.sub kw .int) (.bin (.lst (.cons .str .nil)) kw)) (.cons (.bin (.sub kw .int) (.bin (.lst (.cons (.lst .nil) .nil)) kw)) .nil)))) (.inl (by kernel_rfl)) (fun _ _ _ => rfl))
        (.cons (.ifs (.or (.cons (.cmp (.lst (.cons (.attr kw (fun _ _ _ => rfl)) (.cons (.attr kw (fun _ _ _ => rfl)) (.cons (.attr kw (fun _ _ _ => rfl)) .nil)))) kw rfl) (.cons (.cmp (.attr (.attr kw (fun _ _ _ => rfl)) (fun _ _ _ => rfl)) kw rfl) (.cons (.cmp (.attr kw (fun _ _ _ => rfl)) (.lst .nil) rfl) .nil)))) (.cons (.ret .bool)
        .nil) .nil)
        (.cons (.ret (.and (.cons (.cmp (.tup (.cons (.attr kw (fun _ _ _ => rfl)) (.cons (.attr kw (fun _ _ _ => rfl)) (.cons (.attr kw (fun _ _ _ => rfl)) (.cons (.attr kw (fun _ _ _ => rfl)) .nil))))) kw rfl) (.cons (.cmp (.attr kw (fun _ _ _ => rfl)) (.sub kw .int) rfl) .nil))))
        .nil)))))))))))))))))))))))))
      case par => decide +kernel
      case nd => decide +kernel
      case nd2 => decide +kernel
      case bi =>
        intro s vals X h1 h2
        rcases vals with _ | ⟨v0, _ | ⟨v1, r⟩⟩
        · exact absurd h1 (by show ¬ (1 ≤ 0 + 0); decide)
        · exact ⟨[], fun _ _ => .nil, BindsTo.of_eq (by kernel_rfl)⟩
        · exact absurd h2 (by show ¬ (r.length + 1 + 1 ≤ 1); lia)
    have l_law : ∀ P : Params, FnLink (Mine.main.heap_1_39 P) f_law 517 := by
      intro P
      refine' mkLink ?ho ?hcd ?k1 ?k2 ?k3 ?body ?par ?nd ?nd2 ?bi
      case ho => k_is
      case hcd => kernel_rfl
      case k1 => rfl
      case k2 => rfl
      case k3 => rfl
      case body =>
        exact (.cons (.assign (.call (by kernel_rfl) (by unfold notDebug; kernel_rfl) (by kernel_rfl) (.cons .dict0 .nil)) (.inl (by kernel_rfl)) (fun _ _ _ => rfl))
        (.cons (.expr (.call (by kernel_rfl) (by unfold notDebug; kernel_rfl) (by kernel_rfl) (.cons kw (.cons .str .nil))) (fun _ _ _ => rfl))
        (.cons (.ifs (.or (.cons (.cmp (.call (by kernel_rfl) (by unfold notDebug; kernel_rfl) (by kernel_rfl) (.cons kw .nil)) (.tup (.cons .int (.cons (.neg .int) .nil))) rfl) (.cons (.cmp (.attr (.attr kw (fun _ _ _ => rfl)) (fun _ _ _ => rfl)) (.lst (.cons .str .nil)) rfl) (.cons (.cmp (.attr (.attr kw (fun _ _ _ => rfl)) (fun _ _ _ => rfl)) (.lst (.cons (.lst .nil) .nil)) rfl) .nil)))) (.cons (.ret .bool)
        .nil) .nil)
        (.cons (.assign (.call (by kernel_rfl) (by unfold notDebug; kernel_rfl) (by kernel_rfl) .nil) (.inl (by kernel_rfl)) (fun _ _ _ => rfl))
        (.cons (.for (.call (by kernel_rfl) (by unfold notDebug; kernel_rfl) (by kernel_rfl) (.cons .int .nil)) (.inl (by kernel_rfl)) (.cons (.assign (.lst .nil) (.inl (by kernel_rfl)) (fun _ _ _ => rfl))
        (.cons (.for (.call (by kernel_rfl) (by unfold notDebug; kernel_rfl) (by kernel_rfl) (.cons .int .nil)) (.inl (by kernel_rfl)) (.cons (.assign (.bin (.bin .int kw) kw) (.inl (by kernel_rfl)) (fun _ _ _ => rfl))
        (.cons (.expr (.meth kw (fun _ _ _ => rfl) (.cons (.bin (.sub (.sub kw kw) kw) (.ite (.cmp kw (.call (by kernel_rfl) (by unfold notDebug; kernel_rfl) (by kernel_rfl) (.cons kw .nil)) rfl) (.sub kw kw) .int)) .nil) (by decide) rfl) (fun _ _ _ => rfl))
        .nil)))
        (.cons (.ifs (.not (.call (by kernel_rfl) (by unfold notDebug; kernel_rfl) (by kernel_rfl) (.cons kw .nil))) (.cons (.ret .bool)
        .nil) .nil)
        .nil))))
        (.cons (.ret .bool)
        .nil))))))
      case par => decide +kernel
      case nd => decide +kernel
      case nd2 => decide +kernel
      case bi =>
        intro s vals X h1 h2
        rcases vals with _ | ⟨v0, _ | ⟨v1, r⟩⟩
        · exact absurd h1 (by show ¬ (1 ≤ 0 + 0); decide)
        · exact ⟨[], fun _ _ => .nil, BindsTo.of_eq (by kernel_rfl)⟩
        · exact absurd h2 (by show ¬ (r.length + 1 + 1 ≤ 1); lia)
    have wd_glb : ∀ P : Params, ∀ f fn, fnsG f = some fn → ∃ a, nsIn (Mine.main.heap_1_39 P) mainGlobals (Str.ofString f) = some (some (.ref a)) ∧ keepIn (Mine.main.heap_1_39 P) (.ref a) = true ∧ FnLink (Mine.main.heap_1_39 P) fn a := by
      intro P
      intro f fn h
      exact look2_all (l := tabG) (p := fun _ f fn => ∃ a, nsIn (Mine.main.heap_1_39 P) mainGlobals (Str.ofString f) = some (some (.ref a)) ∧ keepIn (Mine.main.heap_1_39 P) (.ref a) = true ∧ FnLink (Mine.main.heap_1_39 P) fn a)
        ⟨⟨28, by kernel_rfl, by kernel_rfl, l_is_table_part P⟩,
          ⟨35, by kernel_rfl, by kernel_rfl, l_foster_place P⟩,
          ⟨43, by kernel_rfl, by kernel_rfl, l_place_for P⟩,
          ⟨50, by kernel_rfl, by kernel_rfl, l_insert_sign P⟩,
          ⟨58, by kernel_rfl, by kernel_rfl, l_insert_comment P⟩,
          ⟨410, by kernel_rfl, by kernel_rfl, l_above P⟩,
          ⟨488, by kernel_rfl, by kernel_rfl, l_law_bases P⟩,
          ⟨495, by kernel_rfl, by kernel_rfl, l_law_grow P⟩,
          ⟨500, by kernel_rfl, by kernel_rfl, l_law_spot P⟩,
          ⟨505, by kernel_rfl, by kernel_rfl, l_law_put P⟩,
          ⟨510, by kernel_rfl, by kernel_rfl, l_law_scene P⟩,
          ⟨517, by kernel_rfl, by kernel_rfl, l_law P⟩, trivial⟩ h
    have wd_mth : ∀ P : Params, ∀ c f fn C, clm c = some C → fnsM c f = some fn → ∃ a, findIn (Mine.main.heap_1_39 P) (.ref C) (Str.ofString f) = some (some (.ref a)) ∧ isFn (Mine.main.heap_1_39 P) (.ref a) = true ∧ keepIn (Mine.main.heap_1_39 P) (.ref a) = true ∧ FnLink (Mine.main.heap_1_39 P) fn a := by
      intro P
      intro c f fn C hc h
      obtain ⟨C0, h0, r⟩ := look2_all (l := tabM) (p := fun c f fn => ∃ C, clm c = some C ∧ ∃ a, findIn (Mine.main.heap_1_39 P) (.ref C) (Str.ofString f) = some (some (.ref a)) ∧ isFn (Mine.main.heap_1_39 P) (.ref a) = true ∧ keepIn (Mine.main.heap_1_39 P) (.ref a) = true ∧ FnLink (Mine.main.heap_1_39 P) fn a)
        ⟨⟨170, rfl, 104, by kernel_rfl, by kernel_rfl, by kernel_rfl, l_Formatting_init P⟩,
          ⟨282, rfl, 195, by kernel_rfl, by kernel_rfl, by kernel_rfl, l_OpenStack_init P⟩,
          ⟨282, rfl, 202, by kernel_rfl, by kernel_rfl, by kernel_rfl, l_OpenStack_push P⟩,
          ⟨282, rfl, 216, by kernel_rfl, by kernel_rfl, by kernel_rfl, l_OpenStack_current P⟩,
          ⟨399, rfl, 300, by kernel_rfl, by kernel_rfl, by kernel_rfl, l_Tree_init P⟩,
          ⟨399, rfl, 309, by kernel_rfl, by kernel_rfl, by kernel_rfl, l_Tree_add P⟩,
          ⟨399, rfl, 318, by kernel_rfl, by kernel_rfl, by kernel_rfl, l_Tree_element P⟩,
          ⟨399, rfl, 325, by kernel_rfl, by kernel_rfl, by kernel_rfl, l_Tree_text P⟩,
          ⟨399, rfl, 332, by kernel_rfl, by kernel_rfl, by kernel_rfl, l_Tree_comment P⟩,
          ⟨399, rfl, 347, by kernel_rfl, by kernel_rfl, by kernel_rfl, l_Tree_insert P⟩,
          ⟨399, rfl, 354, by kernel_rfl, by kernel_rfl, by kernel_rfl, l_Tree_append P⟩,
          ⟨399, rfl, 361, by kernel_rfl, by kernel_rfl, by kernel_rfl, l_Tree_remove P⟩,
          ⟨399, rfl, 375, by kernel_rfl, by kernel_rfl, by kernel_rfl, l_Tree_place P⟩,
          ⟨399, rfl, 382, by kernel_rfl, by kernel_rfl, by kernel_rfl, l_Tree_last P⟩,
          ⟨399, rfl, 396, by kernel_rfl, by kernel_rfl, by kernel_rfl, l_Tree_is_html P⟩,
          ⟨477, rfl, 425, by kernel_rfl, by kernel_rfl, by kernel_rfl, l_Builder_init P⟩, trivial⟩ h
      cases h0.symm.trans hc
      exact r
    have wd_cls : ∀ P : Params, ∀ c fn, fnsM c "__init__" = some fn → ∃ C, clm c = some C ∧ nsIn (Mine.main.heap_1_39 P) mainGlobals (Str.ofString c) = some (some (.ref C)) ∧ keepIn (Mine.main.heap_1_39 P) (.ref C) = true ∧ makesIn (Mine.main.heap_1_39 P) C = true ∧
    ∃ fI, findIn (Mine.main.heap_1_39 P) (.ref C) "__init__" = some (some (.ref fI)) ∧ isFn (Mine.main.heap_1_39 P) (.ref fI) = true ∧ FnLink (Mine.main.heap_1_39 P) fn fI := by
      intro P
      intro c fn h
      exact look2_all (l := tabM) (p := fun c f fn => (f == "__init__") = true → ∃ C, clm c = some C ∧ nsIn (Mine.main.heap_1_39 P) mainGlobals (Str.ofString c) = some (some (.ref C)) ∧ keepIn (Mine.main.heap_1_39 P) (.ref C) = true ∧ makesIn (Mine.main.heap_1_39 P) C = true ∧ ∃ fI, findIn (Mine.main.heap_1_39 P) (.ref C) "__init__" = some (some (.ref fI)) ∧ isFn (Mine.main.heap_1_39 P) (.ref fI) = true ∧ FnLink (Mine.main.heap_1_39 P) fn fI)
        ⟨fun _ => ⟨170, rfl, by kernel_rfl, by kernel_rfl, by kernel_rfl, 104, by kernel_rfl, by kernel_rfl, l_Formatting_init P⟩,
          fun _ => ⟨282, rfl, by kernel_rfl, by kernel_rfl, by kernel_rfl, 195, by kernel_rfl, by kernel_rfl, l_OpenStack_init P⟩,
          fun e => absurd e (by decide),
          fun e => absurd e (by decide),
          fun _ => ⟨399, rfl, by kernel_rfl, by kernel_rfl, by kernel_rfl, 300, by kernel_rfl, by kernel_rfl, l_Tree_init P⟩,
          fun e => absurd e (by decide),
          fun e => absurd e (by decide),
          fun e => absurd e (by decide),
          fun e => absurd e (by decide),
          fun e => absurd e (by decide),
          fun e => absurd e (by decide),
          fun e => absurd e (by decide),
          fun e => absurd e (by decide),
          fun e => absurd e (by decide),
          fun e => absurd e (by decide),
          fun _ => ⟨477, rfl, by kernel_rfl, by kernel_rfl, by kernel_rfl, 425, by kernel_rfl, by kernel_rfl, l_Builder_init P⟩, trivial⟩ h rfl
    have wd_att : ∀ P : Params, ∀ c C f, clm c = some C → f ∈ attrsOf c → findIn (Mine.main.heap_1_39 P) (.ref C) (Str.ofString f) = some none := by
      intro P
      have all : ∀ (c : String) (C : Addr), ((attrsOf c).all fun f => findIn (Mine.main.heap_1_39 P) (.ref C) (Str.ofString f) == some none) = true → ∀ f ∈ attrsOf c, findIn (Mine.main.heap_1_39 P) (.ref C) (Str.ofString f) = some none :=
        fun c C h f hf => beq_iff_eq.mp (List.all_eq_true.mp h f hf)
      intro c C f h hf
      rcases cl_cases h with ⟨rfl, rfl⟩ | ⟨rfl, rfl⟩ | ⟨rfl, rfl⟩ | ⟨rfl, rfl⟩
      · exact all _ _ (by kernel_rfl) f hf
      · exact all _ _ (by kernel_rfl) f hf
      · exact all _ _ (by kernel_rfl) f hf
      · exact all _ _ (by kernel_rfl) f hf
    have wd_gen : ∀ P : Params, ∀ c C, clm c = some C → (∀ name, plainGet (Mine.main.heap_1_39 P) C name = true) ∧ hasDictIn (Mine.main.heap_1_39 P) C = true ∧ findIn (Mine.main.heap_1_39 P) (.ref C) "__setattr__" = some (some (.builtin "object.__setattr__")) ∧ plainOver (Mine.main.heap_1_39 P) C = true := by
      intro P
      intro c C h
      rcases cl_cases h with ⟨rfl, rfl⟩ | ⟨rfl, rfl⟩ | ⟨rfl, rfl⟩ | ⟨rfl, rfl⟩
      · exact ⟨fun _ => by kernel_rfl, by kernel_rfl, by kernel_rfl, by kernel_rfl⟩
      · exact ⟨fun _ => by kernel_rfl, by kernel_rfl, by kernel_rfl, by kernel_rfl⟩
      · exact ⟨fun _ => by kernel_rfl, by kernel_rfl, by kernel_rfl, by kernel_rfl⟩
      · exact ⟨fun _ => by kernel_rfl, by kernel_rfl, by kernel_rfl, by kernel_rfl⟩
    have wd_blt : ∀ P : Params, ∀ f, f = "len" ∨ f = "range" ∨ f = "list" → nsIn (Mine.main.heap_1_39 P) mainGlobals (Str.ofString f) = some none := by
      intro P
      rintro f (rfl | rfl | rfl) <;> kernel_rfl
    exact fun P base KX T => ⟨KX, T, wd_glb P, wd_cls P, wd_att P, wd_gen P, wd_mth P, wd_blt P⟩
  k_go0
  rename_i w s0 s1 mg mb G Y fa o pm doc kV ho hg KX X V GL T B TE TW w9 w8 M w7 w6 hcd ns hs hlay hL hr hl2 as1 as2 la cvs as3 hIL ra w1 r0 hI hrr hc1 hc2 K0 hD h1 F N0
  clear hD hcd
  refine Mine.join_core (wd w.params KX ⟨_, _, _, _, topRead_of T⟩) rfl ?hb rfl ?hcell (by omega) hIL hI F ?hQ
  case hcell => decide
  case hb =>
    exact (.cons (.assign (.call (by kernel_rfl) (by unfold notDebug; kernel_rfl) (by kernel_rfl) (.cons .dict0 .nil)) (.inl (by kernel_rfl)) (fun _ _ _ => rfl))
    (.cons (.expr (.call (by kernel_rfl) (by unfold notDebug; kernel_rfl) (by kernel_rfl) (.cons kw (.cons .str .nil))) (fun _ _ _ => rfl))
    (.cons (.ifs (.or (.cons (.cmp (.call (by kernel_rfl) (by unfold notDebug; kernel_rfl) (by kernel_rfl) (.cons kw .nil)) (.tup (.cons .int (.cons (.neg .int) .nil))) rfl) (.cons (.cmp (.attr (.attr kw (fun _ _ _ => rfl)) (fun _ _ _ => rfl)) (.lst (.cons .str .nil)) rfl) (.cons (.cmp (.attr (.attr kw (fun _ _ _ => rfl)) (fun _ _ _ => rfl)) (.lst (.cons (.lst .nil) .nil)) rfl) .nil)))) (.cons (.ret .bool)
    .nil) .nil)
    (.cons (.assign (.call (by kernel_rfl) (by unfold notDebug; kernel_rfl) (by kernel_rfl) .nil) (.inl (by kernel_rfl)) (fun _ _ _ => rfl))
    (.cons (.for (.call (by kernel_rfl) (by unfold notDebug; kernel_rfl) (by kernel_rfl) (.cons .int .nil)) (.inl (by kernel_rfl)) (.cons (.assign (.lst .nil) (.inl (by kernel_rfl)) (fun _ _ _ => rfl))
    (.cons (.for (.call (by kernel_rfl) (by unfold notDebug; kernel_rfl) (by kernel_rfl) (.cons .int .nil)) (.inl (by kernel_rfl)) (.cons (.assign (.bin (.bin .int kw) kw) (.inl (by kernel_rfl)) (fun _ _ _ => rfl))
    (.cons (.expr (.meth kw (fun _ _ _ => rfl) (.cons (.bin (.sub (.sub kw kw) kw) (.ite (.cmp kw (.call (by kernel_rfl) (by unfold notDebug; kernel_rfl) (by kernel_rfl) (.cons kw .nil)) rfl) (.sub kw kw) .int)) .nil) (by decide) rfl) (fun _ _ _ => rfl))
    .nil)))
    (.cons (.ifs (.not (.call (by kernel_rfl) (by unfold notDebug; kernel_rfl) (by kernel_rfl) (.cons kw .nil))) (.cons (.ret .bool)
    .nil) .nil)
    .nil))))
    (.cons (.ret .bool)
    .nil))))))
  case hQ =>
    intro h' t' hkeep
    exact ⟨.inl ⟨_, _, _, rfl, fun _ => rfl, .bool true, by kernel_rfl, fun _ => ⟨List.nodup_nil, fun _ m => (by cases m)⟩⟩, hkeep, rfl, hg⟩
end Mine
set_option maxHeartbeats 8000000 in
theorem PySem.Challenge.cw_nt0608_01_holds : PySem.Challenge.rw_nt0608_01.Holds :=
  Mine.main
end
