import PyProof.Rows.All
import Wide.All
import OpenK.AllK
import Wide.FinOn
import Lean
import PySem.Challenge.RW_nz0105_01
set_option Elab.async false
set_option genSizeOf false
set_option genSizeOfSpec false
set_option linter.all false
section
set_option genSizeOf false
set_option genInjectivity false
namespace Mine
open PySem
inductive XVal where
  | none
  | bool (b : Bool)
  | int (i : Int)
  | str (s : String)
  | tup (xs : List XVal)
  | ref (r i : Nat)
  | fn (f : String)
  | scr (ns : List Int)
inductive XObj where
  | list (xs : List XVal)
  | sdict (es : List (String × XVal))
  | idict (es : List (Int × XVal))
  | inst (c : String) (fs : List (String × XVal))
noncomputable abbrev XSt := Nat → List XObj
noncomputable abbrev XEnv := String → Option XVal
noncomputable def XSt.set (st : XSt) (r i : Nat) (o : XObj) : XSt := fun q => if q = r then (st r).set i o else st q
noncomputable def XSt.push (st : XSt) (r : Nat) (o : XObj) : XSt := fun q => if q = r then st r ++ [o] else st q
noncomputable def narrow (env : XEnv) (caps : List String) : XEnv := fun y => if y ∈ caps then env y else Option.none
noncomputable def upd (env : XEnv) (x : String) (v : XVal) : XEnv := fun y => if y = x then some v else env y
inductive XE where
  | a (k : Nat) (i : Int) (s : String)
  | u (k : Nat) (s : String) (l : List String) (x : XE)
  | b (k : Nat) (s : String) (l : List String) (x y : XE)
noncomputable abbrev XS := XE
noncomputable abbrev XOp := Nat
noncomputable abbrev XBin := Nat
namespace XOp
noncomputable abbrev eq : XOp := 0
noncomputable abbrev ne : XOp := 1
noncomputable abbrev lt : XOp := 2
noncomputable abbrev le : XOp := 3
noncomputable abbrev gt : XOp := 4
noncomputable abbrev ge : XOp := 5
noncomputable abbrev inn : XOp := 6
noncomputable abbrev notIn : XOp := 7
end XOp
namespace XBin
noncomputable abbrev add : XBin := 0
noncomputable abbrev sub : XBin := 1
noncomputable abbrev mul : XBin := 2
noncomputable abbrev fdiv : XBin := 3
noncomputable abbrev mod : XBin := 4
end XBin
namespace XE
noncomputable abbrev cN : XE := .a 0 0 ""
noncomputable abbrev cB (b : Bool) : XE := .a (cond b 1 2) 0 ""
noncomputable abbrev cI (i : Int) : XE := .a 3 i ""
noncomputable abbrev cS (s : String) : XE := .a 4 0 s
noncomputable abbrev loc (x : String) : XE := .a 5 0 x
noncomputable abbrev glob (f : String) : XE := .a 6 0 f
noncomputable abbrev edict : XE := .a 7 0 ""
noncomputable abbrev nil : XE := .a 8 0 ""
noncomputable abbrev stuck : XE := .a 9 0 ""
noncomputable abbrev tup (es : XE) : XE := .u 0 "" [] es
noncomputable abbrev list (es : XE) : XE := .u 1 "" [] es
noncomputable abbrev dict (ks : List String) (vs : XE) : XE := .u 2 "" ks vs
noncomputable abbrev not (e : XE) : XE := .u 3 "" [] e
noncomputable abbrev isN (neg : Bool) (e : XE) : XE := .u (cond neg 4 5) "" [] e
noncomputable abbrev call (f : String) (es : XE) : XE := .u 6 f [] es
noncomputable abbrev callv (x : String) (es : XE) : XE := .u 7 x [] es
noncomputable abbrev new (c : String) (es : XE) : XE := .u 8 c [] es
noncomputable abbrev len (e : XE) : XE := .u 9 "" [] e
noncomputable abbrev mkl (e : XE) : XE := .u 10 "" [] e
noncomputable abbrev attr (o : XE) (a : String) : XE := .u 11 a [] o
noncomputable abbrev cons (e es : XE) : XE := .b 0 "" [] e es
noncomputable abbrev and (l r : XE) : XE := .b 1 "" [] l r
noncomputable abbrev or (l r : XE) : XE := .b 2 "" [] l r
noncomputable abbrev ife (t b o : XE) : XE := .b 3 "" [] t (.b 0 "" [] b (.b 0 "" [] o nil))
noncomputable abbrev meth (o : XE) (name : String) (es : XE) : XE := .b 4 name [] o es
noncomputable abbrev sub (o i : XE) : XE := .b 5 "" [] o i
noncomputable abbrev slice (o u : XE) : XE := .b 6 "" [] o u
noncomputable abbrev comp (x : String) (caps : List String) (src elt : XE) : XE := .b 7 x caps src elt
noncomputable abbrev bin (op : XBin) (l r : XE) : XE := .b (op + 10) "" [] l r
noncomputable abbrev cmp (op : XOp) (l r : XE) : XE := .b (op + 20) "" [] l r
end XE
namespace XS
noncomputable abbrev nil : XS := XE.nil
noncomputable abbrev cons (s ss : XS) : XS := XE.cons s ss
noncomputable abbrev expr (e : XE) : XS := XE.u 20 "" [] e
noncomputable abbrev asg (x : String) (e : XE) : XS := XE.u 21 x [] e
noncomputable abbrev asgC (x y : String) (caps : List String) (src elt : XE) : XS := XE.u 19 x [] (XE.comp y caps src elt)
noncomputable abbrev asgT (x y : String) (e : XE) : XS := XE.u 22 x [y] e
noncomputable abbrev ret (e : XE) : XS := XE.u 23 "" [] e
noncomputable abbrev retN : XS := XE.a 10 0 ""
noncomputable abbrev stuck : XS := XE.a 11 0 ""
noncomputable abbrev aug (x : String) (op : XBin) (e : XE) : XS := XE.u (op + 24) x [] e
noncomputable abbrev asgA (o : XE) (a : String) (e : XE) : XS := XE.b 30 a [] o e
noncomputable abbrev asgS (o i e : XE) : XS := XE.b 31 "" [] (XE.cons o (XE.cons i XE.nil)) e
noncomputable abbrev augS (o i : XE) (op : XBin) (e : XE) : XS := XE.b (op + 32) "" [] (XE.cons o (XE.cons i XE.nil)) e
noncomputable abbrev ite (t : XE) (b o : XS) : XS := XE.b 40 "" [] b (XE.b 45 "" [] t o)
noncomputable abbrev whl (t : XE) (b : XS) : XS := XE.b 41 "" [] t b
noncomputable abbrev forL (x : String) (src : XE) (b : XS) : XS := XE.b 42 x [] src b
noncomputable abbrev forR1 (x : String) (hi : XE) (b : XS) : XS := XE.b 43 x [] (XE.cons hi XE.nil) b
noncomputable abbrev forR2 (x : String) (lo hi : XE) (b : XS) : XS := XE.b 43 x [] (XE.cons lo (XE.cons hi XE.nil)) b
end XS
structure XFn where
  params : List String
  dflts : List XVal
  body : XS
inductive XFlow where
  | next
  | ret (v : XVal)
noncomputable def LIM : Nat := 1000000
noncomputable def lookK {α : Type} [DecidableEq α] (k : α) (l : List (α × XVal)) : Option XVal := l.rec Option.none fun p _ ih => if p.1 = k then some p.2 else ih
noncomputable def storeK {α : Type} [DecidableEq α] (k : α) (v : XVal) (l : List (α × XVal)) : List (α × XVal) := l.rec [(k, v)] fun p r ih => if p.1 = k then (p.1, v) :: r else p :: ih
noncomputable abbrev lookupS (k : String) (l : List (String × XVal)) : Option XVal := lookK k l
noncomputable abbrev lookupI (k : Int) (l : List (Int × XVal)) : Option XVal := lookK k l
noncomputable abbrev storeS (k : String) (v : XVal) (l : List (String × XVal)) : List (String × XVal) := storeK k v l
noncomputable abbrev storeI (k : Int) (v : XVal) (l : List (Int × XVal)) : List (Int × XVal) := storeK k v l
noncomputable def bindX (ps : List String) (ds : List XVal) (args : List XVal) : Option (List (String × XVal)) :=
  if args.length ≤ ps.length ∧ ps.length ≤ args.length + ds.length then
    some (ps.zip (args ++ ds.drop (args.length + ds.length - ps.length)))
  else Option.none
noncomputable def envOf (bs : List (String × XVal)) : XEnv := fun x => lookupS x bs
end Mine
end

section
set_option maxRecDepth 100000
namespace Mine
noncomputable def f_is_space : XFn := { params := ["c"], dflts := [], body :=
    (.cons (.ret (.cmp .inn (.loc "c") (.tup (.cons (.cS "\t") (.cons (.cS "\n") (.cons (.cS "\u000c") (.cons (.cS "\r") (.cons (.cS " ") .nil))))))))
    .nil) }
noncomputable def f_is_table_part : XFn := { params := ["name"], dflts := [], body :=
    (.cons (.ret (.cmp .inn (.loc "name") (.tup (.cons (.cS "table") (.cons (.cS "tbody") (.cons (.cS "tfoot") (.cons (.cS "thead") (.cons (.cS "tr") .nil))))))))
    .nil) }
noncomputable def f_implied_names : XFn := { params := [], dflts := [], body :=
    (.cons (.ret (.tup (.cons (.cS "dd") (.cons (.cS "dt") (.cons (.cS "li") (.cons (.cS "optgroup") (.cons (.cS "option") (.cons (.cS "p") (.cons (.cS "rb") (.cons (.cS "rp") (.cons (.cS "rt") (.cons (.cS "rtc") .nil))))))))))))
    .nil) }
noncomputable def f_all_implied_names : XFn := { params := [], dflts := [], body :=
    (.cons (.ret (.bin .add (.call "implied_names" .nil) (.tup (.cons (.cS "caption") (.cons (.cS "colgroup") (.cons (.cS "tbody") (.cons (.cS "td") (.cons (.cS "tfoot") (.cons (.cS "th") (.cons (.cS "thead") (.cons (.cS "tr") .nil)))))))))))
    .nil) }
noncomputable def f_place_for : XFn := { params := ["builder", "target"], dflts := [.int (-1)], body :=
    (.cons (.asg "tree" (.attr (.loc "builder") "tree"))
    (.cons (.asg "here" (.loc "target"))
    (.cons (.ite (.cmp .eq (.loc "here") (.cI (-1))) (.cons (.asg "here" (.meth (.attr (.loc "builder") "stack") "current" .nil))
    .nil) .nil)
    (.cons (.ite (.cmp .eq (.loc "here") (.cI (-1))) (.cons (.ret (.tup (.cons (.cI 0) (.cons (.cI (-1)) .nil))))
    .nil) .nil)
    (.cons (.asg "before" (.cI (-1)))
    (.cons (.ite (.and (.attr (.loc "builder") "is_foster") (.and (.cmp .eq (.sub (.attr (.loc "tree") "spaces") (.loc "here")) (.cS "html")) (.call "is_table_part" (.cons (.sub (.attr (.loc "tree") "names") (.loc "here")) .nil)))) (.cons (.asgT "here" "before" (.call "foster_place" (.cons (.loc "builder") .nil)))
    .nil) .nil)
    (.cons (.ite (.cmp .inn (.loc "here") (.attr (.loc "tree") "contents")) (.cons (.ret (.tup (.cons (.sub (.attr (.loc "tree") "contents") (.loc "here")) (.cons (.cI (-1)) .nil))))
    .nil) .nil)
    (.cons (.ret (.tup (.cons (.loc "here") (.cons (.loc "before") .nil))))
    .nil)))))))) }
noncomputable def f_insert_sign : XFn := { params := ["builder", "sign"], dflts := [], body :=
    (.cons (.asg "tree" (.attr (.loc "builder") "tree"))
    (.cons (.asgT "parent" "before" (.call "place_for" (.cons (.loc "builder") .nil)))
    (.cons (.ite (.cmp .eq (.sub (.attr (.loc "tree") "kinds") (.loc "parent")) (.cS "document")) (.cons .retN
    .nil) .nil)
    (.cons (.asg "ahead" (.meth (.loc "tree") "last" (.cons (.loc "parent") .nil)))
    (.cons (.ite (.cmp .ne (.loc "before") (.cI (-1))) (.cons (.asg "at" (.meth (.loc "tree") "place" (.cons (.loc "before") .nil)))
    (.cons (.asg "ahead" (.cI (-1)))
    (.cons (.ite (.cmp .gt (.loc "at") (.cI 0)) (.cons (.asg "ahead" (.sub (.sub (.attr (.loc "tree") "children") (.loc "parent")) (.bin .sub (.loc "at") (.cI 1))))
    .nil) .nil)
    .nil))) .nil)
    (.cons (.ite (.and (.cmp .ne (.loc "ahead") (.cI (-1))) (.cmp .eq (.sub (.attr (.loc "tree") "kinds") (.loc "ahead")) (.cS "text"))) (.cons (.asgS (.attr (.loc "tree") "texts") (.loc "ahead") (.bin .add (.sub (.attr (.loc "tree") "texts") (.loc "ahead")) (.loc "sign")))
    .nil) (.cons (.expr (.meth (.loc "tree") "insert" (.cons (.loc "parent") (.cons (.meth (.loc "tree") "text" (.cons (.loc "sign") .nil)) (.cons (.loc "before") .nil)))))
    .nil))
    .nil)))))) }
noncomputable def f_insert_comment : XFn := { params := ["builder", "text", "parent"], dflts := [.int (-1)], body :=
    (.cons (.asg "before" (.cI (-1)))
    (.cons (.ite (.cmp .eq (.loc "parent") (.cI (-1))) (.cons (.asgT "parent" "before" (.call "place_for" (.cons (.loc "builder") .nil)))
    .nil) .nil)
    (.cons (.expr (.meth (.attr (.loc "builder") "tree") "insert" (.cons (.loc "parent") (.cons (.meth (.attr (.loc "builder") "tree") "comment" (.cons (.loc "text") .nil)) (.cons (.loc "before") .nil)))))
    .nil))) }
noncomputable def f_make : XFn := { params := ["builder", "name", "attrs", "space"], dflts := [.str "html"], body :=
    (.cons (.ret (.meth (.attr (.loc "builder") "tree") "element" (.cons (.loc "name") (.cons (.loc "space") (.cons (.loc "attrs") .nil)))))
    .nil) }
noncomputable def f_insert_element : XFn := { params := ["builder", "name", "attrs", "space"], dflts := [.tup [], .str "html"], body :=
    (.cons (.asgT "parent" "before" (.call "place_for" (.cons (.loc "builder") .nil)))
    (.cons (.asg "node" (.call "make" (.cons (.loc "builder") (.cons (.loc "name") (.cons (.loc "attrs") (.cons (.loc "space") .nil))))))
    (.cons (.expr (.meth (.attr (.loc "builder") "tree") "insert" (.cons (.loc "parent") (.cons (.loc "node") (.cons (.loc "before") .nil)))))
    (.cons (.expr (.meth (.attr (.loc "builder") "stack") "push" (.cons (.loc "node") .nil)))
    (.cons (.ret (.loc "node"))
    .nil))))) }
noncomputable def f_insert_token : XFn := { params := ["builder", "token"], dflts := [], body :=
    (.cons (.asg "node" (.call "insert_element" (.cons (.loc "builder") (.cons (.sub (.loc "token") (.cI 1)) (.cons (.sub (.loc "token") (.cI 2)) .nil)))))
    (.cons (.expr (.call "associate" (.cons (.loc "builder") (.cons (.loc "node") .nil))))
    (.cons (.ret (.loc "node"))
    .nil))) }
noncomputable def f_insert_void : XFn := { params := ["builder", "token"], dflts := [], body :=
    (.cons (.asg "node" (.call "insert_token" (.cons (.loc "builder") (.cons (.loc "token") .nil))))
    (.cons (.expr (.meth (.attr (.loc "builder") "stack") "pop" .nil))
    (.cons (.asgA (.loc "builder") "is_acknowledged" (.cB true))
    (.cons (.ret (.loc "node"))
    .nil)))) }
noncomputable def f_associate : XFn := { params := ["builder", "node"], dflts := [], body :=
    (.cons (.ite (.or (.cmp .eq (.attr (.loc "builder") "form") (.cI (-1))) (.cmp .eq (.attr (.loc "builder") "form") (.attr (.loc "builder") "context"))) (.cons .retN
    .nil) .nil)
    (.cons (.asg "tree" (.attr (.loc "builder") "tree"))
    (.cons (.asg "name" (.sub (.attr (.loc "tree") "names") (.loc "node")))
    (.cons (.ite (.cmp .notIn (.loc "name") (.tup (.cons (.cS "button") (.cons (.cS "fieldset") (.cons (.cS "input") (.cons (.cS "object") (.cons (.cS "output") (.cons (.cS "select") (.cons (.cS "textarea") (.cons (.cS "img") .nil)))))))))) (.cons .retN
    .nil) .nil)
    (.cons (.ite (.and (.cmp .ne (.loc "name") (.cS "img")) (.isN true (.meth (.loc "tree") "value" (.cons (.loc "node") (.cons (.cS "form") .nil))))) (.cons .retN
    .nil) .nil)
    (.cons (.ite (.not (.meth (.attr (.loc "builder") "stack") "has_name" (.cons (.cS "template") .nil))) (.cons (.asgS (.attr (.loc "builder") "owners") (.loc "node") (.attr (.loc "builder") "form"))
    .nil) .nil)
    .nil)))))) }
noncomputable def f_start_raw : XFn := { params := ["builder", "token", "state"], dflts := [], body :=
    (.cons (.expr (.call "insert_token" (.cons (.loc "builder") (.cons (.loc "token") .nil))))
    (.cons (.asgA (.loc "builder") "wish" (.loc "state"))
    (.cons (.asgA (.loc "builder") "original" (.attr (.loc "builder") "mode"))
    (.cons (.expr (.meth (.loc "builder") "to" (.cons (.cS "text") .nil)))
    .nil)))) }
noncomputable def f_OpenStack_init : XFn := { params := ["self", "tree"], dflts := [], body :=
    (.cons (.asgA (.loc "self") "tree" (.loc "tree"))
    (.cons (.asgA (.loc "self") "items" (.list .nil))
    .nil)) }
noncomputable def f_OpenStack_push : XFn := { params := ["self", "node"], dflts := [], body :=
    (.cons (.expr (.meth (.attr (.loc "self") "items") "append" (.cons (.loc "node") .nil)))
    .nil) }
noncomputable def f_OpenStack_pop : XFn := { params := ["self"], dflts := [], body :=
    (.cons (.ite (.cmp .eq (.len (.attr (.loc "self") "items")) (.cI 0)) (.cons (.ret (.cI (-1)))
    .nil) .nil)
    (.cons (.ret (.meth (.attr (.loc "self") "items") "pop" .nil))
    .nil)) }
noncomputable def f_OpenStack_current : XFn := { params := ["self"], dflts := [], body :=
    (.cons (.ite (.cmp .eq (.len (.attr (.loc "self") "items")) (.cI 0)) (.cons (.ret (.cI (-1)))
    .nil) .nil)
    (.cons (.ret (.sub (.attr (.loc "self") "items") (.bin .sub (.len (.attr (.loc "self") "items")) (.cI 1))))
    .nil)) }
noncomputable def f_OpenStack_many : XFn := { params := ["self"], dflts := [], body :=
    (.cons (.ret (.len (.attr (.loc "self") "items")))
    .nil) }
noncomputable def f_OpenStack_place : XFn := { params := ["self", "node"], dflts := [], body :=
    (.cons (.ite (.cmp .inn (.loc "node") (.attr (.loc "self") "items")) (.cons (.ret (.meth (.attr (.loc "self") "items") "index" (.cons (.loc "node") .nil)))
    .nil) .nil)
    (.cons (.ret (.cI (-1)))
    .nil)) }
noncomputable def f_OpenStack_name : XFn := { params := ["self"], dflts := [], body :=
    (.cons (.asg "node" (.meth (.loc "self") "current" .nil))
    (.cons (.ite (.or (.cmp .eq (.loc "node") (.cI (-1))) (.cmp .ne (.sub (.attr (.attr (.loc "self") "tree") "spaces") (.loc "node")) (.cS "html"))) (.cons (.ret (.cS ""))
    .nil) .nil)
    (.cons (.ret (.sub (.attr (.attr (.loc "self") "tree") "names") (.loc "node")))
    .nil))) }
noncomputable def f_OpenStack_has_name : XFn := { params := ["self", "name"], dflts := [], body :=
    (.cons (.forL "node" (.attr (.loc "self") "items") (.cons (.ite (.meth (.attr (.loc "self") "tree") "is_html" (.cons (.loc "node") (.cons (.loc "name") .nil))) (.cons (.ret (.cB true))
    .nil) .nil)
    .nil))
    (.cons (.ret (.cB false))
    .nil)) }
noncomputable def f_OpenStack_pop_until : XFn := { params := ["self", "names"], dflts := [], body :=
    (.cons (.whl (.cmp .gt (.len (.attr (.loc "self") "items")) (.cI 0)) (.cons (.asg "name" (.meth (.loc "self") "name" .nil))
    (.cons (.asg "node" (.meth (.attr (.loc "self") "items") "pop" .nil))
    (.cons (.ite (.cmp .inn (.loc "name") (.loc "names")) (.cons (.ret (.loc "node"))
    .nil) .nil)
    .nil))))
    (.cons (.ret (.cI (-1)))
    .nil)) }
noncomputable def f_pop_all_implied : XFn := { params := ["stack"], dflts := [], body :=
    (.cons (.asg "names" (.call "all_implied_names" .nil))
    (.cons (.whl (.cmp .inn (.meth (.loc "stack") "name" .nil) (.loc "names")) (.cons (.expr (.meth (.loc "stack") "pop" .nil))
    .nil))
    .nil)) }
noncomputable def f_mode_of : XFn := { params := ["name"], dflts := [], body :=
    (.cons (.asg "table" (.dict ["td", "th", "tr", "tbody", "thead", "tfoot", "caption", "colgroup", "table", "head", "body", "frameset"] (.cons (.cS "in cell") (.cons (.cS "in cell") (.cons (.cS "in row") (.cons (.cS "in table body") (.cons (.cS "in table body") (.cons (.cS "in table body") (.cons (.cS "in caption") (.cons (.cS "in column group") (.cons (.cS "in table") (.cons (.cS "in head") (.cons (.cS "in body") (.cons (.cS "in frameset") .nil))))))))))))))
    (.cons (.ret (.meth (.loc "table") "get" (.cons (.loc "name") (.cons (.cS "") .nil))))
    .nil)) }
noncomputable def f_mode_for : XFn := { params := ["builder", "node", "at"], dflts := [], body :=
    (.cons (.ite (.cmp .ne (.sub (.attr (.attr (.loc "builder") "tree") "spaces") (.loc "node")) (.cS "html")) (.cons (.ret (.cS ""))
    .nil) .nil)
    (.cons (.asg "name" (.sub (.attr (.attr (.loc "builder") "tree") "names") (.loc "node")))
    (.cons (.ite (.cmp .eq (.loc "name") (.cS "select")) (.cons (.ret (.call "select_mode" (.cons (.loc "builder") (.cons (.loc "at") .nil))))
    .nil) .nil)
    (.cons (.ite (.cmp .eq (.loc "name") (.cS "template")) (.cons (.ret (.sub (.attr (.loc "builder") "modes") (.cI (-1))))
    .nil) .nil)
    (.cons (.ite (.cmp .eq (.loc "name") (.cS "html")) (.cons (.ite (.cmp .eq (.attr (.loc "builder") "head") (.cI (-1))) (.cons (.ret (.cS "before head"))
    .nil) .nil)
    (.cons (.ret (.cS "after head"))
    .nil)) .nil)
    (.cons (.ite (.and (.cmp .eq (.loc "at") (.cI 0)) (.cmp .inn (.loc "name") (.tup (.cons (.cS "td") (.cons (.cS "th") (.cons (.cS "head") .nil)))))) (.cons (.ret (.cS ""))
    .nil) .nil)
    (.cons (.ret (.call "mode_of" (.cons (.loc "name") .nil)))
    .nil))))))) }
noncomputable def f_reset_mode : XFn := { params := ["builder"], dflts := [], body :=
    (.cons (.asg "at" (.bin .sub (.meth (.attr (.loc "builder") "stack") "many" .nil) (.cI 1)))
    (.cons (.asg "mode" (.cS ""))
    (.cons (.whl (.and (.cmp .ge (.loc "at") (.cI 0)) (.cmp .eq (.loc "mode") (.cS ""))) (.cons (.asg "node" (.sub (.attr (.attr (.loc "builder") "stack") "items") (.loc "at")))
    (.cons (.ite (.and (.cmp .eq (.loc "at") (.cI 0)) (.cmp .ne (.attr (.loc "builder") "context") (.cI (-1)))) (.cons (.asg "node" (.attr (.loc "builder") "context"))
    .nil) .nil)
    (.cons (.asg "mode" (.call "mode_for" (.cons (.loc "builder") (.cons (.loc "node") (.cons (.loc "at") .nil)))))
    (.cons (.aug "at" .sub (.cI 1))
    .nil)))))
    (.cons (.ite (.cmp .eq (.loc "mode") (.cS "")) (.cons (.asg "mode" (.cS "in body"))
    .nil) .nil)
    (.cons (.expr (.meth (.loc "builder") "to" (.cons (.loc "mode") .nil)))
    .nil))))) }
noncomputable def f_open_template : XFn := { params := ["builder", "token"], dflts := [], body :=
    (.cons (.expr (.call "insert_token" (.cons (.loc "builder") (.cons (.loc "token") .nil))))
    (.cons (.expr (.meth (.attr (.loc "builder") "formatting") "mark" .nil))
    (.cons (.asgA (.loc "builder") "is_frameset_ok" (.cB false))
    (.cons (.expr (.meth (.loc "builder") "to" (.cons (.cS "in template") .nil)))
    (.cons (.expr (.meth (.attr (.loc "builder") "modes") "append" (.cons (.cS "in template") .nil)))
    .nil))))) }
noncomputable def f_leave_template : XFn := { params := ["builder"], dflts := [], body :=
    (.cons (.expr (.meth (.attr (.loc "builder") "stack") "pop_until" (.cons (.tup (.cons (.cS "template") .nil)) .nil)))
    (.cons (.expr (.meth (.attr (.loc "builder") "formatting") "clear_to_mark" .nil))
    (.cons (.expr (.meth (.attr (.loc "builder") "modes") "pop" .nil))
    (.cons (.expr (.call "reset_mode" (.cons (.loc "builder") .nil)))
    .nil)))) }
noncomputable def f_close_template : XFn := { params := ["builder"], dflts := [], body :=
    (.cons (.ite (.not (.meth (.attr (.loc "builder") "stack") "has_name" (.cons (.cS "template") .nil))) (.cons (.expr (.meth (.loc "builder") "error" (.cons (.cS "unexpected-end-tag") .nil)))
    (.cons .retN
    .nil)) .nil)
    (.cons (.expr (.call "pop_all_implied" (.cons (.attr (.loc "builder") "stack") .nil)))
    (.cons (.ite (.cmp .ne (.meth (.attr (.loc "builder") "stack") "name" .nil) (.cS "template")) (.cons (.expr (.meth (.loc "builder") "error" (.cons (.cS "open-elements") .nil)))
    .nil) .nil)
    (.cons (.expr (.call "leave_template" (.cons (.loc "builder") .nil)))
    .nil)))) }
noncomputable def f_is_space_token : XFn := { params := ["token"], dflts := [], body :=
    (.cons (.ret (.and (.cmp .eq (.sub (.loc "token") (.cI 0)) (.cS "char")) (.call "is_space" (.cons (.sub (.loc "token") (.cI 1)) .nil))))
    .nil) }
noncomputable def f_raw_state : XFn := { params := ["builder", "name"], dflts := [], body :=
    (.cons (.ite (.cmp .eq (.loc "name") (.cS "title")) (.cons (.ret (.cS "RCDATA"))
    .nil) .nil)
    (.cons (.ite (.or (.cmp .inn (.loc "name") (.tup (.cons (.cS "noframes") (.cons (.cS "style") .nil)))) (.and (.cmp .eq (.loc "name") (.cS "noscript")) (.attr (.loc "builder") "is_scripting"))) (.cons (.ret (.cS "RAWTEXT"))
    .nil) .nil)
    (.cons (.ite (.cmp .eq (.loc "name") (.cS "script")) (.cons (.ret (.cS "script data"))
    .nil) .nil)
    (.cons (.ret (.cS ""))
    .nil)))) }
noncomputable def f_leave : XFn := { params := ["builder", "token", "mode"], dflts := [], body :=
    (.cons (.expr (.meth (.attr (.loc "builder") "stack") "pop" .nil))
    (.cons (.expr (.meth (.loc "builder") "to" (.cons (.loc "mode") .nil)))
    (.cons (.expr (.meth (.loc "builder") "process" (.cons (.loc "token") .nil)))
    .nil))) }
noncomputable def f_start_in_head : XFn := { params := ["builder", "token"], dflts := [], body :=
    (.cons (.asg "name" (.sub (.loc "token") (.cI 1)))
    (.cons (.asg "state" (.call "raw_state" (.cons (.loc "builder") (.cons (.loc "name") .nil))))
    (.cons (.ite (.cmp .eq (.loc "name") (.cS "html")) (.cons (.expr (.meth (.loc "builder") "use" (.cons (.cS "in body") (.cons (.loc "token") .nil))))
    .nil) (.cons (.ite (.cmp .inn (.loc "name") (.tup (.cons (.cS "base") (.cons (.cS "basefont") (.cons (.cS "bgsound") (.cons (.cS "link") (.cons (.cS "meta") .nil))))))) (.cons (.expr (.call "insert_void" (.cons (.loc "builder") (.cons (.loc "token") .nil))))
    .nil) (.cons (.ite (.cmp .ne (.loc "state") (.cS "")) (.cons (.expr (.call "start_raw" (.cons (.loc "builder") (.cons (.loc "token") (.cons (.loc "state") .nil)))))
    .nil) (.cons (.ite (.cmp .eq (.loc "name") (.cS "noscript")) (.cons (.expr (.call "insert_token" (.cons (.loc "builder") (.cons (.loc "token") .nil))))
    (.cons (.expr (.meth (.loc "builder") "to" (.cons (.cS "in head noscript") .nil)))
    .nil)) (.cons (.ite (.cmp .eq (.loc "name") (.cS "template")) (.cons (.expr (.call "open_template" (.cons (.loc "builder") (.cons (.loc "token") .nil))))
    .nil) (.cons (.ite (.cmp .eq (.loc "name") (.cS "head")) (.cons (.expr (.meth (.loc "builder") "error" (.cons (.cS "unexpected-start-tag") .nil)))
    .nil) (.cons (.expr (.call "leave" (.cons (.loc "builder") (.cons (.loc "token") (.cons (.cS "after head") .nil)))))
    .nil))
    .nil))
    .nil))
    .nil))
    .nil))
    .nil))
    .nil))) }
noncomputable def f_end_in_head : XFn := { params := ["builder", "token"], dflts := [], body :=
    (.cons (.asg "name" (.sub (.loc "token") (.cI 1)))
    (.cons (.ite (.cmp .eq (.loc "name") (.cS "head")) (.cons (.expr (.meth (.attr (.loc "builder") "stack") "pop" .nil))
    (.cons (.expr (.meth (.loc "builder") "to" (.cons (.cS "after head") .nil)))
    .nil)) (.cons (.ite (.cmp .eq (.loc "name") (.cS "template")) (.cons (.expr (.call "close_template" (.cons (.loc "builder") .nil)))
    .nil) (.cons (.ite (.cmp .inn (.loc "name") (.tup (.cons (.cS "body") (.cons (.cS "html") (.cons (.cS "br") .nil))))) (.cons (.expr (.call "leave" (.cons (.loc "builder") (.cons (.loc "token") (.cons (.cS "after head") .nil)))))
    .nil) (.cons (.expr (.meth (.loc "builder") "error" (.cons (.cS "unexpected-end-tag") .nil)))
    .nil))
    .nil))
    .nil))
    .nil)) }
noncomputable def f_in_head : XFn := { params := ["builder", "token"], dflts := [], body :=
    (.cons (.asg "kind" (.sub (.loc "token") (.cI 0)))
    (.cons (.ite (.call "is_space_token" (.cons (.loc "token") .nil)) (.cons (.expr (.call "insert_sign" (.cons (.loc "builder") (.cons (.sub (.loc "token") (.cI 1)) .nil))))
    .nil) (.cons (.ite (.cmp .eq (.loc "kind") (.cS "comment")) (.cons (.expr (.call "insert_comment" (.cons (.loc "builder") (.cons (.sub (.loc "token") (.cI 1)) .nil))))
    .nil) (.cons (.ite (.cmp .eq (.loc "kind") (.cS "doctype")) (.cons (.expr (.meth (.loc "builder") "error" (.cons (.cS "unexpected-doctype") .nil)))
    .nil) (.cons (.ite (.cmp .eq (.loc "kind") (.cS "start")) (.cons (.expr (.call "start_in_head" (.cons (.loc "builder") (.cons (.loc "token") .nil))))
    .nil) (.cons (.ite (.cmp .eq (.loc "kind") (.cS "end")) (.cons (.expr (.call "end_in_head" (.cons (.loc "builder") (.cons (.loc "token") .nil))))
    .nil) (.cons (.expr (.call "leave" (.cons (.loc "builder") (.cons (.loc "token") (.cons (.cS "after head") .nil)))))
    .nil))
    .nil))
    .nil))
    .nil))
    .nil))
    .nil)) }
noncomputable def f_is_for_head : XFn := { params := ["token"], dflts := [], body :=
    (.cons (.ite (.or (.call "is_space_token" (.cons (.loc "token") .nil)) (.cmp .eq (.sub (.loc "token") (.cI 0)) (.cS "comment"))) (.cons (.ret (.cB true))
    .nil) .nil)
    (.cons (.ret (.and (.cmp .eq (.sub (.loc "token") (.cI 0)) (.cS "start")) (.cmp .inn (.sub (.loc "token") (.cI 1)) (.tup (.cons (.cS "basefont") (.cons (.cS "bgsound") (.cons (.cS "link") (.cons (.cS "meta") (.cons (.cS "noframes") (.cons (.cS "style") .nil))))))))))
    .nil)) }
noncomputable def f_unexpected : XFn := { params := ["token"], dflts := [], body :=
    (.cons (.ite (.cmp .eq (.sub (.loc "token") (.cI 0)) (.cS "start")) (.cons (.ret (.cS "unexpected-start-tag"))
    .nil) .nil)
    (.cons (.ite (.cmp .eq (.sub (.loc "token") (.cI 0)) (.cS "end")) (.cons (.ret (.cS "unexpected-end-tag"))
    .nil) .nil)
    (.cons (.ite (.cmp .eq (.sub (.loc "token") (.cI 0)) (.cS "doctype")) (.cons (.ret (.cS "unexpected-doctype"))
    .nil) .nil)
    (.cons (.ite (.cmp .eq (.sub (.loc "token") (.cI 0)) (.cS "eof")) (.cons (.ret (.cS "unexpected-eof"))
    .nil) .nil)
    (.cons (.ret (.cS "unexpected-text"))
    .nil))))) }
noncomputable def f_is_passed_over : XFn := { params := ["token"], dflts := [], body :=
    (.cons (.ite (.cmp .eq (.sub (.loc "token") (.cI 0)) (.cS "start")) (.cons (.ret (.cmp .inn (.sub (.loc "token") (.cI 1)) (.tup (.cons (.cS "head") (.cons (.cS "noscript") .nil)))))
    .nil) .nil)
    (.cons (.ite (.cmp .eq (.sub (.loc "token") (.cI 0)) (.cS "end")) (.cons (.ret (.cmp .ne (.sub (.loc "token") (.cI 1)) (.cS "br")))
    .nil) .nil)
    (.cons (.ret (.cmp .eq (.sub (.loc "token") (.cI 0)) (.cS "doctype")))
    .nil))) }
noncomputable def f_in_head_noscript : XFn := { params := ["builder", "token"], dflts := [], body :=
    (.cons (.ite (.and (.cmp .eq (.sub (.loc "token") (.cI 0)) (.cS "start")) (.cmp .eq (.sub (.loc "token") (.cI 1)) (.cS "html"))) (.cons (.expr (.meth (.loc "builder") "use" (.cons (.cS "in body") (.cons (.loc "token") .nil))))
    .nil) (.cons (.ite (.and (.cmp .eq (.sub (.loc "token") (.cI 0)) (.cS "end")) (.cmp .eq (.sub (.loc "token") (.cI 1)) (.cS "noscript"))) (.cons (.expr (.meth (.attr (.loc "builder") "stack") "pop" .nil))
    (.cons (.expr (.meth (.loc "builder") "to" (.cons (.cS "in head") .nil)))
    .nil)) (.cons (.ite (.call "is_for_head" (.cons (.loc "token") .nil)) (.cons (.expr (.meth (.loc "builder") "use" (.cons (.cS "in head") (.cons (.loc "token") .nil))))
    .nil) (.cons (.expr (.meth (.loc "builder") "error" (.cons (.call "unexpected" (.cons (.loc "token") .nil)) .nil)))
    (.cons (.ite (.not (.call "is_passed_over" (.cons (.loc "token") .nil))) (.cons (.expr (.call "leave" (.cons (.loc "builder") (.cons (.loc "token") (.cons (.cS "in head") .nil)))))
    .nil) .nil)
    .nil)))
    .nil))
    .nil))
    .nil) }
noncomputable def f_text_mode : XFn := { params := ["builder", "token"], dflts := [], body :=
    (.cons (.asg "kind" (.sub (.loc "token") (.cI 0)))
    (.cons (.ite (.cmp .eq (.loc "kind") (.cS "char")) (.cons (.expr (.call "insert_sign" (.cons (.loc "builder") (.cons (.sub (.loc "token") (.cI 1)) .nil))))
    .nil) (.cons (.ite (.cmp .eq (.loc "kind") (.cS "end")) (.cons (.expr (.meth (.attr (.loc "builder") "stack") "pop" .nil))
    (.cons (.expr (.meth (.loc "builder") "to" (.cons (.attr (.loc "builder") "original") .nil)))
    .nil)) (.cons (.ite (.cmp .eq (.loc "kind") (.cS "eof")) (.cons (.expr (.meth (.loc "builder") "error" (.cons (.cS "unexpected-eof") .nil)))
    (.cons (.expr (.call "leave" (.cons (.loc "builder") (.cons (.loc "token") (.cons (.attr (.loc "builder") "original") .nil)))))
    .nil)) .nil)
    .nil))
    .nil))
    .nil)) }
noncomputable def f_head_rules : XFn := { params := [], dflts := [], body :=
    (.cons (.ret (.dict ["in head", "in head noscript", "text"] (.cons (.glob "in_head") (.cons (.glob "in_head_noscript") (.cons (.glob "text_mode") .nil)))))
    .nil) }
noncomputable def f_Formatting_init : XFn := { params := ["self", "tree"], dflts := [], body :=
    (.cons (.asgA (.loc "self") "tree" (.loc "tree"))
    (.cons (.asgA (.loc "self") "items" (.list .nil))
    .nil)) }
noncomputable def f_Formatting_mark : XFn := { params := ["self"], dflts := [], body :=
    (.cons (.expr (.meth (.attr (.loc "self") "items") "append" (.cons (.cI (-1)) .nil)))
    .nil) }
noncomputable def f_Formatting_clear_to_mark : XFn := { params := ["self"], dflts := [], body :=
    (.cons (.whl (.cmp .gt (.len (.attr (.loc "self") "items")) (.cI 0)) (.cons (.ite (.cmp .eq (.meth (.attr (.loc "self") "items") "pop" .nil) (.cI (-1))) (.cons .retN
    .nil) .nil)
    .nil))
    .nil) }
noncomputable def f_Tree_init : XFn := { params := ["self"], dflts := [], body :=
    (.cons (.asgA (.loc "self") "kinds" (.list .nil))
    (.cons (.asgA (.loc "self") "spaces" (.list .nil))
    (.cons (.asgA (.loc "self") "names" (.list .nil))
    (.cons (.asgA (.loc "self") "attrs" (.list .nil))
    (.cons (.asgA (.loc "self") "texts" (.list .nil))
    (.cons (.asgA (.loc "self") "parents" (.list .nil))
    (.cons (.asgA (.loc "self") "children" (.list .nil))
    (.cons (.asgA (.loc "self") "contents" .edict)
    (.cons (.expr (.meth (.loc "self") "add" (.cons (.cS "document") .nil)))
    .nil))))))))) }
noncomputable def f_Tree_add : XFn := { params := ["self", "kind", "space", "name", "attrs", "text"], dflts := [.str "", .str "", .tup [], .str ""], body :=
    (.cons (.expr (.meth (.attr (.loc "self") "kinds") "append" (.cons (.loc "kind") .nil)))
    (.cons (.expr (.meth (.attr (.loc "self") "spaces") "append" (.cons (.loc "space") .nil)))
    (.cons (.expr (.meth (.attr (.loc "self") "names") "append" (.cons (.loc "name") .nil)))
    (.cons (.expr (.meth (.attr (.loc "self") "attrs") "append" (.cons (.mkl (.loc "attrs")) .nil)))
    (.cons (.expr (.meth (.attr (.loc "self") "texts") "append" (.cons (.loc "text") .nil)))
    (.cons (.expr (.meth (.attr (.loc "self") "parents") "append" (.cons (.cI (-1)) .nil)))
    (.cons (.expr (.meth (.attr (.loc "self") "children") "append" (.cons (.list .nil) .nil)))
    (.cons (.ret (.bin .sub (.len (.attr (.loc "self") "kinds")) (.cI 1)))
    .nil)))))))) }
noncomputable def f_Tree_element : XFn := { params := ["self", "name", "space", "attrs"], dflts := [.str "html", .tup []], body :=
    (.cons (.asg "node" (.meth (.loc "self") "add" (.cons (.cS "element") (.cons (.loc "space") (.cons (.loc "name") (.cons (.loc "attrs") .nil))))))
    (.cons (.ite (.and (.cmp .eq (.loc "space") (.cS "html")) (.cmp .eq (.loc "name") (.cS "template"))) (.cons (.asgS (.attr (.loc "self") "contents") (.loc "node") (.meth (.loc "self") "add" (.cons (.cS "fragment") .nil)))
    .nil) .nil)
    (.cons (.ret (.loc "node"))
    .nil))) }
noncomputable def f_Tree_text : XFn := { params := ["self", "text"], dflts := [], body :=
    (.cons (.ret (.meth (.loc "self") "add" (.cons (.cS "text") (.cons (.cS "") (.cons (.cS "") (.cons (.tup .nil) (.cons (.loc "text") .nil)))))))
    .nil) }
noncomputable def f_Tree_comment : XFn := { params := ["self", "text"], dflts := [], body :=
    (.cons (.ret (.meth (.loc "self") "add" (.cons (.cS "comment") (.cons (.cS "") (.cons (.cS "") (.cons (.tup .nil) (.cons (.loc "text") .nil)))))))
    .nil) }
noncomputable def f_Tree_insert : XFn := { params := ["self", "parent", "node", "before"], dflts := [.int (-1)], body :=
    (.cons (.ite (.or (.cmp .eq (.loc "node") (.loc "parent")) (.cmp .inn (.loc "node") (.call "above" (.cons (.loc "self") (.cons (.loc "parent") .nil))))) (.cons .stuck
    .nil) .nil)
    (.cons (.ite (.and (.cmp .ne (.loc "before") (.cI (-1))) (.cmp .notIn (.loc "before") (.sub (.attr (.loc "self") "children") (.loc "parent")))) (.cons .stuck
    .nil) .nil)
    (.cons (.ite (.cmp .eq (.loc "before") (.loc "node")) (.cons .retN
    .nil) .nil)
    (.cons (.expr (.meth (.loc "self") "remove" (.cons (.loc "node") .nil)))
    (.cons (.asg "at" (.len (.sub (.attr (.loc "self") "children") (.loc "parent"))))
    (.cons (.ite (.cmp .ne (.loc "before") (.cI (-1))) (.cons (.asg "at" (.meth (.sub (.attr (.loc "self") "children") (.loc "parent")) "index" (.cons (.loc "before") .nil)))
    .nil) .nil)
    (.cons (.expr (.meth (.sub (.attr (.loc "self") "children") (.loc "parent")) "insert" (.cons (.loc "at") (.cons (.loc "node") .nil))))
    (.cons (.asgS (.attr (.loc "self") "parents") (.loc "node") (.loc "parent"))
    .nil)))))))) }
noncomputable def f_Tree_remove : XFn := { params := ["self", "node"], dflts := [], body :=
    (.cons (.ite (.cmp .ne (.sub (.attr (.loc "self") "parents") (.loc "node")) (.cI (-1))) (.cons (.expr (.meth (.sub (.attr (.loc "self") "children") (.sub (.attr (.loc "self") "parents") (.loc "node"))) "remove" (.cons (.loc "node") .nil)))
    (.cons (.asgS (.attr (.loc "self") "parents") (.loc "node") (.cI (-1)))
    .nil)) .nil)
    .nil) }
noncomputable def f_Tree_last : XFn := { params := ["self", "parent"], dflts := [], body :=
    (.cons (.ite (.not (.sub (.attr (.loc "self") "children") (.loc "parent"))) (.cons (.ret (.cI (-1)))
    .nil) .nil)
    (.cons (.ret (.sub (.sub (.attr (.loc "self") "children") (.loc "parent")) (.cI (-1))))
    .nil)) }
noncomputable def f_Tree_is_html : XFn := { params := ["self", "node", "name"], dflts := [], body :=
    (.cons (.ret (.and (.cmp .ne (.loc "node") (.cI (-1))) (.and (.cmp .eq (.sub (.attr (.loc "self") "spaces") (.loc "node")) (.cS "html")) (.cmp .eq (.sub (.attr (.loc "self") "names") (.loc "node")) (.loc "name")))))
    .nil) }
noncomputable def f_above : XFn := { params := ["tree", "node"], dflts := [], body :=
    (.cons (.asg "out" (.list .nil))
    (.cons (.asg "up" (.sub (.attr (.loc "tree") "parents") (.loc "node")))
    (.cons (.whl (.cmp .ne (.loc "up") (.cI (-1))) (.cons (.expr (.meth (.loc "out") "append" (.cons (.loc "up") .nil)))
    (.cons (.asg "up" (.sub (.attr (.loc "tree") "parents") (.loc "up")))
    .nil)))
    (.cons (.ret (.loc "out"))
    .nil)))) }
noncomputable def f_Builder_init : XFn := { params := ["self", "rules", "is_scripting"], dflts := [.bool false], body :=
    (.cons (.asgA (.loc "self") "rules" (.loc "rules"))
    (.cons (.asgA (.loc "self") "tree" (.new "Tree" .nil))
    (.cons (.asgA (.loc "self") "stack" (.new "OpenStack" (.cons (.attr (.loc "self") "tree") .nil)))
    (.cons (.asgA (.loc "self") "formatting" (.new "Formatting" (.cons (.attr (.loc "self") "tree") .nil)))
    (.cons (.asgA (.loc "self") "mode" (.cS "initial"))
    (.cons (.asgA (.loc "self") "original" (.cS ""))
    (.cons (.asgA (.loc "self") "modes" (.list .nil))
    (.cons (.asgA (.loc "self") "head" (.cI (-1)))
    (.cons (.asgA (.loc "self") "form" (.cI (-1)))
    (.cons (.asgA (.loc "self") "owners" .edict)
    (.cons (.asgA (.loc "self") "is_frameset_ok" (.cB true))
    (.cons (.asgA (.loc "self") "is_scripting" (.loc "is_scripting"))
    (.cons (.asgA (.loc "self") "is_foster" (.cB false))
    (.cons (.asgA (.loc "self") "context" (.cI (-1)))
    (.cons (.asgA (.loc "self") "quirks" (.cS "no-quirks"))
    (.cons (.asgA (.loc "self") "errors" (.list .nil))
    (.cons (.asgA (.loc "self") "pending" (.list .nil))
    (.cons (.asgA (.loc "self") "wish" (.cS ""))
    (.cons (.asgA (.loc "self") "is_skipping" (.cB false))
    (.cons (.asgA (.loc "self") "is_acknowledged" (.cB false))
    (.cons (.asgA (.loc "self") "is_done" (.cB false))
    .nil))))))))))))))))))))) }
noncomputable def f_Builder_error : XFn := { params := ["self", "word"], dflts := [], body :=
    (.cons (.expr (.meth (.attr (.loc "self") "errors") "append" (.cons (.tup (.cons (.loc "word") (.cons (.attr (.loc "self") "mode") .nil))) .nil)))
    .nil) }
noncomputable def f_Builder_to : XFn := { params := ["self", "mode"], dflts := [], body :=
    (.cons (.asgA (.loc "self") "mode" (.loc "mode"))
    .nil) }
noncomputable def f_Builder_use : XFn := { params := ["self", "name", "token"], dflts := [], body :=
    (.cons (.ite (.cmp .notIn (.loc "name") (.attr (.loc "self") "rules")) (.cons .stuck
    .nil) .nil)
    (.cons (.asg "rule" (.sub (.attr (.loc "self") "rules") (.loc "name")))
    (.cons (.expr (.callv "rule" (.cons (.loc "self") (.cons (.loc "token") .nil))))
    .nil))) }
noncomputable def f_Builder_process : XFn := { params := ["self", "token"], dflts := [], body :=
    (.cons (.ite (.call "is_html_turn" (.cons (.loc "self") (.cons (.loc "token") .nil))) (.cons (.expr (.meth (.loc "self") "use" (.cons (.attr (.loc "self") "mode") (.cons (.loc "token") .nil))))
    .nil) (.cons (.expr (.meth (.loc "self") "use" (.cons (.cS "foreign content") (.cons (.loc "token") .nil))))
    .nil))
    .nil) }
noncomputable def f_Builder_feed : XFn := { params := ["self", "token"], dflts := [], body :=
    (.cons (.ite (.attr (.loc "self") "is_done") (.cons .retN
    .nil) .nil)
    (.cons (.ite (.attr (.loc "self") "is_skipping") (.cons (.asgA (.loc "self") "is_skipping" (.cB false))
    (.cons (.ite (.and (.cmp .eq (.sub (.loc "token") (.cI 0)) (.cS "char")) (.cmp .eq (.sub (.loc "token") (.cI 1)) (.cS "\n"))) (.cons .retN
    .nil) .nil)
    .nil)) .nil)
    (.cons (.asgA (.loc "self") "is_acknowledged" (.cB false))
    (.cons (.expr (.meth (.loc "self") "process" (.cons (.loc "token") .nil)))
    (.cons (.ite (.and (.cmp .eq (.sub (.loc "token") (.cI 0)) (.cS "start")) (.and (.sub (.loc "token") (.cI 3)) (.not (.attr (.loc "self") "is_acknowledged")))) (.cons (.expr (.meth (.loc "self") "error" (.cons (.cS "non-void-html-element-start-tag-with-trailing-solidus") .nil)))
    .nil) .nil)
    .nil))))) }
noncomputable def f_Builder_adjusted : XFn := { params := ["self"], dflts := [], body :=
    (.cons (.ite (.and (.cmp .eq (.meth (.attr (.loc "self") "stack") "many" .nil) (.cI 1)) (.cmp .ne (.attr (.loc "self") "context") (.cI (-1)))) (.cons (.ret (.attr (.loc "self") "context"))
    .nil) .nil)
    (.cons (.ret (.meth (.attr (.loc "self") "stack") "current" .nil))
    .nil)) }
noncomputable def f_Builder_is_foreign : XFn := { params := ["self"], dflts := [], body :=
    (.cons (.asg "node" (.meth (.loc "self") "adjusted" .nil))
    (.cons (.ret (.and (.cmp .ne (.loc "node") (.cI (-1))) (.cmp .ne (.sub (.attr (.attr (.loc "self") "tree") "spaces") (.loc "node")) (.cS "html"))))
    .nil)) }
noncomputable def f_is_html_turn : XFn := { params := ["builder", "token"], dflts := [], body :=
    (.cons (.ite (.or (.not (.meth (.loc "builder") "is_foreign" .nil)) (.cmp .eq (.sub (.loc "token") (.cI 0)) (.cS "eof"))) (.cons (.ret (.cB true))
    .nil) .nil)
    (.cons (.asg "tree" (.attr (.loc "builder") "tree"))
    (.cons (.asg "node" (.meth (.loc "builder") "adjusted" .nil))
    (.cons (.ite (.cmp .eq (.sub (.loc "token") (.cI 0)) (.cS "char")) (.cons (.ret (.or (.call "is_math_point" (.cons (.loc "tree") (.cons (.loc "node") .nil))) (.call "is_html_point" (.cons (.loc "tree") (.cons (.loc "node") .nil)))))
    .nil) .nil)
    (.cons (.ite (.cmp .ne (.sub (.loc "token") (.cI 0)) (.cS "start")) (.cons (.ret (.cB false))
    .nil) .nil)
    (.cons (.ite (.and (.call "is_math_point" (.cons (.loc "tree") (.cons (.loc "node") .nil))) (.cmp .notIn (.sub (.loc "token") (.cI 1)) (.tup (.cons (.cS "mglyph") (.cons (.cS "malignmark") .nil))))) (.cons (.ret (.cB true))
    .nil) .nil)
    (.cons (.ite (.and (.cmp .eq (.sub (.attr (.loc "tree") "spaces") (.loc "node")) (.cS "math")) (.and (.cmp .eq (.sub (.attr (.loc "tree") "names") (.loc "node")) (.cS "annotation-xml")) (.cmp .eq (.sub (.loc "token") (.cI 1)) (.cS "svg")))) (.cons (.ret (.cB true))
    .nil) .nil)
    (.cons (.ret (.call "is_html_point" (.cons (.loc "tree") (.cons (.loc "node") .nil))))
    .nil)))))))) }
noncomputable def f__law_digit : XFn := { params := ["script", "place"], dflts := [], body :=
    (.cons (.ret (.ife (.cmp .lt (.loc "place") (.len (.loc "script"))) (.sub (.loc "script") (.loc "place")) (.cI 0)))
    .nil) }
noncomputable def f__law_rows : XFn := { params := [], dflts := [], body :=
    (.cons (.ret (.list (.cons (.list (.cons (.cI 1) (.cons (.cI 7) (.cons (.cI 8) (.cons (.cI 38) (.cons (.cI 25) .nil)))))) (.cons (.list (.cons (.cI 0) (.cons (.cI 4) (.cons (.cI 1253) .nil)))) (.cons (.list (.cons (.cI 0) (.cons (.cI 20) (.cons (.cI 12) .nil)))) (.cons (.list (.cons (.cI 0) (.cons (.cI 7) (.cons (.cI 0) (.cons (.cI 2) (.cons (.cI 3) (.cons (.cI 56) (.cons (.cI 44) (.cons (.cI 18) (.cons (.cI 11) (.cons (.cI 24) (.cons (.cI 20) (.cons (.cI 64) (.cons (.cI 8) (.cons (.cI 20) (.cons (.cI 4) (.cons (.cI 7) (.cons (.cI 1) .nil)))))))))))))))))) (.cons (.list (.cons (.cI 0) (.cons (.cI 9) (.cons (.cI 37) (.cons (.cI 50) (.cons (.cI 10) (.cons (.cI 9) (.cons (.cI 9) (.cons (.cI 37) (.cons (.cI 1) (.cons (.cI 10) (.cons (.cI 5) (.cons (.cI 12) (.cons (.cI 10) (.cons (.cI 7) (.cons (.cI 51) (.cons (.cI 22) (.cons (.cI 10) (.cons (.cI 9) (.cons (.cI 0) .nil)))))))))))))))))))) (.cons (.list (.cons (.cI 0) (.cons (.cI 0) (.cons (.cI 2) (.cons (.cI 3) (.cons (.cI 4) (.cons (.cI 31) (.cons (.cI 57) (.cons (.cI 122) (.cons (.cI 11) (.cons (.cI 24) (.cons (.cI 64) (.cons (.cI 10) (.cons (.cI 12) (.cons (.cI 5) (.cons (.cI 10) (.cons (.cI 116) .nil))))))))))))))))) .nil))))))))
    .nil) }
noncomputable def f__law_voids : XFn := { params := [], dflts := [], body :=
    (.cons (.ret (.list (.cons (.cS "base") (.cons (.cS "basefont") (.cons (.cS "bgsound") (.cons (.cS "link") (.cons (.cS "meta") .nil)))))))
    .nil) }
noncomputable def f__law_start : XFn := { params := ["name", "is_closing"], dflts := [], body :=
    (.cons (.ret (.tup (.cons (.cS "start") (.cons (.loc "name") (.cons (.tup (.cons (.tup (.cons (.cS "n") (.cons (.loc "name") .nil))) .nil)) (.cons (.loc "is_closing") .nil))))))
    .nil) }
noncomputable def f__law_raw_unit : XFn := { params := ["name", "more", "is_closing", "is_cut"], dflts := [], body :=
    (.cons (.asg "text" (.sub (.list (.cons (.cS "a<") (.cons (.cS "") (.cons (.cS "\n\u0000") (.cons (.cS "\r-") .nil))))) (.bin .mod (.loc "more") (.cI 4))))
    (.cons (.asg "last" (.ife (.loc "is_cut") (.tup (.cons (.cS "eof") .nil)) (.tup (.cons (.cS "end") (.cons (.loc "name") (.cons (.tup .nil) (.cons (.cB false) .nil)))))))
    (.cons (.ret (.bin .add (.bin .add (.list (.cons (.call "_law_start" (.cons (.loc "name") (.cons (.loc "is_closing") .nil))) .nil)) (.comp "sign" [] (.loc "text") (.tup (.cons (.cS "char") (.cons (.loc "sign") .nil))))) (.list (.cons (.loc "last") .nil))))
    .nil))) }
noncomputable def f__law_unit : XFn := { params := ["code", "is_scripting"], dflts := [], body :=
    (.cons (.asg "which" (.bin .mod (.loc "code") (.cI 13)))
    (.cons (.asg "more" (.bin .fdiv (.loc "code") (.cI 13)))
    (.cons (.ite (.cmp .eq (.loc "which") (.cI 0)) (.cons (.ret (.list (.cons (.tup (.cons (.cS "char") (.cons (.sub (.list (.cons (.cS " ") (.cons (.cS "\n") (.cons (.cS "\t") (.cons (.cS "\u000c") (.cons (.cS "\r") .nil)))))) (.bin .mod (.loc "more") (.cI 5))) .nil))) .nil)))
    .nil) .nil)
    (.cons (.ite (.cmp .eq (.loc "which") (.cI 1)) (.cons (.ret (.list (.cons (.tup (.cons (.cS "char") (.cons (.sub (.list (.cons (.cS "x") (.cons (.cS "\u0000") (.cons (.cS "\u00a0") .nil)))) (.bin .mod (.loc "more") (.cI 3))) .nil))) .nil)))
    .nil) .nil)
    (.cons (.ite (.cmp .eq (.loc "which") (.cI 2)) (.cons (.ret (.list (.cons (.tup (.cons (.cS "comment") (.cons (.sub (.list (.cons (.cS "") (.cons (.cS "c") (.cons (.cS "--") .nil)))) (.bin .mod (.loc "more") (.cI 3))) .nil))) .nil)))
    .nil) .nil)
    (.cons (.ite (.cmp .eq (.loc "which") (.cI 3)) (.cons (.ret (.list (.cons (.tup (.cons (.cS "doctype") (.cons (.cS "html") (.cons .cN (.cons .cN (.cons (.cB false) .nil)))))) .nil)))
    .nil) .nil)
    (.cons (.ite (.cmp .eq (.loc "which") (.cI 4)) (.cons (.ret (.list (.cons (.call "_law_start" (.cons (.sub (.call "_law_voids" .nil) (.bin .mod (.loc "more") (.cI 5))) (.cons (.cmp .eq (.bin .mod (.bin .fdiv (.loc "more") (.cI 5)) (.cI 2)) (.cI 1)) .nil))) .nil)))
    .nil) .nil)
    (.cons (.ite (.cmp .inn (.loc "which") (.list (.cons (.cI 5) (.cons (.cI 6) .nil)))) (.cons (.asg "name" (.sub (.list (.cons (.cS "title") (.cons (.cS "style") (.cons (.cS "script") (.cons (.cS "noframes") .nil))))) (.bin .mod (.loc "more") (.cI 4))))
    (.cons (.ret (.call "_law_raw_unit" (.cons (.loc "name") (.cons (.bin .fdiv (.loc "more") (.cI 8)) (.cons (.cmp .eq (.bin .mod (.bin .fdiv (.loc "more") (.cI 4)) (.cI 2)) (.cI 1)) (.cons (.cmp .eq (.bin .mod (.bin .fdiv (.loc "more") (.cI 32)) (.cI 4)) (.cI 3)) .nil))))))
    .nil)) .nil)
    (.cons (.ite (.and (.cmp .eq (.loc "which") (.cI 7)) (.loc "is_scripting")) (.cons (.ret (.call "_law_raw_unit" (.cons (.cS "noscript") (.cons (.bin .fdiv (.loc "more") (.cI 2)) (.cons (.cmp .eq (.bin .mod (.loc "more") (.cI 2)) (.cI 1)) (.cons (.cmp .eq (.bin .mod (.bin .fdiv (.loc "more") (.cI 8)) (.cI 4)) (.cI 1)) .nil))))))
    .nil) .nil)
    (.cons (.ite (.cmp .inn (.loc "which") (.list (.cons (.cI 7) (.cons (.cI 9) .nil)))) (.cons (.ret (.list (.cons (.call "_law_start" (.cons (.ife (.cmp .eq (.loc "which") (.cI 7)) (.cS "noscript") (.cS "template")) (.cons (.cmp .eq (.bin .mod (.loc "more") (.cI 2)) (.cI 1)) .nil))) .nil)))
    .nil) .nil)
    (.cons (.ite (.cmp .inn (.loc "which") (.list (.cons (.cI 8) (.cons (.cI 10) .nil)))) (.cons (.ret (.list (.cons (.tup (.cons (.cS "end") (.cons (.ife (.cmp .eq (.loc "which") (.cI 8)) (.cS "noscript") (.cS "template")) (.cons (.tup .nil) (.cons (.cB false) .nil))))) .nil)))
    .nil) .nil)
    (.cons (.ite (.cmp .eq (.loc "which") (.cI 11)) (.cons (.ret (.list (.cons (.call "_law_start" (.cons (.sub (.list (.cons (.cS "html") (.cons (.cS "head") (.cons (.cS "li") (.cons (.cS "div") .nil))))) (.bin .mod (.loc "more") (.cI 4))) (.cons (.cmp .eq (.bin .mod (.bin .fdiv (.loc "more") (.cI 4)) (.cI 2)) (.cI 1)) .nil))) .nil)))
    .nil) .nil)
    (.cons (.ite (.cmp .lt (.bin .mod (.loc "more") (.cI 9)) (.cI 6)) (.cons (.ret (.list (.cons (.tup (.cons (.cS "end") (.cons (.sub (.list (.cons (.cS "head") (.cons (.cS "body") (.cons (.cS "html") (.cons (.cS "br") (.cons (.cS "p") (.cons (.cS "title") .nil))))))) (.bin .mod (.loc "more") (.cI 9))) (.cons (.tup .nil) (.cons (.cB false) .nil))))) .nil)))
    .nil) .nil)
    (.cons (.ret (.sub (.list (.cons (.list (.cons (.call "_law_start" (.cons (.cS "p") (.cons (.cB false) .nil))) .nil)) (.cons (.list (.cons (.call "_law_start" (.cons (.cS "body") (.cons (.cmp .eq (.bin .mod (.bin .fdiv (.loc "more") (.cI 9)) (.cI 2)) (.cI 1)) .nil))) .nil)) (.cons (.list (.cons (.tup (.cons (.cS "eof") .nil)) .nil)) .nil)))) (.bin .sub (.bin .mod (.loc "more") (.cI 9)) (.cI 6))))
    .nil)))))))))))))) }
noncomputable def f__law_takes : XFn := { params := ["token"], dflts := [], body :=
    (.cons (.ite (.cmp .eq (.sub (.loc "token") (.cI 0)) (.cS "end")) (.cons (.ret (.cmp .eq (.sub (.loc "token") (.cI 1)) (.cS "template")))
    .nil) .nil)
    (.cons (.asg "raws" (.list (.cons (.cS "title") (.cons (.cS "style") (.cons (.cS "script") (.cons (.cS "noframes") (.cons (.cS "template") .nil)))))))
    (.cons (.ret (.and (.cmp .eq (.sub (.loc "token") (.cI 0)) (.cS "start")) (.cmp .inn (.sub (.loc "token") (.cI 1)) (.bin .add (.call "_law_voids" .nil) (.loc "raws")))))
    .nil))) }
noncomputable def f__law_word : XFn := { params := ["token"], dflts := [], body :=
    (.cons (.ret (.ife (.cmp .inn (.sub (.loc "token") (.cI 0)) (.list (.cons (.cS "char") (.cons (.cS "comment") (.cons (.cS "start") (.cons (.cS "end") .nil)))))) (.bin .add (.bin .add (.sub (.loc "token") (.cI 0)) (.cS " ")) (.sub (.loc "token") (.cI 1))) (.sub (.loc "token") (.cI 0))))
    .nil) }
noncomputable def f__law_after_head : XFn := { params := ["builder", "token"], dflts := [], body :=
    (.cons (.ite (.call "_law_takes" (.cons (.loc "token") .nil)) (.cons (.expr (.meth (.loc "builder") "use" (.cons (.cS "in head") (.cons (.loc "token") .nil))))
    .nil) (.cons (.expr (.call "insert_comment" (.cons (.loc "builder") (.cons (.bin .add (.bin .add (.bin .add (.cS "after, ") (.attr (.loc "builder") "mode")) (.cS ": ")) (.call "_law_word" (.cons (.loc "token") .nil))) .nil))))
    (.cons (.asgA (.loc "builder") "is_done" (.cmp .eq (.sub (.loc "token") (.cI 0)) (.cS "eof")))
    .nil)))
    .nil) }
noncomputable def f__law_in_template : XFn := { params := ["builder", "token"], dflts := [], body :=
    (.cons (.ite (.call "_law_takes" (.cons (.loc "token") .nil)) (.cons (.expr (.meth (.loc "builder") "use" (.cons (.cS "in head") (.cons (.loc "token") .nil))))
    .nil) (.cons (.ite (.and (.cmp .eq (.sub (.loc "token") (.cI 0)) (.cS "start")) (.cmp .inn (.sub (.loc "token") (.cI 1)) (.list (.cons (.cS "li") (.cons (.cS "div") .nil))))) (.cons (.expr (.call "insert_element" (.cons (.loc "builder") (.cons (.sub (.loc "token") (.cI 1)) (.cons (.sub (.loc "token") (.cI 2)) .nil)))))
    .nil) (.cons (.expr (.call "insert_comment" (.cons (.loc "builder") (.cons (.bin .add (.bin .add (.bin .add (.cS "template, ") (.attr (.loc "builder") "mode")) (.cS ": ")) (.call "_law_word" (.cons (.loc "token") .nil))) .nil))))
    (.cons (.asgA (.loc "builder") "is_done" (.cmp .eq (.sub (.loc "token") (.cI 0)) (.cS "eof")))
    .nil)))
    .nil))
    .nil) }
noncomputable def f__law_in_body : XFn := { params := ["builder", "token"], dflts := [], body :=
    (.cons (.expr (.call "insert_comment" (.cons (.loc "builder") (.cons (.bin .add (.bin .add (.bin .add (.cS "body, ") (.attr (.loc "builder") "mode")) (.cS ": ")) (.call "_law_word" (.cons (.loc "token") .nil))) .nil))))
    .nil) }
noncomputable def f__law_below : XFn := { params := ["node"], dflts := [], body :=
    (.cons (.ret (.ife (.isN false (.sub (.loc "node") (.cI 7))) (.sub (.loc "node") (.cI 6)) (.sub (.loc "node") (.cI 7))))
    .nil) }
noncomputable def f__law_add : XFn := { params := ["up", "kind", "name", "attrs", "text", "place"], dflts := [], body :=
    (.cons (.asg "space" (.ife (.cmp .eq (.loc "kind") (.cS "element")) (.cS "html") (.cS "")))
    (.cons (.asg "node" (.list (.cons (.loc "kind") (.cons (.loc "space") (.cons (.loc "name") (.cons (.mkl (.loc "attrs")) (.cons (.loc "text") (.cons (.loc "place") (.cons (.list .nil) (.cons (.ife (.cmp .eq (.loc "name") (.cS "template")) (.list .nil) .cN) .nil))))))))))
    (.cons (.expr (.meth (.call "_law_below" (.cons (.loc "up") .nil)) "append" (.cons (.loc "node") .nil)))
    (.cons (.ret (.loc "node"))
    .nil)))) }
noncomputable def f__law_add_sign : XFn := { params := ["up", "sign"], dflts := [], body :=
    (.cons (.asg "below" (.call "_law_below" (.cons (.loc "up") .nil)))
    (.cons (.ite (.and (.cmp .ne (.loc "below") (.list .nil)) (.cmp .eq (.sub (.sub (.loc "below") (.cI (-1))) (.cI 0)) (.cS "text"))) (.cons (.asgS (.sub (.loc "below") (.cI (-1))) (.cI 4) (.bin .add (.sub (.sub (.loc "below") (.cI (-1))) (.cI 4)) (.loc "sign")))
    .nil) (.cons (.expr (.call "_law_add" (.cons (.loc "up") (.cons (.cS "text") (.cons (.cS "") (.cons (.tup .nil) (.cons (.loc "sign") (.cons (.cI (-1)) .nil))))))))
    .nil))
    .nil)) }
noncomputable def f__law_slash : XFn := { params := ["told", "token", "mode"], dflts := [], body :=
    (.cons (.ite (.and (.cmp .eq (.sub (.loc "token") (.cI 0)) (.cS "start")) (.sub (.loc "token") (.cI 3))) (.cons (.expr (.meth (.sub (.loc "told") (.cS "errors")) "append" (.cons (.tup (.cons (.cS "non-void-html-element-start-tag-with-trailing-solidus") (.cons (.loc "mode") .nil))) .nil)))
    .nil) .nil)
    .nil) }
noncomputable def f__law_ran_out : XFn := { params := ["told", "mode"], dflts := [], body :=
    (.cons (.ite (.cmp .eq (.sub (.loc "told") (.cS "mode")) (.cS "")) (.cons (.asgS (.loc "told") (.cS "mode") (.loc "mode"))
    .nil) .nil)
    .nil) }
noncomputable def f__law_read_raw : XFn := { params := ["tokens", "at", "told", "up", "mode"], dflts := [], body :=
    (.cons (.asg "token" (.sub (.loc "tokens") (.loc "at")))
    (.cons (.asg "node" (.call "_law_add" (.cons (.loc "up") (.cons (.cS "element") (.cons (.sub (.loc "token") (.cI 1)) (.cons (.sub (.loc "token") (.cI 2)) (.cons (.cS "") (.cons (.bin .add (.sub (.loc "up") (.cI 5)) (.cI 1)) .nil))))))))
    (.cons (.expr (.meth (.sub (.loc "told") (.cS "wishes")) "append" (.cons (.tup (.cons (.loc "at") (.cons (.meth (.dict ["title", "script"] (.cons (.cS "RCDATA") (.cons (.cS "script data") .nil))) "get" (.cons (.sub (.loc "token") (.cI 1)) (.cons (.cS "RAWTEXT") .nil))) .nil))) .nil)))
    (.cons (.asgS (.loc "told") (.cS "original") (.loc "mode"))
    (.cons (.expr (.call "_law_slash" (.cons (.loc "told") (.cons (.loc "token") (.cons (.cS "text") .nil)))))
    (.cons (.aug "at" .add (.cI 1))
    (.cons (.whl (.cmp .eq (.sub (.sub (.loc "tokens") (.loc "at")) (.cI 0)) (.cS "char")) (.cons (.expr (.call "_law_add_sign" (.cons (.loc "node") (.cons (.sub (.sub (.loc "tokens") (.loc "at")) (.cI 1)) .nil))))
    (.cons (.aug "at" .add (.cI 1))
    .nil)))
    (.cons (.asgS (.loc "node") (.cI 5) (.cI (-1)))
    (.cons (.ite (.cmp .eq (.sub (.sub (.loc "tokens") (.loc "at")) (.cI 0)) (.cS "eof")) (.cons (.expr (.meth (.sub (.loc "told") (.cS "errors")) "append" (.cons (.tup (.cons (.cS "unexpected-eof") (.cons (.cS "text") .nil))) .nil)))
    (.cons (.ret (.loc "at"))
    .nil)) .nil)
    (.cons (.ret (.bin .add (.loc "at") (.cI 1)))
    .nil)))))))))) }
noncomputable def f__law_read_template : XFn := { params := ["tokens", "at", "told", "up"], dflts := [], body :=
    (.cons (.asg "mode" (.cS "in template"))
    (.cons (.asg "opens" (.list (.cons (.call "_law_add" (.cons (.loc "up") (.cons (.cS "element") (.cons (.cS "template") (.cons (.sub (.sub (.loc "tokens") (.loc "at")) (.cI 2)) (.cons (.cS "") (.cons (.bin .add (.sub (.loc "up") (.cI 5)) (.cI 1)) .nil))))))) .nil)))
    (.cons (.augS (.loc "told") (.cS "templates") .add (.cI 1))
    (.cons (.asgS (.loc "told") (.cS "is_frameset_ok") (.cB false))
    (.cons (.expr (.call "_law_slash" (.cons (.loc "told") (.cons (.sub (.loc "tokens") (.loc "at")) (.cons (.loc "mode") .nil)))))
    (.cons (.aug "at" .add (.cI 1))
    (.cons (.whl (.cmp .lt (.loc "at") (.len (.loc "tokens"))) (.cons (.asg "token" (.sub (.loc "tokens") (.loc "at")))
    (.cons (.asg "holder" (.sub (.loc "opens") (.cI (-1))))
    (.cons (.ite (.cmp .eq (.slice (.loc "token") (.cI 2)) (.tup (.cons (.cS "end") (.cons (.cS "template") .nil)))) (.cons (.ite (.cmp .inn (.cS "div") (.comp "node" [] (.loc "opens") (.sub (.loc "node") (.cI 2)))) (.cons (.expr (.meth (.sub (.loc "told") (.cS "errors")) "append" (.cons (.tup (.cons (.cS "open-elements") (.cons (.loc "mode") .nil))) .nil)))
    .nil) .nil)
    (.cons (.forL "node" (.loc "opens") (.cons (.asgS (.loc "node") (.cI 5) (.cI (-1)))
    .nil))
    (.cons (.augS (.loc "told") (.cS "templates") .sub (.cI 1))
    (.cons (.ret (.bin .add (.loc "at") (.cI 1)))
    .nil)))) .nil)
    (.cons (.ite (.call "_law_takes" (.cons (.loc "token") .nil)) (.cons (.asg "at" (.call "_law_read_taken" (.cons (.loc "tokens") (.cons (.loc "at") (.cons (.loc "told") (.cons (.loc "holder") (.cons (.loc "mode") .nil)))))))
    .nil) (.cons (.ite (.and (.cmp .eq (.sub (.loc "token") (.cI 0)) (.cS "start")) (.cmp .inn (.sub (.loc "token") (.cI 1)) (.list (.cons (.cS "li") (.cons (.cS "div") .nil))))) (.cons (.expr (.meth (.loc "opens") "append" (.cons (.call "_law_add" (.cons (.loc "holder") (.cons (.cS "element") (.cons (.sub (.loc "token") (.cI 1)) (.cons (.sub (.loc "token") (.cI 2)) (.cons (.cS "") (.cons (.bin .add (.sub (.loc "holder") (.cI 5)) (.cI 1)) .nil))))))) .nil)))
    .nil) (.cons (.expr (.call "_law_add" (.cons (.loc "holder") (.cons (.cS "comment") (.cons (.cS "") (.cons (.tup .nil) (.cons (.bin .add (.cS "template, in template: ") (.call "_law_word" (.cons (.loc "token") .nil))) (.cons (.cI (-1)) .nil))))))))
    .nil))
    (.cons (.expr (.call "_law_slash" (.cons (.loc "told") (.cons (.loc "token") (.cons (.loc "mode") .nil)))))
    (.cons (.aug "at" .add (.cI 1))
    .nil))))
    .nil)))))
    (.cons (.expr (.call "_law_ran_out" (.cons (.loc "told") (.cons (.loc "mode") .nil))))
    (.cons (.ret (.loc "at"))
    .nil))))))))) }
noncomputable def f__law_read_taken : XFn := { params := ["tokens", "at", "told", "up", "mode"], dflts := [], body :=
    (.cons (.asg "token" (.sub (.loc "tokens") (.loc "at")))
    (.cons (.ite (.cmp .eq (.sub (.loc "token") (.cI 0)) (.cS "end")) (.cons (.expr (.meth (.sub (.loc "told") (.cS "errors")) "append" (.cons (.tup (.cons (.cS "unexpected-end-tag") (.cons (.loc "mode") .nil))) .nil)))
    (.cons (.ret (.bin .add (.loc "at") (.cI 1)))
    .nil)) .nil)
    (.cons (.ite (.cmp .inn (.sub (.loc "token") (.cI 1)) (.call "_law_voids" .nil)) (.cons (.expr (.call "_law_add" (.cons (.loc "up") (.cons (.cS "element") (.cons (.sub (.loc "token") (.cI 1)) (.cons (.sub (.loc "token") (.cI 2)) (.cons (.cS "") (.cons (.cI (-1)) .nil))))))))
    (.cons (.ret (.bin .add (.loc "at") (.cI 1)))
    .nil)) .nil)
    (.cons (.ite (.cmp .eq (.sub (.loc "token") (.cI 1)) (.cS "template")) (.cons (.ret (.call "_law_read_template" (.cons (.loc "tokens") (.cons (.loc "at") (.cons (.loc "told") (.cons (.loc "up") .nil))))))
    .nil) .nil)
    (.cons (.ret (.call "_law_read_raw" (.cons (.loc "tokens") (.cons (.loc "at") (.cons (.loc "told") (.cons (.loc "up") (.cons (.loc "mode") .nil)))))))
    .nil))))) }
noncomputable def f__law_is_passed : XFn := { params := ["token", "told", "up", "mode"], dflts := [], body :=
    (.cons (.ite (.and (.cmp .eq (.sub (.loc "token") (.cI 0)) (.cS "char")) (.cmp .inn (.sub (.loc "token") (.cI 1)) (.list (.cons (.cS " ") (.cons (.cS "\n") (.cons (.cS "\t") (.cons (.cS "\u000c") (.cons (.cS "\r") .nil)))))))) (.cons (.expr (.call "_law_add_sign" (.cons (.loc "up") (.cons (.sub (.loc "token") (.cI 1)) .nil))))
    .nil) (.cons (.ite (.cmp .eq (.sub (.loc "token") (.cI 0)) (.cS "comment")) (.cons (.expr (.call "_law_add" (.cons (.loc "up") (.cons (.cS "comment") (.cons (.cS "") (.cons (.tup .nil) (.cons (.sub (.loc "token") (.cI 1)) (.cons (.cI (-1)) .nil))))))))
    .nil) (.cons (.ite (.cmp .eq (.sub (.loc "token") (.cI 0)) (.cS "doctype")) (.cons (.expr (.meth (.sub (.loc "told") (.cS "errors")) "append" (.cons (.tup (.cons (.cS "unexpected-doctype") (.cons (.loc "mode") .nil))) .nil)))
    .nil) (.cons (.ite (.cmp .eq (.slice (.loc "token") (.cI 2)) (.tup (.cons (.cS "start") (.cons (.cS "html") .nil)))) (.cons (.expr (.call "_law_add" (.cons (.loc "up") (.cons (.cS "comment") (.cons (.cS "") (.cons (.tup .nil) (.cons (.bin .add (.bin .add (.cS "body, ") (.loc "mode")) (.cS ": start html")) (.cons (.cI (-1)) .nil))))))))
    .nil) (.cons (.ite (.cmp .eq (.slice (.loc "token") (.cI 2)) (.tup (.cons (.cS "start") (.cons (.cS "head") .nil)))) (.cons (.expr (.meth (.sub (.loc "told") (.cS "errors")) "append" (.cons (.tup (.cons (.cS "unexpected-start-tag") (.cons (.loc "mode") .nil))) .nil)))
    .nil) (.cons (.ret (.cB false))
    .nil))
    .nil))
    .nil))
    .nil))
    .nil))
    (.cons (.expr (.call "_law_slash" (.cons (.loc "told") (.cons (.loc "token") (.cons (.loc "mode") .nil)))))
    (.cons (.ret (.cB true))
    .nil))) }
noncomputable def f__law_read_noscript : XFn := { params := ["tokens", "at", "told", "up"], dflts := [], body :=
    (.cons (.asg "mode" (.cS "in head noscript"))
    (.cons (.asg "node" (.call "_law_add" (.cons (.loc "up") (.cons (.cS "element") (.cons (.cS "noscript") (.cons (.sub (.sub (.loc "tokens") (.loc "at")) (.cI 2)) (.cons (.cS "") (.cons (.bin .add (.sub (.loc "up") (.cI 5)) (.cI 1)) .nil))))))))
    (.cons (.expr (.call "_law_slash" (.cons (.loc "told") (.cons (.sub (.loc "tokens") (.loc "at")) (.cons (.loc "mode") .nil)))))
    (.cons (.aug "at" .add (.cI 1))
    (.cons (.whl (.cmp .lt (.loc "at") (.len (.loc "tokens"))) (.cons (.asg "token" (.sub (.loc "tokens") (.loc "at")))
    (.cons (.asg "kind" (.sub (.loc "token") (.cI 0)))
    (.cons (.ite (.and (.cmp .eq (.loc "kind") (.cS "start")) (.cmp .inn (.sub (.loc "token") (.cI 1)) (.list (.cons (.cS "basefont") (.cons (.cS "bgsound") (.cons (.cS "link") (.cons (.cS "meta") (.cons (.cS "noframes") (.cons (.cS "style") .nil))))))))) (.cons (.asg "at" (.call "_law_read_taken" (.cons (.loc "tokens") (.cons (.loc "at") (.cons (.loc "told") (.cons (.loc "node") (.cons (.loc "mode") .nil)))))))
    .nil) (.cons (.ite (.cmp .eq (.slice (.loc "token") (.cI 2)) (.tup (.cons (.cS "end") (.cons (.cS "noscript") .nil)))) (.cons (.asgS (.loc "node") (.cI 5) (.cI (-1)))
    (.cons (.ret (.bin .add (.loc "at") (.cI 1)))
    .nil)) (.cons (.ite (.call "_law_is_passed" (.cons (.loc "token") (.cons (.loc "told") (.cons (.loc "node") (.cons (.loc "mode") .nil))))) (.cons (.aug "at" .add (.cI 1))
    .nil) (.cons (.ite (.or (.cmp .eq (.slice (.loc "token") (.cI 2)) (.tup (.cons (.cS "start") (.cons (.cS "noscript") .nil)))) (.and (.cmp .eq (.loc "kind") (.cS "end")) (.cmp .ne (.sub (.loc "token") (.cI 1)) (.cS "br")))) (.cons (.expr (.meth (.sub (.loc "told") (.cS "errors")) "append" (.cons (.tup (.cons (.bin .add (.bin .add (.cS "unexpected-") (.loc "kind")) (.cS "-tag")) (.cons (.loc "mode") .nil))) .nil)))
    (.cons (.expr (.call "_law_slash" (.cons (.loc "told") (.cons (.loc "token") (.cons (.loc "mode") .nil)))))
    (.cons (.aug "at" .add (.cI 1))
    .nil))) (.cons (.asg "words" (.dict ["char", "eof"] (.cons (.cS "unexpected-text") (.cons (.cS "unexpected-eof") .nil))))
    (.cons (.expr (.meth (.sub (.loc "told") (.cS "errors")) "append" (.cons (.tup (.cons (.meth (.loc "words") "get" (.cons (.loc "kind") (.cons (.bin .add (.bin .add (.cS "unexpected-") (.loc "kind")) (.cS "-tag")) .nil))) (.cons (.loc "mode") .nil))) .nil)))
    (.cons (.asgS (.loc "node") (.cI 5) (.cI (-1)))
    (.cons (.ret (.loc "at"))
    .nil)))))
    .nil))
    .nil))
    .nil))
    .nil))))
    (.cons (.expr (.call "_law_ran_out" (.cons (.loc "told") (.cons (.loc "mode") .nil))))
    (.cons (.ret (.loc "at"))
    .nil))))))) }
noncomputable def f__law_read_head : XFn := { params := ["tokens", "told", "head", "is_scripting"], dflts := [], body :=
    (.cons (.asg "mode" (.cS "in head"))
    (.cons (.asg "at" (.cI 0))
    (.cons (.whl (.cmp .lt (.loc "at") (.len (.loc "tokens"))) (.cons (.asg "token" (.sub (.loc "tokens") (.loc "at")))
    (.cons (.ite (.call "_law_takes" (.cons (.loc "token") .nil)) (.cons (.asg "at" (.call "_law_read_taken" (.cons (.loc "tokens") (.cons (.loc "at") (.cons (.loc "told") (.cons (.loc "head") (.cons (.loc "mode") .nil)))))))
    .nil) (.cons (.ite (.and (.cmp .eq (.slice (.loc "token") (.cI 2)) (.tup (.cons (.cS "start") (.cons (.cS "noscript") .nil)))) (.loc "is_scripting")) (.cons (.asg "at" (.call "_law_read_raw" (.cons (.loc "tokens") (.cons (.loc "at") (.cons (.loc "told") (.cons (.loc "head") (.cons (.loc "mode") .nil)))))))
    .nil) (.cons (.ite (.cmp .eq (.slice (.loc "token") (.cI 2)) (.tup (.cons (.cS "start") (.cons (.cS "noscript") .nil)))) (.cons (.asg "at" (.call "_law_read_noscript" (.cons (.loc "tokens") (.cons (.loc "at") (.cons (.loc "told") (.cons (.loc "head") .nil))))))
    .nil) (.cons (.ite (.call "_law_is_passed" (.cons (.loc "token") (.cons (.loc "told") (.cons (.loc "head") (.cons (.loc "mode") .nil))))) (.cons (.aug "at" .add (.cI 1))
    .nil) (.cons (.ite (.and (.cmp .eq (.sub (.loc "token") (.cI 0)) (.cS "end")) (.cmp .notIn (.sub (.loc "token") (.cI 1)) (.list (.cons (.cS "head") (.cons (.cS "body") (.cons (.cS "html") (.cons (.cS "br") .nil))))))) (.cons (.expr (.meth (.sub (.loc "told") (.cS "errors")) "append" (.cons (.tup (.cons (.cS "unexpected-end-tag") (.cons (.loc "mode") .nil))) .nil)))
    (.cons (.aug "at" .add (.cI 1))
    .nil)) (.cons (.asgS (.loc "head") (.cI 5) (.cI (-1)))
    (.cons (.ret (.ife (.cmp .eq (.slice (.loc "token") (.cI 2)) (.tup (.cons (.cS "end") (.cons (.cS "head") .nil)))) (.bin .add (.loc "at") (.cI 1)) (.loc "at")))
    .nil)))
    .nil))
    .nil))
    .nil))
    .nil))
    .nil)))
    (.cons (.expr (.call "_law_ran_out" (.cons (.loc "told") (.cons (.loc "mode") .nil))))
    (.cons (.ret (.loc "at"))
    .nil))))) }
noncomputable def f__law_read_behind : XFn := { params := ["tokens", "at", "told", "root"], dflts := [], body :=
    (.cons (.whl (.cmp .lt (.loc "at") (.len (.loc "tokens"))) (.cons (.ite (.call "_law_takes" (.cons (.sub (.loc "tokens") (.loc "at")) .nil)) (.cons (.asg "at" (.call "_law_read_taken" (.cons (.loc "tokens") (.cons (.loc "at") (.cons (.loc "told") (.cons (.loc "root") (.cons (.cS "after head") .nil)))))))
    .nil) (.cons (.expr (.call "_law_add" (.cons (.loc "root") (.cons (.cS "comment") (.cons (.cS "") (.cons (.tup .nil) (.cons (.bin .add (.cS "after, after head: ") (.call "_law_word" (.cons (.sub (.loc "tokens") (.loc "at")) .nil))) (.cons (.cI (-1)) .nil))))))))
    (.cons (.expr (.call "_law_slash" (.cons (.loc "told") (.cons (.sub (.loc "tokens") (.loc "at")) (.cons (.cS "after head") .nil)))))
    (.cons (.aug "at" .add (.cI 1))
    .nil))))
    .nil))
    (.cons (.expr (.call "_law_ran_out" (.cons (.loc "told") (.cons (.cS "after head") .nil))))
    .nil)) }
noncomputable def f__law_plain : XFn := { params := ["builder", "node"], dflts := [], body :=
    (.cons (.asg "tree" (.attr (.loc "builder") "tree"))
    (.cons (.asgC "below" "child" ["builder"] (.sub (.attr (.loc "tree") "children") (.loc "node")) (.call "_law_plain" (.cons (.loc "builder") (.cons (.loc "child") .nil))))
    (.cons (.asg "contents" .cN)
    (.cons (.ite (.cmp .inn (.loc "node") (.attr (.loc "tree") "contents")) (.cons (.asgC "contents" "child" ["builder"] (.sub (.attr (.loc "tree") "children") (.sub (.attr (.loc "tree") "contents") (.loc "node"))) (.call "_law_plain" (.cons (.loc "builder") (.cons (.loc "child") .nil))))
    .nil) .nil)
    (.cons (.asg "row" (.list (.cons (.sub (.attr (.loc "tree") "kinds") (.loc "node")) (.cons (.sub (.attr (.loc "tree") "spaces") (.loc "node")) (.cons (.sub (.attr (.loc "tree") "names") (.loc "node")) (.cons (.sub (.attr (.loc "tree") "attrs") (.loc "node")) (.cons (.sub (.attr (.loc "tree") "texts") (.loc "node")) .nil)))))))
    (.cons (.ret (.bin .add (.loc "row") (.list (.cons (.meth (.attr (.loc "builder") "stack") "place" (.cons (.loc "node") .nil)) (.cons (.loc "below") (.cons (.loc "contents") .nil))))))
    .nil)))))) }
noncomputable def f__law_holds : XFn := { params := ["tokens", "is_scripting"], dflts := [], body :=
    (.cons (.asg "rules" (.call "head_rules" .nil))
    (.cons (.asgS (.loc "rules") (.cS "after head") (.glob "_law_after_head"))
    (.cons (.asgS (.loc "rules") (.cS "in template") (.glob "_law_in_template"))
    (.cons (.asgS (.loc "rules") (.cS "in body") (.glob "_law_in_body"))
    (.cons (.asg "builder" (.new "Builder" (.cons (.loc "rules") (.cons (.loc "is_scripting") .nil))))
    (.cons (.expr (.call "insert_element" (.cons (.loc "builder") (.cons (.cS "html") .nil))))
    (.cons (.asgA (.loc "builder") "head" (.call "insert_element" (.cons (.loc "builder") (.cons (.cS "head") .nil))))
    (.cons (.expr (.meth (.loc "builder") "to" (.cons (.cS "in head") .nil)))
    (.cons (.asg "wishes" (.list .nil))
    (.cons (.forR1 "at" (.len (.loc "tokens")) (.cons (.expr (.meth (.loc "builder") "feed" (.cons (.sub (.loc "tokens") (.loc "at")) .nil)))
    (.cons (.ite (.cmp .ne (.attr (.loc "builder") "wish") (.cS "")) (.cons (.expr (.meth (.loc "wishes") "append" (.cons (.tup (.cons (.loc "at") (.cons (.attr (.loc "builder") "wish") .nil))) .nil)))
    .nil) .nil)
    (.cons (.asgA (.loc "builder") "wish" (.cS ""))
    .nil))))
    (.cons (.asg "told" (.dict ["errors", "wishes", "original", "mode", "templates", "is_frameset_ok"] (.cons (.list .nil) (.cons (.list .nil) (.cons (.cS "") (.cons (.cS "") (.cons (.cI 0) (.cons (.cB true) .nil))))))))
    (.cons (.asg "top" (.list (.cons (.cS "document") (.cons (.cS "") (.cons (.cS "") (.cons (.list .nil) (.cons (.cS "") (.cons (.cI (-1)) (.cons (.list .nil) (.cons .cN .nil))))))))))
    (.cons (.asg "root" (.call "_law_add" (.cons (.loc "top") (.cons (.cS "element") (.cons (.cS "html") (.cons (.tup .nil) (.cons (.cS "") (.cons (.cI 0) .nil))))))))
    (.cons (.asg "head" (.call "_law_add" (.cons (.loc "root") (.cons (.cS "element") (.cons (.cS "head") (.cons (.tup .nil) (.cons (.cS "") (.cons (.cI 1) .nil))))))))
    (.cons (.asg "at" (.call "_law_read_head" (.cons (.loc "tokens") (.cons (.loc "told") (.cons (.loc "head") (.cons (.loc "is_scripting") .nil))))))
    (.cons (.ite (.cmp .eq (.sub (.loc "head") (.cI 5)) (.cI (-1))) (.cons (.expr (.call "_law_read_behind" (.cons (.loc "tokens") (.cons (.loc "at") (.cons (.loc "told") (.cons (.loc "root") .nil))))))
    .nil) .nil)
    (.cons (.ite (.or (.cmp .ne (.call "_law_plain" (.cons (.loc "builder") (.cons (.cI 0) .nil))) (.loc "top")) (.or (.cmp .ne (.attr (.loc "builder") "errors") (.sub (.loc "told") (.cS "errors"))) (.cmp .ne (.loc "wishes") (.sub (.loc "told") (.cS "wishes"))))) (.cons (.ret (.cB false))
    .nil) .nil)
    (.cons (.ite (.or (.cmp .ne (.attr (.loc "builder") "mode") (.sub (.loc "told") (.cS "mode"))) (.cmp .ne (.attr (.loc "builder") "original") (.sub (.loc "told") (.cS "original")))) (.cons (.ret (.cB false))
    .nil) .nil)
    (.cons (.ite (.or (.cmp .ne (.attr (.loc "builder") "modes") (.bin .mul (.list (.cons (.cS "in template") .nil)) (.sub (.loc "told") (.cS "templates")))) (.cmp .ne (.attr (.loc "builder") "is_frameset_ok") (.sub (.loc "told") (.cS "is_frameset_ok")))) (.cons (.ret (.cB false))
    .nil) .nil)
    (.cons (.asg "is_marked" (.cmp .eq (.attr (.attr (.loc "builder") "formatting") "items") (.bin .mul (.list (.cons (.cI (-1)) .nil)) (.sub (.loc "told") (.cS "templates")))))
    (.cons (.ret (.and (.loc "is_marked") (.cmp .eq (.attr (.loc "builder") "is_done") (.cmp .inn (.tup (.cons (.cS "eof") .nil)) (.loc "tokens")))))
    .nil))))))))))))))))))))) }
noncomputable def f_law : XFn := { params := ["script"], dflts := [], body :=
    (.cons (.asg "place" (.cI 0))
    (.cons (.forL "row" (.call "_law_rows" .nil) (.cons (.asg "is_scripting" (.cmp .eq (.bin .mod (.bin .add (.sub (.loc "row") (.cI 0)) (.call "_law_digit" (.cons (.loc "script") (.cons (.loc "place") .nil)))) (.cI 2)) (.cI 1)))
    (.cons (.asg "tokens" (.list .nil))
    (.cons (.forR2 "k" (.cI 1) (.len (.loc "row")) (.cons (.expr (.meth (.loc "tokens") "extend" (.cons (.call "_law_unit" (.cons (.bin .add (.sub (.loc "row") (.loc "k")) (.call "_law_digit" (.cons (.loc "script") (.cons (.bin .add (.loc "place") (.loc "k")) .nil)))) (.cons (.loc "is_scripting") .nil))) .nil)))
    .nil))
    (.cons (.ite (.cmp .inn (.tup (.cons (.cS "eof") .nil)) (.loc "tokens")) (.cons (.asg "tokens" (.slice (.loc "tokens") (.bin .add (.meth (.loc "tokens") "index" (.cons (.tup (.cons (.cS "eof") .nil)) .nil)) (.cI 1))))
    .nil) .nil)
    (.cons (.aug "place" .add (.len (.loc "row")))
    (.cons (.ite (.not (.call "_law_holds" (.cons (.loc "tokens") (.cons (.loc "is_scripting") .nil)))) (.cons (.ret (.cB false))
    .nil) .nil)
    .nil)))))))
    (.cons (.ret (.cB true))
    .nil))) }
noncomputable def progT : List (String × XFn) := [("is_space", f_is_space), ("is_table_part", f_is_table_part), ("implied_names", f_implied_names), ("all_implied_names", f_all_implied_names), ("place_for", f_place_for), ("insert_sign", f_insert_sign), ("insert_comment", f_insert_comment), ("make", f_make), ("insert_element", f_insert_element), ("insert_token", f_insert_token), ("insert_void", f_insert_void), ("associate", f_associate), ("start_raw", f_start_raw), ("OpenStack.__init__", f_OpenStack_init), ("OpenStack.push", f_OpenStack_push), ("OpenStack.pop", f_OpenStack_pop), ("OpenStack.current", f_OpenStack_current), ("OpenStack.many", f_OpenStack_many), ("OpenStack.place", f_OpenStack_place), ("OpenStack.name", f_OpenStack_name), ("OpenStack.has_name", f_OpenStack_has_name), ("OpenStack.pop_until", f_OpenStack_pop_until), ("pop_all_implied", f_pop_all_implied), ("mode_of", f_mode_of), ("mode_for", f_mode_for), ("reset_mode", f_reset_mode), ("open_template", f_open_template), ("leave_template", f_leave_template), ("close_template", f_close_template), ("is_space_token", f_is_space_token), ("raw_state", f_raw_state), ("leave", f_leave), ("start_in_head", f_start_in_head), ("end_in_head", f_end_in_head), ("in_head", f_in_head), ("is_for_head", f_is_for_head), ("unexpected", f_unexpected), ("is_passed_over", f_is_passed_over), ("in_head_noscript", f_in_head_noscript), ("text_mode", f_text_mode), ("head_rules", f_head_rules), ("Formatting.__init__", f_Formatting_init), ("Formatting.mark", f_Formatting_mark), ("Formatting.clear_to_mark", f_Formatting_clear_to_mark), ("Tree.__init__", f_Tree_init), ("Tree.add", f_Tree_add), ("Tree.element", f_Tree_element), ("Tree.text", f_Tree_text), ("Tree.comment", f_Tree_comment), ("Tree.insert", f_Tree_insert), ("Tree.remove", f_Tree_remove), ("Tree.last", f_Tree_last), ("Tree.is_html", f_Tree_is_html), ("above", f_above), ("Builder.__init__", f_Builder_init), ("Builder.error", f_Builder_error), ("Builder.to", f_Builder_to), ("Builder.use", f_Builder_use), ("Builder.process", f_Builder_process), ("Builder.feed", f_Builder_feed), ("Builder.adjusted", f_Builder_adjusted), ("Builder.is_foreign", f_Builder_is_foreign), ("is_html_turn", f_is_html_turn), ("_law_digit", f__law_digit), ("_law_rows", f__law_rows), ("_law_voids", f__law_voids), ("_law_start", f__law_start), ("_law_raw_unit", f__law_raw_unit), ("_law_unit", f__law_unit), ("_law_takes", f__law_takes), ("_law_word", f__law_word), ("_law_after_head", f__law_after_head), ("_law_in_template", f__law_in_template), ("_law_in_body", f__law_in_body), ("_law_below", f__law_below), ("_law_add", f__law_add), ("_law_add_sign", f__law_add_sign), ("_law_slash", f__law_slash), ("_law_ran_out", f__law_ran_out), ("_law_read_raw", f__law_read_raw), ("_law_read_template", f__law_read_template), ("_law_read_taken", f__law_read_taken), ("_law_is_passed", f__law_is_passed), ("_law_read_noscript", f__law_read_noscript), ("_law_read_head", f__law_read_head), ("_law_read_behind", f__law_read_behind), ("_law_plain", f__law_plain), ("_law_holds", f__law_holds), ("law", f_law)]
noncomputable def progM : List (String × String × String) := [("OpenStack.__init__", "OpenStack", "__init__"), ("OpenStack.push", "OpenStack", "push"), ("OpenStack.pop", "OpenStack", "pop"), ("OpenStack.current", "OpenStack", "current"), ("OpenStack.many", "OpenStack", "many"), ("OpenStack.place", "OpenStack", "place"), ("OpenStack.name", "OpenStack", "name"), ("OpenStack.has_name", "OpenStack", "has_name"), ("OpenStack.pop_until", "OpenStack", "pop_until"), ("Formatting.__init__", "Formatting", "__init__"), ("Formatting.mark", "Formatting", "mark"), ("Formatting.clear_to_mark", "Formatting", "clear_to_mark"), ("Tree.__init__", "Tree", "__init__"), ("Tree.add", "Tree", "add"), ("Tree.element", "Tree", "element"), ("Tree.text", "Tree", "text"), ("Tree.comment", "Tree", "comment"), ("Tree.insert", "Tree", "insert"), ("Tree.remove", "Tree", "remove"), ("Tree.last", "Tree", "last"), ("Tree.is_html", "Tree", "is_html"), ("Builder.__init__", "Builder", "__init__"), ("Builder.error", "Builder", "error"), ("Builder.to", "Builder", "to"), ("Builder.use", "Builder", "use"), ("Builder.process", "Builder", "process"), ("Builder.feed", "Builder", "feed"), ("Builder.adjusted", "Builder", "adjusted"), ("Builder.is_foreign", "Builder", "is_foreign")]
noncomputable def gsL : List String := ["_law_add", "_law_add_sign", "_law_after_head", "_law_below", "_law_digit", "_law_holds", "_law_in_body", "_law_in_template", "_law_is_passed", "_law_plain", "_law_ran_out", "_law_raw_unit", "_law_read_behind", "_law_read_head", "_law_read_noscript", "_law_read_raw", "_law_read_taken", "_law_read_template", "_law_rows", "_law_slash", "_law_start", "_law_takes", "_law_unit", "_law_voids", "_law_word", "above", "all_implied_names", "associate", "close_template", "end_in_head", "foster_place", "head_rules", "implied_names", "in_head", "in_head_noscript", "insert_comment", "insert_element", "insert_sign", "insert_token", "insert_void", "is_for_head", "is_html_point", "is_html_turn", "is_math_point", "is_passed_over", "is_space", "is_space_token", "is_table_part", "law", "leave", "leave_template", "make", "mode_for", "mode_of", "open_template", "place_for", "pop_all_implied", "raw_state", "reset_mode", "select_mode", "start_in_head", "start_raw", "text_mode", "unexpected"]
noncomputable def csL : List String := ["OpenStack", "Formatting", "Tree", "Builder"]
noncomputable def asL : List String := ["attrs", "children", "contents", "context", "errors", "form", "formatting", "head", "is_acknowledged", "is_done", "is_foster", "is_frameset_ok", "is_scripting", "is_skipping", "items", "kinds", "mode", "modes", "names", "original", "owners", "parents", "pending", "quirks", "rules", "spaces", "stack", "texts", "tree", "wish"]
noncomputable def msL : List String := ["add", "adjusted", "append", "clear_to_mark", "comment", "current", "element", "error", "extend", "feed", "get", "has_name", "index", "insert", "is_foreign", "is_html", "last", "many", "mark", "name", "place", "pop", "pop_until", "process", "push", "remove", "text", "to", "use", "value"]
end Mine
end

section
set_option maxRecDepth 100000
namespace Mine
open PySem
noncomputable abbrev S (x : String) : Str := Str.ofString x
noncomputable def isNm (n : Str) (x : String) : Bool := n == S x
theorem isNm_eq {n : Str} {x : String} (h : isNm n x = true) : n = S x := eq_of_beq h
noncomputable abbrev Sc := List (Str × NameKind)
noncomputable def kindIn (sc : Sc) (x : String) : Option NameKind := sc.lookup (S x)
noncomputable def dE : Expr := .Name Str.empty default
noncomputable def tag (e : Expr) (n : Nat) : Bool := Nat.beq e.ctorIdx n
noncomputable def eL (e : Expr) : Expr := by
  cases e with
  | BinOp a _ _ _ => exact a
  | UnaryOp _ a _ => exact a
  | IfExp a _ _ _ => exact a
  | Compare a _ _ _ => exact a
  | Call a _ _ _ => exact a
  | Attribute a _ _ => exact a
  | Subscript a _ _ => exact a
  | ListComp a _ _ _ => exact a
  | _ => exact dE
noncomputable def eM (e : Expr) : Expr := by
  cases e with
  | BinOp _ _ a _ => exact a
  | IfExp _ a _ _ => exact a
  | Subscript _ a _ => exact a
  | Slice _ b _ _ => exact b.getD dE
  | _ => exact dE
noncomputable def eR (e : Expr) : Expr := by
  cases e with
  | IfExp _ _ a _ => exact a
  | _ => exact dE
noncomputable def eXs (e : Expr) : List Expr := by
  cases e with
  | BoolOp _ a _ => exact a
  | Compare _ _ a _ => exact a
  | Call _ a _ _ => exact a
  | List a _ => exact a
  | Tuple a _ _ => exact a
  | Dict _ a _ => exact a
  | _ => exact []
noncomputable def eStr (e : Expr) : Str := by
  cases e with
  | Attribute _ a _ => exact a
  | Name a _ => exact a
  | _ => exact Str.empty
noncomputable def ePos (e : Expr) : Pos := by
  cases e with
  | BoolOp _ _ p => exact p
  | Name _ p => exact p
  | Attribute _ _ p => exact p
  | Call _ _ _ p => exact p
  | ListComp _ _ _ p => exact p
  | _ => exact default
noncomputable def eConst (e : Expr) : Const := by
  cases e with
  | Constant c _ _ => exact c
  | _ => exact .none
noncomputable def eKeys (e : Expr) : List (Option Expr) := by
  cases e with
  | Dict a _ _ => exact a
  | _ => exact []
noncomputable def eOp (e : Expr) (n : Nat) : Bool := by
  cases e with
  | BoolOp o _ _ => exact Nat.beq o.ctorIdx n
  | UnaryOp o _ _ => exact Nat.beq o.ctorIdx n
  | Call _ _ k _ => exact k.isEmpty
  | Slice a b c _ => exact a.isNone && b.isSome && c.isNone
  | ListComp _ g _ _ => exact g.length == 1 && g.all fun c => tag c.target 23 && c.ifs.isEmpty && c.is_async == 0
  | _ => exact true
noncomputable def eCo (e : Expr) (c : CmpOp) : Bool := by
  cases e with
  | Compare _ o _ _ => exact o == [c]
  | _ => exact true
noncomputable def eBo (e : Expr) (c : Operator) : Bool := by
  cases e with
  | BinOp _ o _ _ => exact o == c
  | _ => exact true
noncomputable def eScope (e : Expr) : Sc := by
  cases e with
  | ListComp _ _ s _ => exact s.names
  | _ => exact []
noncomputable def eKind (e : Expr) : Bool := by
  cases e with
  | ListComp _ _ s _ => exact s.kind == .function
  | _ => exact true
noncomputable def eGen (e : Expr) : Expr × Expr := by
  cases e with
  | ListComp _ g _ _ => exact match g with
    | c :: _ => (c.target, c.iter)
    | [] => (dE, dE)
  | _ => exact (dE, dE)
theorem bif_use {b : Bool} {p : Prop} (h : b = true) (x : bif b then p else True) : p := by subst h; exact x
section
variable {e : Expr}
theorem inv0 (h : tag e 0 = true) : ∃ o vs p, e = .BoolOp o vs p := bif_use h (by cases e <;> first | exact trivial | exact ⟨_, _, _, rfl⟩)
theorem inv2 (h : tag e 2 = true) : ∃ l o r p, e = .BinOp l o r p := bif_use h (by cases e <;> first | exact trivial | exact ⟨_, _, _, _, rfl⟩)
theorem inv3 (h : tag e 3 = true) : ∃ o v p, e = .UnaryOp o v p := bif_use h (by cases e <;> first | exact trivial | exact ⟨_, _, _, rfl⟩)
theorem inv5 (h : tag e 5 = true) : ∃ t b o p, e = .IfExp t b o p := bif_use h (by cases e <;> first | exact trivial | exact ⟨_, _, _, _, rfl⟩)
theorem inv6 (h : tag e 6 = true) : ∃ ks vs p, e = .Dict ks vs p := bif_use h (by cases e <;> first | exact trivial | exact ⟨_, _, _, rfl⟩)
theorem inv8 (h : tag e 8 = true) : ∃ x g s p, e = .ListComp x g s p := bif_use h (by cases e <;> first | exact trivial | exact ⟨_, _, _, _, rfl⟩)
theorem inv15 (h : tag e 15 = true) : ∃ l o r p, e = .Compare l o r p := bif_use h (by cases e <;> first | exact trivial | exact ⟨_, _, _, _, rfl⟩)
theorem inv16 (h : tag e 16 = true) : ∃ f a k p, e = .Call f a k p := bif_use h (by cases e <;> first | exact trivial | exact ⟨_, _, _, _, rfl⟩)
theorem inv19 (h : tag e 19 = true) : ∃ c k p, e = .Constant c k p := bif_use h (by cases e <;> first | exact trivial | exact ⟨_, _, _, rfl⟩)
theorem inv20 (h : tag e 20 = true) : ∃ o a p, e = .Attribute o a p := bif_use h (by cases e <;> first | exact trivial | exact ⟨_, _, _, rfl⟩)
theorem inv21 (h : tag e 21 = true) : ∃ o i p, e = .Subscript o i p := bif_use h (by cases e <;> first | exact trivial | exact ⟨_, _, _, rfl⟩)
theorem inv23 (h : tag e 23 = true) : ∃ i p, e = .Name i p := bif_use h (by cases e <;> first | exact trivial | exact ⟨_, _, rfl⟩)
theorem inv24 (h : tag e 24 = true) : ∃ xs p, e = .List xs p := bif_use h (by cases e <;> first | exact trivial | exact ⟨_, _, rfl⟩)
theorem inv25 (h : tag e 25 = true) : ∃ xs k p, e = .Tuple xs k p := bif_use h (by cases e <;> first | exact trivial | exact ⟨_, _, _, rfl⟩)
theorem inv26 (h : tag e 26 = true) : ∃ a b c p, e = .Slice a b c p := bif_use h (by cases e <;> first | exact trivial | exact ⟨_, _, _, _, rfl⟩)
end
theorem an {a b : Bool} (h : (a && b) = true) : a = true ∧ b = true := (Bool.and_eq_true a b).mp h
theorem an3 {a b c : Bool} (h : (a && (b && c)) = true) : a = true ∧ b = true ∧ c = true := ⟨(an h).1, an (an h).2⟩
theorem an4 {a b c d : Bool} (h : (a && (b && (c && d))) = true) : a = true ∧ b = true ∧ c = true ∧ d = true := ⟨(an h).1, an3 (an h).2⟩
theorem an5 {a b c d e : Bool} (h : (a && (b && (c && (d && e)))) = true) : a = true ∧ b = true ∧ c = true ∧ d = true ∧ e = true := ⟨(an h).1, an4 (an h).2⟩
noncomputable def plainName (x : String) : Bool := !(S x == ("__debug__" : Str))
noncomputable def chkLoc (sc : Sc) (x : String) : Bool := plainName x && (!(S x == ("__classdict__" : Str)) && (kindIn sc x == some .local || (kindIn sc x == some .cell || kindIn sc x == some .free)))
noncomputable def chkGlob (sc : Sc) (x : String) : Bool := plainName x && kindIn sc x == some .globalImplicit
noncomputable def notSuper (e : Expr) : Bool := !(tag e 16 && (eXs e).isEmpty && tag (eL e) 23)
noncomputable def notStar (e : Expr) : Bool := !tag e 22
noncomputable def notSlice (e : Expr) : Bool := !tag e 26
noncomputable def notSet (e : Expr) : Bool := !tag e 7
noncomputable def notComp (e : Expr) : Bool := !tag e 8 && (!tag e 9 && !tag e 10)
noncomputable def opOf (n : Nat) : CmpOp := [CmpOp.Eq, .NotEq, .Lt, .LtE, .Gt, .GtE, .In, .NotIn].getD n .Is
noncomputable def binOf (n : Nat) : Operator := [Operator.Add, .Sub, .Mult, .FloorDiv, .Mod].getD n .Pow
noncomputable def hdx (l : List Expr) : Expr := l.headD dE
noncomputable def row (l : List Expr) : Expr := .Tuple l 0 default
noncomputable def relab (sc inner : Sc) : Sc := inner.map fun q => bif q.2 == .free && sc.lookup q.1 == some .cell then (q.1, .cell) else q
noncomputable def chkCells (sc inner : Sc) : Bool := inner.all fun p => bif p.2 == .local then inner.lookup p.1 == some .local else bif p.2 == .free then sc.lookup p.1 == some .cell else p.2 == .globalImplicit
noncomputable def isKey (k : String) (o : Option Expr) : Bool := tag (o.getD dE) 19 && (eConst (o.getD dE) == .str (S k) && o.isSome)
noncomputable def chkKs (ks : List String) : List (Option Expr) → Bool := ks.rec (fun l => l.isEmpty) fun k _ ih l => isKey k (l.headD none) && ih l.tail
noncomputable def nm (e : Expr) (s : String) : Bool := tag e 23 && isNm (eStr e) s
noncomputable def chkA (k : Nat) (i : Int) (s : String) (sc : Sc) (e : Expr) : Bool :=
  bif k == 0 then tag e 19 && eConst e == .none else
  bif k == 1 then tag e 19 && eConst e == .bool true else
  bif k == 2 then tag e 19 && eConst e == .bool false else
  bif k == 3 then (tag e 19 && eConst e == .int i) || (tag e 3 && (eOp e 3 && (tag (eL e) 19 && eConst (eL e) == .int (-i)))) else
  bif k == 4 then tag e 19 && eConst e == .str (S s) else
  bif k == 5 then nm e s && chkLoc sc s else
  bif k == 6 then nm e s && (chkGlob sc s && gsL.contains s) else
  bif k == 7 then tag e 6 && ((eKeys e).isEmpty && (eXs e).isEmpty) else
  bif k == 8 then tag e 25 && (eXs e).isEmpty else k == 9
noncomputable def chkCall (e : Expr) (s : String) : Bool := tag e 16 && (eOp e 0 && nm (eL e) s)
noncomputable def chkU (k : Nat) (s : String) (l : List String) (ih : Sc → Expr → Bool) (sc : Sc) (e : Expr) : Bool :=
  bif k == 0 then tag e 25 && ih sc (row (eXs e)) else
  bif k == 1 then tag e 24 && ih sc (row (eXs e)) else
  bif k == 2 then tag e 6 && (chkKs l (eKeys e) && ih sc (row (eXs e))) else
  bif k == 3 then tag e 3 && (eOp e 1 && ih sc (eL e)) else
  bif k == 4 then tag e 15 && (eCo e .IsNot && ((eXs e).length == 1 && (tag (hdx (eXs e)) 19 && (eConst (hdx (eXs e)) == .none && ih sc (eL e))))) else
  bif k == 5 then tag e 15 && (eCo e .Is && ((eXs e).length == 1 && (tag (hdx (eXs e)) 19 && (eConst (hdx (eXs e)) == .none && ih sc (eL e))))) else
  bif k == 6 then chkCall e s && (chkGlob sc s && (gsL.contains s && ih sc (row (eXs e)))) else
  bif k == 7 then chkCall e s && (chkLoc sc s && ih sc (row (eXs e))) else
  bif k == 8 then chkCall e s && (chkGlob sc s && (csL.contains s && ih sc (row (eXs e)))) else
  bif k == 9 then chkCall e "len" && (chkGlob sc "len" && ((eXs e).length == 1 && (notStar (hdx (eXs e)) && ih sc (hdx (eXs e))))) else
  bif k == 10 then chkCall e "list" && (chkGlob sc "list" && ((eXs e).length == 1 && (notStar (hdx (eXs e)) && ih sc (hdx (eXs e))))) else
  k == 11 && (tag e 20 && (isNm (eStr e) s && (asL.contains s && (notSuper (eL e) && ih sc (eL e)))))
noncomputable def chkB (k : Nat) (s : String) (l : List String) (ix iy : Sc → Expr → Bool) (sc : Sc) (e : Expr) : Bool :=
  bif k == 0 then tag e 25 && (!(eXs e).isEmpty && (notStar (hdx (eXs e)) && (ix sc (hdx (eXs e)) && iy sc (row (eXs e).tail)))) else
  bif k == 1 then tag e 0 && (eOp e 0 && (Nat.ble 2 (eXs e).length && (ix sc (hdx (eXs e)) && iy sc (bif (eXs e).tail.tail.isEmpty then hdx (eXs e).tail else .BoolOp .And (eXs e).tail (ePos e))))) else
  bif k == 2 then tag e 0 && (eOp e 1 && (Nat.ble 2 (eXs e).length && (ix sc (hdx (eXs e)) && iy sc (bif (eXs e).tail.tail.isEmpty then hdx (eXs e).tail else .BoolOp .Or (eXs e).tail (ePos e))))) else
  bif k == 3 then tag e 5 && (ix sc (eL e) && iy sc (row [eM e, eR e])) else
  bif k == 4 then tag e 16 && (eOp e 0 && (tag (eL e) 20 && (isNm (eStr (eL e)) s && (msL.contains s && (notSuper (eL (eL e)) && (ix sc (eL (eL e)) && (iy sc (row (eXs e)) && (Nat.ble (eXs e).length 20 && (ePos (eL e)).endLine == (ePos e).line)))))))) else
  bif k == 5 then tag e 21 && (ix sc (eL e) && (iy sc (eM e) && notSlice (eM e))) else
  bif k == 6 then tag e 21 && (tag (eM e) 26 && (eOp (eM e) 0 && (tag (eL e) 23 && (ix sc (eL e) && iy sc (eM (eM e)))))) else
  bif k == 7 then tag e 8 && (eOp e 0 && (isNm (eStr (eGen e).1) s && (eKind e && (kindIn (eScope e) s == some .local && (ix sc (eGen e).2 && (iy (relab sc (eScope e)) (eL e) && (notSet (eGen e).2 && (chkCells sc (eScope e) && l.all fun c => kindIn (relab sc (eScope e)) c == some .cell)))))))) else
  bif Nat.blt k 20 then tag e 2 && (eBo e (binOf (k - 10)) && (ix sc (eL e) && iy sc (eM e))) else
  tag e 15 && (eCo e (opOf (k - 20)) && ((eXs e).length == 1 && (ix sc (eL e) && (iy sc (hdx (eXs e)) && notSet (hdx (eXs e))))))
noncomputable def chk (x : XE) : Sc → Expr → Bool := x.rec chkA (fun k s l _ ih => chkU k s l ih) fun k s l _ _ ix iy => chkB k s l ix iy
end Mine
end

section
set_option maxRecDepth 100000
namespace Mine
open PySem PySem.W PySem.Calls PyProof.Rows
theorem S_inj {a b : String} (h : S a = S b) : a = b := by
  unfold S at h
  rw [Str.ofString_eq_toList, Str.ofString_eq_toList] at h
  have h1 : (a.toList.map Char.toNat) = (b.toList.map Char.toNat) := by
    have := congrArg Str.cps h
    simpa using congrArg Array.toList this
  apply String.toList_injective
  have inj : ∀ (l m : List Char), l.map Char.toNat = m.map Char.toNat → l = m := by
    intro l
    induction l with
    | nil => intro m h; cases m with | nil => rfl | cons => simp at h
    | cons c l ih =>
      intro m h
      cases m with
      | nil => simp at h
      | cons c' m =>
        simp only [List.map_cons, List.cons.injEq] at h
        rw [ih m h.2]
        congr 1
        exact Char.ext (UInt32.toNat_inj.mp h.1)
  exact inj _ _ h1
theorem S_append (a b : String) : S (a ++ b) = S a ++ S b := by
  unfold S
  rw [Str.ofString_eq_toList, Str.ofString_eq_toList, Str.ofString_eq_toList]
  show _ = Str.append _ _
  simp [Str.append, String.toList_append]
theorem S_length (a : String) : (S a).length = a.length := by
  unfold S
  rw [Str.ofString_eq_toList]
  simp [Str.length, String.length_toList]
structure XC where
  prog : Program
  w : World
  K : Frag
  h₀ : Heap
  fa : String → Option Addr
  ca : String → Option Addr
structure Lay where
  a : Nat → Nat → Addr
  d : Nat → Nat → Addr
inductive All2 {α β : Type} (R : α → β → Prop) : List α → List β → Prop
  | nil : All2 R [] []
  | cons {a b l m} : R a b → All2 R l m → All2 R (a :: l) (b :: m)
namespace All2
variable {α β : Type} {R R' : α → β → Prop}
theorem mono (h : ∀ a b, R a b → R' a b) {l m} (x : All2 R l m) : All2 R' l m := by
  induction x with
  | nil => exact .nil
  | cons a _ ih => exact .cons (h _ _ a) ih
theorem length {l : List α} {m : List β} (x : All2 R l m) : l.length = m.length := by
  induction x with
  | nil => rfl
  | cons _ _ ih => exact congrArg (· + 1) ih
theorem elem {l : List α} {m : List β} (x : All2 R l m) : ∀ {k : Nat} {a b}, l[k]? = some a → m[k]? = some b → R a b := by
  induction x with
  | nil => intro k a b e; cases e
  | cons p _ ih =>
    intro k a b e f
    cases k with
    | zero => cases e; cases f; exact p
    | succ k => exact ih e f
theorem get {l : List α} {m : List β} (x : All2 R l m) {k : Nat} {b : β} (e : m[k]? = some b) : ∃ a, l[k]? = some a ∧ R a b := by
  have h : k < l.length := by rw [x.length]; exact (List.getElem?_eq_some_iff.mp e).1
  exact ⟨_, List.getElem?_eq_getElem h, x.elem (List.getElem?_eq_getElem h) e⟩
theorem of : ∀ {l : List α} {m : List β}, l.length = m.length → (∀ (k : Nat) a b, l[k]? = some a → m[k]? = some b → R a b) → All2 R l m := by
  intro l
  induction l with
  | nil => intro m e _; cases m with
    | nil => exact .nil
    | cons => cases e
  | cons a l ih => intro m e h; cases m with
    | nil => cases e
    | cons b m => exact .cons (h 0 a b rfl rfl) (ih (Nat.succ.inj e) fun k => h (k + 1))
theorem append {l l' : List α} {m m' : List β} (x : All2 R l m) (y : All2 R l' m') : All2 R (l ++ l') (m ++ m') := by
  induction x with
  | nil => exact y
  | cons a _ ih => exact .cons a ih
theorem take {l : List α} {m : List β} (x : All2 R l m) : ∀ k, All2 R (l.take k) (m.take k) := by
  induction x with
  | nil => intro k; rw [List.take_nil, List.take_nil]; exact .nil
  | cons a _ ih => intro k; cases k with
    | zero => exact .nil
    | succ k => exact .cons a (ih k)
theorem drop {l : List α} {m : List β} (x : All2 R l m) : ∀ k, All2 R (l.drop k) (m.drop k) := by
  induction x with
  | nil => intro k; rw [List.drop_nil, List.drop_nil]; exact .nil
  | cons a r ih => intro k; cases k with
    | zero => exact .cons a r
    | succ k => exact ih k
theorem nil_iff {l : List α} {m : List β} (x : All2 R l m) : (l = [] ↔ m = []) := by
  cases x with
  | nil => exact ⟨fun _ => rfl, fun _ => rfl⟩
  | cons => exact ⟨fun h => (nomatch h), fun h => (nomatch h)⟩
theorem replicate (n : Nat) {l : List α} {m : List β} (h : All2 R l m) : All2 R (List.replicate n l).flatten (List.replicate n m).flatten := by
  induction n with
  | zero => exact .nil
  | succ n ih => exact h.append ih
end All2
inductive VR (C : XC) (φ : Lay) (st : XSt) (h : Heap) : Value → XVal → Prop
  | none : VR C φ st h .none .none
  | bool (b) : VR C φ st h (.bool b) (.bool b)
  | int (i t) : VR C φ st h (.int i t) (.int i)
  | str (s t) : VR C φ st h (.str (S s) t) (.str s)
  | tup_ {a items n xs} : IsT h a items n → items.toList.length = xs.length → (∀ (k : Nat) v x, items.toList[k]? = some v → xs[k]? = some x → VR C φ st h v x) → VR C φ st h (.ref a) (.tup xs)
  | ref {r i} : i < (st r).length → VR C φ st h (.ref (φ.a r i)) (.ref r i)
  | fn {f a} : C.fa f = some a → VR C φ st h (.ref a) (.fn f)
  | scr {l vs ns} : C.h₀.IsList l vs.toArray → IntsAre vs ns → ns.length ≤ LIM → VR C φ st h (.ref l) (.scr ns)
theorem VR.tup {C : XC} {φ : Lay} {st : XSt} {h : Heap} {a items n xs} (t : IsT h a items n) (x : All2 (VR C φ st h) items.toList xs) : VR C φ st h (.ref a) (.tup xs) := .tup_ t x.length fun _ _ _ e f => x.elem e f
noncomputable def OR (C : XC) (φ : Lay) (st : XSt) (h : Heap) (a d : Addr) : XObj → Prop
  | .list xs => ∃ items n, IsL h a items n ∧ All2 (VR C φ st h) items.toList xs ∧ xs.length ≤ LIM
  | .sdict es => ∃ kvs, h.DictOf (strKind C.prog C.w) a kvs ∧ All2 (fun kv e => kv.1 = S e.1 ∧ VR C φ st h kv.2 e.2) kvs es
  | .idict es => ∃ kvs, h.DictOf (intKind C.prog C.w) a kvs ∧ All2 (fun kv e => kv.1 = e.1 ∧ VR C φ st h kv.2 e.2) kvs es
  | .inst c fs => ∃ k es n, C.ca c = some k ∧ h.get? a = some (instObj k d) ∧ h.get? d = some (dictOf es n) ∧
      All2 (fun e f => (∃ t, e.key = .str (S f.1) t) ∧ VR C φ st h e.val f.2) es fs
noncomputable abbrev Place := Nat × Nat × Bool
noncomputable def Live (st : XSt) (k : Place) : Prop := match k with
  | (r, i, true) => ∃ c fs, (st r)[i]? = some (.inst c fs)
  | (r, i, false) => i < (st r).length
noncomputable def adr (φ : Lay) (k : Place) : Addr := match k with
  | (r, i, true) => φ.d r i
  | (r, i, false) => φ.a r i
noncomputable def Own (φ : Lay) (st : XSt) (b : Addr) : Prop := ∃ k, Live st k ∧ adr φ k = b
structure Wd (C : XC) (φ : Lay) (st : XSt) (h : Heap) : Prop where
  rel : ∀ r i o, (st r)[i]? = some o → OR C φ st h (φ.a r i) (φ.d r i) o
  inj : ∀ k k', Live st k → Live st k' → adr φ k = adr φ k' → k = k'
  low : ∀ k, Live st k → C.h₀.objs.size ≤ adr φ k
  base : ∀ b o, C.h₀.get? b = some o → h.get? b = some o
  size : C.h₀.objs.size ≤ h.objs.size
structure Ev (φ : Lay) (st : XSt) (h : Heap) (φ' : Lay) (st' : XSt) (h' : Heap) (ex : List Addr) : Prop where
  ext : ∀ k, Live st k → adr φ' k = adr φ k
  live : ∀ k, Live st k → Live st' k
  keep : ∀ b o, b ∉ ex → ¬ Own φ st b → h.get? b = some o → h'.get? b = some o
  new : ∀ k, Live st' k → ¬ Live st k → h.objs.size ≤ adr φ' k
  size : h.objs.size ≤ h'.objs.size
noncomputable def ExOk (C : XC) (h : Heap) (ex : List Addr) : Prop := ∀ b ∈ ex, C.h₀.objs.size ≤ b ∧ ∀ o, h.get? b = some o → (o.cls ≠ .type "tuple" ∨ ∀ items n, o.data ≠ .seq items n) ∧ ∀ v, o.data ≠ .cell v
theorem ExOk.nil {C : XC} {h : Heap} : ExOk C h [] := fun _ hb => nomatch hb
section
variable {C : XC} {φ φ' φ'' : Lay} {st st' st'' : XSt} {h h' h'' : Heap} {ex ex' : List Addr}
theorem Ev.refl : Ev φ st h φ st h ex := ⟨fun _ _ => rfl, fun _ x => x, fun _ _ _ _ e => e, fun _ a b => (b a).elim, Nat.le_refl _⟩
theorem Ev.own (e : Ev φ st h φ' st' h' ex) {b : Addr} {o : Obj} (hb : h.get? b = some o) (n : ¬ Own φ st b) : ¬ Own φ' st' b := by
  rintro ⟨k, hk, rfl⟩
  by_cases q : Live st k
  · exact n ⟨k, q, (e.ext k q).symm⟩
  · exact absurd (Nat.lt_of_lt_of_le (Heap.lt_size hb) (e.new k hk q)) (Nat.lt_irrefl _)
theorem Ev.trans (e : Ev φ st h φ' st' h' ex) (e' : Ev φ' st' h' φ'' st'' h'' ex) : Ev φ st h φ'' st'' h'' ex := by
  refine ⟨fun k q => (e'.ext k (e.live k q)).trans (e.ext k q), fun k q => e'.live k (e.live k q), fun b o nx n hb => e'.keep b o nx (e.own hb n) (e.keep b o nx n hb), fun k q n => ?_, Nat.le_trans e.size e'.size⟩
  by_cases q' : Live st' k
  · rw [e'.ext k q']; exact e.new k q' n
  · exact Nat.le_trans e.size (e'.new k q q')
theorem Ev.weaken (e : Ev φ st h φ' st' h' ex) (hx : ∀ b ∈ ex, b ∈ ex') : Ev φ st h φ' st' h' ex' :=
  ⟨e.ext, e.live, fun b o nx n hb => e.keep b o (fun q => nx (hx b q)) n hb, e.new, e.size⟩
theorem Ev.drop (e : Ev φ st h φ' st' h' ex) (hx : ∀ b ∈ ex, b ∈ ex' ∨ h.objs.size ≤ b) : Ev φ st h φ' st' h' ex' :=
  ⟨e.ext, e.live, fun b o nx n hb => e.keep b o (fun q => (hx b q).elim nx fun z => absurd (Nat.lt_of_lt_of_le (Heap.lt_size hb) z) (Nat.lt_irrefl _)) n hb, e.new, e.size⟩
theorem OR.at {a d : Addr} {o : XObj} (x : OR C φ st h a d o) : ∃ ob, h.get? a = some ob ∧ ob.cls ≠ .type "tuple" := by
  cases o with
  | list xs => obtain ⟨items, n, hl, _⟩ := x; exact ⟨_, hl, by simp⟩
  | sdict es => obtain ⟨kvs, ⟨o, es, ep, ho, ⟨hc, _⟩, _⟩, _⟩ := x; exact ⟨o, ho, by rw [hc]; simp⟩
  | idict es => obtain ⟨kvs, ⟨o, es, ep, ho, ⟨hc, _⟩, _⟩, _⟩ := x; exact ⟨o, ho, by rw [hc]; simp⟩
  | inst c fs => obtain ⟨k, es, n, _, ha, _⟩ := x; exact ⟨_, ha, by simp [instObj]⟩
theorem OR.dict {a d : Addr} {c : String} {fs} (x : OR C φ st h a d (.inst c fs)) : ∃ ob, h.get? d = some ob ∧ ob.cls ≠ .type "tuple" := by
  obtain ⟨k, es, n, _, _, hd, _⟩ := x; exact ⟨_, hd, by simp [dictOf]⟩
theorem Wd.at (W : Wd C φ st h) {k : Place} (hk : Live st k) : ∃ ob, h.get? (adr φ k) = some ob ∧ ob.cls ≠ .type "tuple" := by
  obtain ⟨r, i, b⟩ := k
  cases b with
  | true => obtain ⟨c, fs, q⟩ := hk; exact OR.dict (W.rel r i _ q)
  | false =>
    have q : (st r)[i]? = some ((st r)[i]'hk) := List.getElem?_eq_getElem hk
    exact OR.at (W.rel r i _ q)
theorem Wd.tuple (W : Wd C φ st h) {a : Addr} {items n} (ht : IsT h a items n) : ¬ Own φ st a := by
  rintro ⟨k, hk, rfl⟩
  obtain ⟨ob, h1, h2⟩ := W.at hk
  rw [show h.get? (adr φ k) = _ from ht] at h1
  cases h1; exact h2 rfl
theorem Wd.ofBase (W : Wd C φ st h) {a : Addr} {o : Obj} (ha : C.h₀.get? a = some o) : ¬ Own φ st a := by
  rintro ⟨k, hk, rfl⟩
  exact absurd (Nat.lt_of_lt_of_le (Heap.lt_size ha) (W.low k hk)) (Nat.lt_irrefl _)
theorem Wd.live_lt (W : Wd C φ st h) {k : Place} (hk : Live st k) : adr φ k < h.objs.size := let ⟨_, a, _⟩ := W.at hk; Heap.lt_size a
theorem VR.move (ht : ∀ a items n, IsT h a items n → IsT h' a items n) (he : ∀ k, Live st k → adr φ' k = adr φ k) (hl : ∀ k, Live st k → Live st' k) {v : Value} {x : XVal} (q : VR C φ st h v x) : VR C φ' st' h' v x := by
  induction q with
  | none => exact .none
  | bool b => exact .bool b
  | int i t => exact .int i t
  | str s t => exact .str s t
  | tup_ h1 hl _ ih => exact .tup_ (ht _ _ _ h1) hl ih
  | @ref r i hi =>
    rw [show φ.a r i = φ'.a r i from (he (r, i, false) hi).symm]
    exact .ref (hl (r, i, false) hi)
  | fn hf => exact .fn hf
  | scr hl hi hn => exact .scr hl hi hn
theorem VR.mono (W : Wd C φ st h) (X : ExOk C h ex) (e : Ev φ st h φ' st' h' ex) {v : Value} {x : XVal} (q : VR C φ st h v x) : VR C φ' st' h' v x :=
  q.move (fun _ _ _ ht => e.keep _ _ (fun q => ((X _ q).2 _ ht).1.elim (fun z => z rfl) (fun z => z _ _ rfl)) (W.tuple ht) ht) e.ext e.live
theorem VR.mono2 (W : Wd C φ st h) (X : ExOk C h ex) (e : Ev φ st h φ' st' h' ex) {v : List Value} {x : List XVal} (q : All2 (VR C φ st h) v x) : All2 (VR C φ' st' h') v x := q.mono fun _ _ => VR.mono W X e
theorem All2.rel {α β : Type} {R R' : α → β → Prop} (h : ∀ a b, R a b → R' a b) {l m} (x : All2 R l m) : All2 R' l m := x.mono h
theorem OR.map (f : ∀ v x, VR C φ st h v x → VR C φ' st' h' v x) {a d : Addr} {o : XObj} (ha : h'.get? a = h.get? a) (hd : (∃ c fs, o = .inst c fs) → h'.get? d = h.get? d) (x : OR C φ st h a d o) : OR C φ' st' h' a d o := by
  cases o with
  | list xs => obtain ⟨items, n, hl, hv, hn⟩ := x; exact ⟨items, n, ha.trans hl, hv.mono f, hn⟩
  | sdict es => obtain ⟨kvs, ⟨o, es', ep, ho, r⟩, hv⟩ := x; exact ⟨kvs, ⟨o, es', ep, ha.trans ho, r⟩, hv.mono fun _ _ q => ⟨q.1, f _ _ q.2⟩⟩
  | idict es => obtain ⟨kvs, ⟨o, es', ep, ho, r⟩, hv⟩ := x; exact ⟨kvs, ⟨o, es', ep, ha.trans ho, r⟩, hv.mono fun _ _ q => ⟨q.1, f _ _ q.2⟩⟩
  | inst c fs => obtain ⟨k, es, n, hk, h1, h2, hv⟩ := x; exact ⟨k, es, n, hk, ha.trans h1, (hd ⟨c, fs, rfl⟩).trans h2, hv.mono fun _ _ q => ⟨q.1, f _ _ q.2⟩⟩
theorem OR.mono (W : Wd C φ st h) (X : ExOk C h ex) (e : Ev φ st h φ' st' h' ex) {a d : Addr} {o : XObj} (ha : h'.get? a = h.get? a) (hd : (∃ c fs, o = .inst c fs) → h'.get? d = h.get? d) (x : OR C φ st h a d o) :
    OR C φ' st' h' a d o := x.map (fun _ _ => VR.mono W X e) ha hd
theorem Wd.quiet (W : Wd C φ st h) (X : ExOk C h ex) (hx : ∀ b ∈ ex, ¬ Own φ st b) (hk : ∀ b o, b ∉ ex → h.get? b = some o → h'.get? b = some o) (hsz : h.objs.size ≤ h'.objs.size) :
    Wd C φ st h' ∧ Ev φ st h φ st h' ex := by
  have e : Ev φ st h φ st h' ex := ⟨fun _ _ => rfl, fun _ q => q, fun b o nx _ hb => hk b o nx hb, fun k a b => (b a).elim, hsz⟩
  refine ⟨⟨fun r i o q => ?_, W.inj, W.low, fun b o hb => ?_, Nat.le_trans W.size hsz⟩, e⟩
  · have at_ : ∀ k, Live st k → h'.get? (adr φ k) = h.get? (adr φ k) := by
      intro k hk'
      obtain ⟨ob, h1, _⟩ := W.at hk'
      rw [h1]; exact hk _ _ (fun q => hx _ q ⟨k, hk', rfl⟩) h1
    refine OR.mono W X e ?_ ?_ (W.rel r i o q)
    · exact at_ (r, i, false) (by show i < (st r).length; exact (List.getElem?_eq_some_iff.mp q).1)
    · rintro ⟨c, fs, rfl⟩; exact at_ (r, i, true) ⟨c, fs, q⟩
  · exact hk b o (fun q => absurd (Nat.lt_of_lt_of_le (Heap.lt_size hb) (X b q).1) (Nat.lt_irrefl _)) (W.base b o hb)
theorem Wd.more (W : Wd C φ st h) (hk : ∀ b o, h.get? b = some o → h'.get? b = some o) (hsz : h.objs.size ≤ h'.objs.size) : Wd C φ st h' ∧ Ev φ st h φ st h' [] :=
  W.quiet ExOk.nil (fun _ q => nomatch q) (fun b o _ => hk b o) hsz
theorem Wd.push (W : Wd C φ st h) (o : Obj) : Wd C φ st (h.push o) ∧ Ev φ st h φ st (h.push o) [] := W.more (fun _ _ e => Heap.get?_push_of_some _ e) (by simp)
noncomputable def isI (o : XObj) : Bool := o.casesOn (fun _ => false) (fun _ => false) (fun _ => false) fun _ _ => true
theorem isI_inst {o : XObj} (h : isI o = true) : ∃ c fs, o = .inst c fs := by
  cases o with
  | inst c fs => exact ⟨c, fs, rfl⟩
  | _ => exact absurd h Bool.false_ne_true
noncomputable abbrev Alike (o o' : XObj) : Prop := isI o = isI o'
theorem Alike.inst {o o' : XObj} (x : Alike o o') : (∃ c fs, o = .inst c fs) ↔ ∃ c fs, o' = .inst c fs :=
  ⟨fun ⟨c, fs, e⟩ => isI_inst (x.symm.trans (by rw [e]; rfl)), fun ⟨c, fs, e⟩ => isI_inst (x.trans (by rw [e]; rfl))⟩
theorem set_live {r i : Nat} {o o' : XObj} (q : (st r)[i]? = some o) (al : Alike o o') (k : Place) : Live (st.set r i o') k ↔ Live st k := by
  obtain ⟨r', j, b⟩ := k
  have hlen : ((st.set r i o') r').length = (st r').length := by unfold XSt.set; split <;> simp_all
  cases b with
  | false => show j < _ ↔ j < _; rw [hlen]
  | true =>
    show (∃ c fs, ((st.set r i o') r')[j]? = some (.inst c fs)) ↔ ∃ c fs, (st r')[j]? = some (.inst c fs)
    unfold XSt.set
    split
    · rename_i e
      subst e
      by_cases hj : j = i
      · subst hj
        have hi := (List.getElem?_eq_some_iff.mp q).1
        rw [List.getElem?_set_self hi, q]
        have := al.inst
        constructor
        · rintro ⟨c, fs, z⟩; cases z; obtain ⟨c', fs', z'⟩ := this.mpr ⟨_, _, rfl⟩; exact ⟨c', fs', by rw [z']⟩
        · rintro ⟨c, fs, z⟩; cases z; obtain ⟨c', fs', z'⟩ := this.mp ⟨_, _, rfl⟩; exact ⟨c', fs', by rw [z']⟩
      · rw [List.getElem?_set_ne (fun z => hj z.symm)]
    · exact Iff.rfl
theorem Wd.upd (W : Wd C φ st h) {r i : Nat} {o o' : XObj} (q : (st r)[i]? = some o) (al : Alike o o') {β : Addr} (hβ : β = φ.a r i ∨ ((∃ c fs, o = .inst c fs) ∧ β = φ.d r i))
    (hs : Heap.SameBut β h h') (hn : ∀ e : Ev φ st h φ (st.set r i o') h' [], OR C φ (st.set r i o') h' (φ.a r i) (φ.d r i) o') : Wd C φ (st.set r i o') h' ∧ Ev φ st h φ (st.set r i o') h' [] := by
  have hi := (List.getElem?_eq_some_iff.mp q).1
  have lv := set_live (st := st) q al
  have own : ∃ k, Live st k ∧ adr φ k = β ∧ k.1 = r ∧ k.2.1 = i := by
    rcases hβ with z | ⟨⟨c, fs, z'⟩, z⟩
    · exact ⟨(r, i, false), hi, z.symm, rfl, rfl⟩
    · exact ⟨(r, i, true), ⟨c, fs, by rw [← z']; exact q⟩, z.symm, rfl, rfl⟩
  obtain ⟨k₀, hk₀, e₀, er, ei⟩ := own
  have e : Ev φ st h φ (st.set r i o') h' [] := ⟨fun _ _ => rfl, fun k z => (lv k).mpr z, fun b ob _ n hb => (hs.2 b fun z => n ⟨k₀, hk₀, e₀.trans z.symm⟩).trans hb, fun k a b => (b ((lv k).mp a)).elim, Nat.le_of_eq hs.1.symm⟩
  refine ⟨⟨fun r' j ob z => ?_, fun k k' a b => W.inj k k' ((lv k).mp a) ((lv k').mp b), fun k a => W.low k ((lv k).mp a), fun b ob hb => ?_, Nat.le_trans W.size e.size⟩, e⟩
  · by_cases hr : r' = r ∧ j = i
    · obtain ⟨rfl, rfl⟩ := hr
      have : ob = o' := by
        unfold XSt.set at z
        rw [if_pos rfl, List.getElem?_set_self hi] at z
        exact (Option.some.inj z).symm
      subst this
      exact hn e
    · have z' : (st r')[j]? = some ob := by
        unfold XSt.set at z
        split at z
        · rename_i e1
          subst e1
          rw [List.getElem?_set_ne (fun w => hr ⟨rfl, w.symm⟩)] at z
          exact z
        · exact z
      have at_ : ∀ b, Live st (r', j, b) → h'.get? (adr φ (r', j, b)) = h.get? (adr φ (r', j, b)) := fun b hb => hs.2 _ fun w => by
        have := W.inj _ _ hb hk₀ (w.trans e₀.symm)
        rw [← this] at er ei
        exact hr ⟨er, ei⟩
      refine OR.mono W ExOk.nil e ?_ ?_ (W.rel r' j ob z')
      · exact at_ false (List.getElem?_eq_some_iff.mp z').1
      · rintro ⟨c, fs, rfl⟩; exact at_ true ⟨c, fs, z'⟩
  · refine (hs.2 b fun z => ?_).trans (W.base b ob hb)
    exact W.ofBase hb ⟨k₀, hk₀, e₀.trans z.symm⟩
noncomputable def Lay.put (φ : Lay) (r i : Nat) (a d : Addr) : Lay := ⟨fun q j => if q = r ∧ j = i then a else φ.a q j, fun q j => if q = r ∧ j = i then d else φ.d q j⟩
theorem Lay.put_a (φ : Lay) (r i : Nat) (a d : Addr) : (φ.put r i a d).a r i = a := by simp [Lay.put]
theorem Lay.put_d (φ : Lay) (r i : Nat) (a d : Addr) : (φ.put r i a d).d r i = d := by simp [Lay.put]
theorem push_get {st : XSt} {r r' : Nat} {o : XObj} {j : Nat} : (st.push r o r')[j]? = if r' = r ∧ j = (st r).length then some o else (st r')[j]? := by
  unfold XSt.push
  by_cases e : r' = r
  · subst e
    simp only [if_true, true_and]
    by_cases hj : j = (st r').length
    · subst hj; simp
    · rw [if_neg hj]
      by_cases hlt : j < (st r').length
      · rw [List.getElem?_append_left hlt]
      · rw [List.getElem?_append_right (by omega)]
        rw [List.getElem?_eq_none (by simp; omega), List.getElem?_eq_none (by omega)]
  · simp [e]
theorem push_live {r : Nat} {o : XObj} {k : Place} : Live (st.push r o) k ↔ Live st k ∨ (k.1 = r ∧ k.2.1 = (st r).length ∧ (k.2.2 = true → isI o = true)) := by
  obtain ⟨r', j, b⟩ := k
  cases b with
  | true =>
    show (∃ c fs, (st.push r o r')[j]? = some (.inst c fs)) ↔ _
    rw [push_get]
    split
    · rename_i q
      refine ⟨fun ⟨c, fs, e⟩ => .inr ⟨q.1, q.2, fun _ => by cases e; rfl⟩, fun e => ?_⟩
      rcases e with ⟨c, fs, e⟩ | ⟨_, _, e⟩
      · rw [q.1, q.2] at e; exact absurd (List.getElem?_eq_some_iff.mp e).1 (Nat.lt_irrefl _)
      · obtain ⟨c, fs, e⟩ := isI_inst (e rfl); exact ⟨c, fs, congrArg some e⟩
    · rename_i q
      exact ⟨.inl, fun e => e.elim id fun e => (q ⟨e.1, e.2.1⟩).elim⟩
  | false =>
    show j < (st.push r o r').length ↔ j < (st r').length ∨ _
    unfold XSt.push
    by_cases e : r' = r
    · subst e
      rw [if_pos rfl, List.length_append]
      refine ⟨fun h => (Nat.lt_succ_iff_lt_or_eq.mp h).imp id fun h => ⟨rfl, h, fun z => nomatch z⟩, fun h => Nat.lt_succ_iff_lt_or_eq.mpr (h.imp id fun h => h.2.1)⟩
    · rw [if_neg e]
      exact ⟨.inl, fun h => h.elim id fun h => (e h.1).elim⟩
theorem old_ne {k : Place} {r : Nat} (h : Live st k) : ¬ (k.1 = r ∧ k.2.1 = (st r).length) := by
  obtain ⟨r', j, b⟩ := k
  rintro ⟨e1, e2⟩
  have e1 : r' = r := e1
  have e2 : j = (st r).length := e2
  subst e1
  subst e2
  cases b with
  | true => obtain ⟨c, fs, e⟩ := h; exact absurd (List.getElem?_eq_some_iff.mp e).1 (Nat.lt_irrefl _)
  | false => exact absurd (show _ < _ from h) (Nat.lt_irrefl _)
theorem adr_put {k : Place} {r n : Nat} {a d : Addr} : adr (φ.put r n a d) k = if k.1 = r ∧ k.2.1 = n then (if k.2.2 = true then d else a) else adr φ k := by
  obtain ⟨r', j, b⟩ := k
  cases b <;> rfl
theorem Wd.adopt (W : Wd C φ st h) {r : Nat} {o : XObj} {a d : Addr} (ha : C.h₀.objs.size ≤ a) (hn : ¬ Own φ st a) (hi : isI o = true → C.h₀.objs.size ≤ d ∧ ¬ Own φ st d ∧ a ≠ d)
    (ho : (∀ v x, VR C φ st h v x → VR C (φ.put r (st r).length a d) (st.push r o) h v x) → OR C (φ.put r (st r).length a d) (st.push r o) h a d o) :
    Wd C (φ.put r (st r).length a d) (st.push r o) h ∧ (∀ {h₁ : Heap} {φ₁ st₁ ex}, h₁.objs.size ≤ a → (isI o = true → h₁.objs.size ≤ d) → Ev φ₁ st₁ h₁ φ st h ex → Ev φ₁ st₁ h₁ (φ.put r (st r).length a d) (st.push r o) h ex) ∧
    ∀ b, b ≠ a → (isI o = true → b ≠ d) → ¬ Own φ st b → ¬ Own (φ.put r (st r).length a d) (st.push r o) b := by
  have eo : ∀ k, Live st k → adr (φ.put r (st r).length a d) k = adr φ k := fun k hk => by rw [adr_put, if_neg (old_ne hk)]
  have en : ∀ k : Place, k.1 = r ∧ k.2.1 = (st r).length ∧ (k.2.2 = true → isI o = true) → (adr (φ.put r (st r).length a d) k = a ∧ k.2.2 = false) ∨ (adr (φ.put r (st r).length a d) k = d ∧ k.2.2 = true ∧ isI o = true) := fun k hk => by
    rw [adr_put, if_pos ⟨hk.1, hk.2.1⟩]
    cases q : k.2.2 with
    | true => exact .inr ⟨if_pos rfl, rfl, hk.2.2 q⟩
    | false => exact .inl ⟨if_neg Bool.false_ne_true, rfl⟩
  have hl : ∀ k, Live st k → Live (st.push r o) k := fun k hk => push_live.mpr (.inl hk)
  have mv : ∀ v x, VR C φ st h v x → VR C (φ.put r (st r).length a d) (st.push r o) h v x := fun _ _ q => q.move (fun _ _ _ t => t) eo hl
  have off : ∀ k k' : Place, Live st k → (k'.1 = r ∧ k'.2.1 = (st r).length ∧ (k'.2.2 = true → isI o = true)) → adr (φ.put r (st r).length a d) k ≠ adr (φ.put r (st r).length a d) k' := fun k k' h1 h2 e => by
    rw [eo k h1] at e
    rcases en k' h2 with q | q
    · exact hn ⟨k, h1, e.trans q.1⟩
    · exact (hi q.2.2).2.1 ⟨k, h1, e.trans q.1⟩
  refine ⟨⟨fun r' j ob z => ?_, fun k k' x y w => ?_, fun k x => ?_, W.base, W.size⟩, fun {h₁ φ₁ st₁ ex} z1 z2 e => ⟨fun k q => (eo k (e.live k q)).trans (e.ext k q), fun k q => hl k (e.live k q), e.keep, fun k x n => ?_, e.size⟩, fun b h1 h2 h3 => ?_⟩
  · rw [push_get] at z
    split at z
    · rename_i q
      obtain ⟨rfl, rfl⟩ := q
      cases z
      rw [Lay.put_a, Lay.put_d]; exact ho mv
    · rename_i n
      rw [show (φ.put r (st r).length a d).a r' j = φ.a r' j from if_neg n, show (φ.put r (st r).length a d).d r' j = φ.d r' j from if_neg n]
      exact (W.rel r' j ob z).map mv rfl fun _ => rfl
  · rcases push_live.mp x with x | x <;> rcases push_live.mp y with y | y
    · rw [eo k x, eo k' y] at w; exact W.inj _ _ x y w
    · exact (off k k' x y w).elim
    · exact (off k' k y x w.symm).elim
    · have : k.2.2 = k'.2.2 := by
        rcases en k x with p | p <;> rcases en k' y with q | q
        · rw [p.2, q.2]
        · exact absurd (p.1.symm.trans (w.trans q.1)) (hi q.2.2).2.2
        · exact absurd (q.1.symm.trans (w.symm.trans p.1)) (hi p.2.2).2.2
        · rw [p.2.1, q.2.1]
      exact Prod.ext (x.1.trans y.1.symm) (Prod.ext (x.2.1.trans y.2.1.symm) this)
  · rcases push_live.mp x with x | x
    · rw [eo k x]; exact W.low k x
    · rcases en k x with q | q
      · rw [q.1]; exact ha
      · rw [q.1]; exact (hi q.2.2).1
  · rcases push_live.mp x with x | x
    · rw [eo k x]; exact e.new k x n
    · rcases en k x with q | q
      · rw [q.1]; exact z1
      · rw [q.1]; exact z2 q.2.2
  · rintro ⟨k, hk, e⟩
    rcases push_live.mp hk with x | x
    · exact h3 ⟨k, x, (eo k x).symm.trans e⟩
    · rcases en k x with q | q
      · exact h1 (e.symm.trans q.1)
      · exact h2 q.2.2 (e.symm.trans q.1)
theorem Wd.fresh (W : Wd C φ st h) {a : Addr} (ha : h.objs.size ≤ a) : ¬ Own φ st a := fun ⟨_, hk, e⟩ => absurd (Nat.lt_of_lt_of_le (W.live_lt hk) (e ▸ ha)) (Nat.lt_irrefl _)
theorem Wd.grow (W : Wd C φ st h) {r : Nat} {o : XObj} {a d : Addr} (hk : ∀ b o, h.get? b = some o → h'.get? b = some o) (hsz : h.objs.size ≤ h'.objs.size) (ha : h.objs.size ≤ a) (hd : isI o = true → h.objs.size ≤ d ∧ a ≠ d)
    (hn : (∀ v x, VR C φ st h v x → VR C (φ.put r (st r).length a d) (st.push r o) h' v x) → OR C (φ.put r (st r).length a d) (st.push r o) h' a d o) :
    Wd C (φ.put r (st r).length a d) (st.push r o) h' ∧ Ev φ st h (φ.put r (st r).length a d) (st.push r o) h' [] := by
  obtain ⟨W', e⟩ := W.more hk hsz
  have no : ∀ {b}, h.objs.size ≤ b → ¬ Own φ st b := W.fresh
  obtain ⟨W2, e2, _⟩ := W'.adopt (r := r) (o := o) (a := a) (d := d) (Nat.le_trans W.size ha) (no ha) (fun z => ⟨Nat.le_trans W.size (hd z).1, no (hd z).1, (hd z).2⟩) fun f => hn fun v x q => f v x (VR.mono W ExOk.nil e q)
  exact ⟨W2, e2 ha (fun z => (hd z).1) e⟩
end
end Mine
end

section
set_option maxRecDepth 100000
namespace Mine
open PySem PySem.W PySem.Calls PyProof.Rows PySem.SeqAt
structure Post (C : XC) (φ : Lay) (st : XSt) (s : Shared) (ex : List Addr) (φ' : Lay) (st' : XSt) (s' : Shared) : Prop where
  same : ∃ h t, s' = { s with heap := h, toks := t }
  wd : Wd C φ' st' s'.heap
  ev : Ev φ st s.heap φ' st' s'.heap ex
noncomputable def Got (C : XC) (φ : Lay) (st : XSt) (s : Shared) (st' : XSt) (x : XVal) (y : Value) (s' : Shared) : Prop := ∃ φ', Post C φ st s [] φ' st' s' ∧ VR C φ' st' s'.heap y x
inductive InR (st : XSt) : XVal → Prop
  | none : InR st .none
  | bool (b) : InR st (.bool b)
  | int (i) : InR st (.int i)
  | str (s) : InR st (.str s)
  | tup {xs} : (∀ x ∈ xs, InR st x) → InR st (.tup xs)
  | ref {r i} : i < (st r).length → InR st (.ref r i)
  | fn (f) : InR st (.fn f)
  | scr (ns) : InR st (.scr ns)
noncomputable def XObj.vals (o : XObj) : List XVal := o.casesOn (fun xs => xs) (fun es => es.map (·.2)) (fun es => es.map (·.2)) fun _ fs => fs.map (·.2)
noncomputable def InO (st : XSt) (o : XObj) : Prop := ∀ x ∈ o.vals, InR st x
noncomputable abbrev XSt.nil : XSt := fun _ => []
structure Drop (st st1 st2 : XSt) (v : XVal) : Prop where
  part : ∀ q, st2 q = st1 q ∨ (st q = [] ∧ st2 q = [])
  clean : ∀ q, st2 q = st q ∨ ∀ o ∈ st2 q, InO XSt.nil o
  val : InR XSt.nil v
section
variable {C : XC} {φ φ' φ'' : Lay} {st st' st'' st1 st2 : XSt} {s s' s'' : Shared} {A : Around} {E : Value → Shared → Prop} {ex : List Addr} {h : Heap}
theorem VR.ref_inv {v : Value} {r i} (x : VR C φ st h v (.ref r i)) : v = .ref (φ.a r i) ∧ i < (st r).length := by cases x with | ref hi => exact ⟨rfl, hi⟩
theorem VR.tup_inv {v : Value} {xs} (x : VR C φ st h v (.tup xs)) : ∃ a items n, v = .ref a ∧ IsT h a items n ∧ All2 (VR C φ st h) items.toList xs := by
  cases x with | tup_ ht hl hs => exact ⟨_, _, _, rfl, ht, .of hl hs⟩
theorem VR.int_inv {v : Value} {i} (x : VR C φ st h v (.int i)) : ∃ t, v = .int i t := by cases x with | int _ t => exact ⟨t, rfl⟩
theorem VR.str_inv {v : Value} {i} (x : VR C φ st h v (.str i)) : ∃ t, v = .str (S i) t := by cases x with | str _ t => exact ⟨t, rfl⟩
theorem VR.bool_inv {v : Value} {i} (x : VR C φ st h v (.bool i)) : v = .bool i := by cases x with | bool => rfl
theorem VR.none_inv {v : Value} (x : VR C φ st h v .none) : v = .none := by cases x with | none => rfl
theorem isL_of {a items n} (x : IsL h a items n) : h.IsList a items := ⟨_, x, rfl, _, rfl⟩
theorem isT_of {a items n} (x : IsT h a items n) : h.IsTuple a items := ⟨_, x, rfl, _, rfl⟩
theorem InR.mono (hl : ∀ r, (st r).length ≤ (st2 r).length) {x : XVal} (q : InR st x) : InR st2 x := by
  induction q with
  | none => exact .none
  | bool b => exact .bool b
  | int i => exact .int i
  | str s => exact .str s
  | tup _ ih => exact .tup ih
  | @ref r i hi => exact .ref (Nat.lt_of_lt_of_le hi (hl r))
  | fn f => exact .fn f
  | scr n => exact .scr n
theorem VR.inR {v : Value} {x : XVal} (q : VR C φ st h v x) : InR st x := by
  induction q with
  | none => exact .none
  | bool b => exact .bool b
  | int i t => exact .int i
  | str s t => exact .str s
  | @tup_ a items n xs ht hl _ ih =>
    refine .tup fun x hx => ?_
    obtain ⟨k, hk, rfl⟩ := List.mem_iff_getElem.mp hx
    exact ih k _ _ (List.getElem?_eq_getElem (hl ▸ hk)) (List.getElem?_eq_getElem hk)
  | ref hi => exact .ref hi
  | fn => exact .fn _
  | scr => exact .scr _
theorem VR.re {v : Value} {x : XVal} (q : VR C φ st h v x) : InR st2 x → VR C φ st2 h v x := by
  induction q with
  | none => exact fun _ => .none
  | bool b => exact fun _ => .bool b
  | int i t => exact fun _ => .int i t
  | str s t => exact fun _ => .str s t
  | @tup_ a items n xs ht hl _ ih =>
    intro z
    cases z with
    | tup z => exact .tup_ ht hl fun k v x e f => ih k v x e f (z x (List.mem_of_getElem? f))
  | ref => intro z; cases z with | ref hi => exact .ref hi
  | fn hf => exact fun _ => .fn hf
  | scr a b c => exact fun _ => .scr a b c
theorem All2.re {α β : Type} {R R' : α → β → Prop} {l : List α} {m : List β} (x : All2 R l m) : (∀ b ∈ m, ∀ a, R a b → R' a b) → All2 R' l m := by
  induction x with
  | nil => exact fun _ => .nil
  | cons p _ ih => exact fun f => .cons (f _ (.head _) _ p) (ih fun b hb => f b (.tail _ hb))
theorem All2.all {α β : Type} {R : α → β → Prop} {P : β → Prop} {l : List α} {m : List β} (x : All2 R l m) (f : ∀ a b, R a b → P b) : ∀ b ∈ m, P b := by
  induction x with
  | nil => exact fun _ hb => nomatch hb
  | cons p _ ih =>
    intro b hb
    rcases List.mem_cons.mp hb with e | e
    · exact e ▸ f _ _ p
    · exact ih b e
theorem OR.inO {a d : Addr} {o : XObj} (x : OR C φ st h a d o) : InO st o := by
  cases o with
  | list xs => obtain ⟨items, n, _, hv, _⟩ := x; exact hv.all fun _ _ q => q.inR
  | sdict es => obtain ⟨_, _, hv⟩ := x; exact fun y hy => let ⟨p, h1, h2⟩ := List.mem_map.mp hy; h2 ▸ hv.all (P := fun p => InR st p.2) (fun _ _ q => q.2.inR) p h1
  | idict es => obtain ⟨_, _, hv⟩ := x; exact fun y hy => let ⟨p, h1, h2⟩ := List.mem_map.mp hy; h2 ▸ hv.all (P := fun p => InR st p.2) (fun _ _ q => q.2.inR) p h1
  | inst c fs => obtain ⟨_, _, _, _, _, _, hv⟩ := x; exact fun y hy => let ⟨p, h1, h2⟩ := List.mem_map.mp hy; h2 ▸ hv.all (P := fun p => InR st p.2) (fun _ _ q => q.2.inR) p h1
theorem OR.re {a d : Addr} {o : XObj} (x : OR C φ st h a d o) (z : InO st2 o) : OR C φ st2 h a d o := by
  cases o with
  | list xs => obtain ⟨items, n, hl, hv, hn⟩ := x; exact ⟨items, n, hl, hv.re fun b hb _ q => q.re (z b hb), hn⟩
  | sdict es => obtain ⟨kvs, hd, hv⟩ := x; exact ⟨kvs, hd, hv.re fun b hb _ q => ⟨q.1, q.2.re (z _ (List.mem_map_of_mem hb))⟩⟩
  | idict es => obtain ⟨kvs, hd, hv⟩ := x; exact ⟨kvs, hd, hv.re fun b hb _ q => ⟨q.1, q.2.re (z _ (List.mem_map_of_mem hb))⟩⟩
  | inst c fs => obtain ⟨k, es, n, hk, h1, h2, hv⟩ := x; exact ⟨k, es, n, hk, h1, h2, hv.re fun b hb _ q => ⟨q.1, q.2.re (z _ (List.mem_map_of_mem hb))⟩⟩
theorem Drop.sub {v : XVal} (D : Drop st st1 st2 v) {q i : Nat} {o : XObj} (e : (st2 q)[i]? = some o) : (st1 q)[i]? = some o := by
  rcases D.part q with z | z
  · rw [← z]; exact e
  · rw [z.2] at e; cases e
theorem Drop.live {v : XVal} (D : Drop st st1 st2 v) {k : Place} (h : Live st2 k) : Live st1 k := by
  obtain ⟨r, i, b⟩ := k
  cases b with
  | true => obtain ⟨c, fs, e⟩ := h; exact ⟨c, fs, D.sub e⟩
  | false => exact (List.getElem?_eq_some_iff.mp (D.sub (List.getElem?_eq_getElem (show i < (st2 r).length from h)))).1
theorem Drop.post {v : XVal} (D : Drop st st1 st2 v) (W : Wd C φ st s.heap) (P : Post C φ st s ex φ' st1 s') : Post C φ st s ex φ' st2 s' := by
  have keep : ∀ k, Live st k → Live st2 k := by
    rintro ⟨r, i, b⟩ hk
    have h1 := P.ev.live _ hk
    rcases D.part r with z | z
    · cases b with
      | true => obtain ⟨c, fs, e⟩ := h1; exact ⟨c, fs, by rw [z]; exact e⟩
      | false => show i < (st2 r).length; rw [z]; exact h1
    · exfalso
      cases b with
      | true => obtain ⟨c, fs, e⟩ := hk; rw [z.1] at e; cases e
      | false => have hk : i < (st r).length := hk; rw [z.1] at hk; exact absurd hk (Nat.not_lt_zero _)
  have len : ∀ r, (st r).length ≤ (st2 r).length := fun r => by
    refine Nat.le_of_not_lt fun q => ?_
    exact absurd (show (st2 r).length < (st2 r).length from keep (r, (st2 r).length, false) q) (Nat.lt_irrefl _)
  refine ⟨P.same, ⟨fun r i o e => (P.wd.rel r i o (D.sub e)).re ?_, fun k k' a b => P.wd.inj k k' (D.live a) (D.live b), fun k a => P.wd.low k (D.live a), P.wd.base, P.wd.size⟩,
    ⟨P.ev.ext, keep, P.ev.keep, fun k a b => P.ev.new k (D.live a) b, P.ev.size⟩⟩
  rcases D.clean r with z | z
  · rw [z] at e
    exact fun x hx => ((W.rel r i o e).inO x hx).mono len
  · exact fun x hx => (z o (List.mem_of_getElem? e) x hx).mono fun _ => Nat.zero_le _
theorem Drop.got {v : XVal} {y : Value} (D : Drop st st1 st2 v) (W : Wd C φ st s.heap) (P : Got C φ st s st1 v y s') : Got C φ st s st2 v y s' :=
  let ⟨φ', p, q⟩ := P; ⟨φ', D.post W p, q.re (D.val.mono fun _ => Nat.zero_le _)⟩
theorem Drop.all {v : XVal} (h : ∀ q, st1 q = st q ∨ st q = []) (hv : InR XSt.nil v) : Drop st st1 st v := ⟨fun q => (h q).elim (fun e => .inl e.symm) fun e => .inr ⟨e, e⟩, fun _ => .inl rfl, hv⟩
theorem Post.refl (W : Wd C φ st s.heap) : Post C φ st s ex φ st s := ⟨⟨_, _, rfl⟩, W, .refl⟩
theorem Post.toks (W : Wd C φ st s.heap) (t : Nat) : Post C φ st s ex φ st { s with toks := t } := ⟨⟨_, _, rfl⟩, W, .refl⟩
theorem Post.trans (a : Post C φ st s ex φ' st' s') (b : Post C φ' st' s' ex φ'' st'' s'') : Post C φ st s ex φ'' st'' s'' := by
  obtain ⟨⟨h, t, rfl⟩, _, e⟩ := a
  obtain ⟨⟨h', t', rfl⟩, W, e'⟩ := b
  exact ⟨⟨_, _, rfl⟩, W, e.trans e'⟩
theorem Post.weaken {ex' : List Addr} (a : Post C φ st s ex φ' st' s') (h : ∀ b ∈ ex, b ∈ ex') : Post C φ st s ex' φ' st' s' := ⟨a.same, a.wd, a.ev.weaken h⟩
theorem Post.weak0 {ex' : List Addr} (a : Post C φ st s [] φ' st' s') : Post C φ st s ex' φ' st' s' := a.weaken fun _ h => nomatch h
theorem Post.vr (a : Post C φ st s ex φ' st' s') (W : Wd C φ st s.heap) (X : ExOk C s.heap ex) {v : Value} {x : XVal} (h : VR C φ st s.heap v x) : VR C φ' st' s'.heap v x := VR.mono W X a.ev h
theorem Post.vr0 (a : Post C φ st s [] φ' st' s') (W : Wd C φ st s.heap) {v : Value} {x : XVal} (h : VR C φ st s.heap v x) : VR C φ' st' s'.heap v x := VR.mono W ExOk.nil a.ev h
theorem Post.vrs0 (a : Post C φ st s [] φ' st' s') (W : Wd C φ st s.heap) {v : List Value} {x : List XVal} (h : All2 (VR C φ st s.heap) v x) : All2 (VR C φ' st' s'.heap) v x := h.mono fun _ _ q => a.vr0 W q
theorem Post.push (W : Wd C φ st s.heap) (o : Obj) : Post C φ st s [] φ st { s with heap := s.heap.push o } := ⟨⟨_, _, rfl⟩, (W.push o).1, (W.push o).2⟩
theorem got_here (W : Wd C φ st s.heap) {x : XVal} {y : Value} (h : VR C φ st s.heap y x) (t : Nat) : Got C φ st s st x y { s with toks := t } := ⟨φ, Post.toks W t, h⟩
theorem got_here' (W : Wd C φ st s.heap) {x : XVal} {y : Value} (h : VR C φ st s.heap y x) : Got C φ st s st x y s := ⟨φ, Post.refl W, h⟩
theorem Wd.list (W : Wd C φ st h) {r i : Nat} {xs : List XVal} (e : (st r)[i]? = some (.list xs)) : ∃ items n, IsL h (φ.a r i) items n ∧ All2 (VR C φ st h) items.toList xs ∧ xs.length ≤ LIM ∧ items.size = xs.length :=
  let ⟨items, n, a, b, c⟩ := W.rel r i _ e; ⟨items, n, a, b, c, b.length⟩
end
end Mine
end

section
set_option maxRecDepth 100000
namespace Mine
open PySem PySem.W PySem.Calls PyProof.Rows PySem.SeqAt
inductive Eqs : XVal → XVal → Bool → Prop
  | none : Eqs .none .none true
  | bool (a b) : Eqs (.bool a) (.bool b) (a == b)
  | int (a b) : Eqs (.int a) (.int b) (decide (a = b))
  | str (a b) : Eqs (.str a) (.str b) (decide (a = b))
inductive Eqt : XVal → XVal → Bool → Prop
  | sc {x y b} : Eqs x y b → Eqt x y b
  | tup {xs ys : List XVal} {bs : List Bool} : bs.length = min xs.length ys.length → (∀ (k : Nat) x y, xs[k]? = some x → ys[k]? = some y → Eqs x y (bs.getD k true)) → Eqt (.tup xs) (.tup ys) (bs.all id && xs.length == ys.length)
inductive Eqv (st : XSt) : Nat → XVal → XVal → Prop
  | el {n x y} : Eqt x y true → Eqv st n x y
  | list {n r i q j} {xs ys : List XVal} : ¬ (r = q ∧ i = j) → (st r)[i]? = some (.list xs) → (st q)[j]? = some (.list ys) → xs.length = ys.length → (∀ (k : Nat) x y, xs[k]? = some x → ys[k]? = some y → Eqv st n x y) → Eqv st (n + 1) (.ref r i) (.ref q j)
section
variable {C : XC} {φ : Lay} {st : XSt} {s : Shared} {A : Around} {h : Heap}
noncomputable def Al (A : Around) (s : Shared) (v w : Value) (b : Bool) : Prop := RcAt A s v w b ∧ RcNeAt A s v w (!b) ∧ EqAt A s v w b
theorem S_dec (a b : String) : decide (a = b) = (S a == S b) := by
  by_cases q : a = b
  · subst q; rw [decide_eq_true rfl, beq_self_eq_true]
  · rw [decide_eq_false q, beq_eq_false_iff_ne.mpr fun z => q (S_inj z)]
theorem Eqs.al {v w : Value} {x y : XVal} {b : Bool} (e : Eqs x y b) (hx : VR C φ st h v x) (hy : VR C φ st h w y) : Al A s v w b := by
  cases e with
  | none => cases hx.none_inv; cases hy.none_inv; exact ⟨RcAt.none_none, RcNeAt.none_none, EqAt.same _⟩
  | bool a b => cases hx.bool_inv; cases hy.bool_inv; exact ⟨RcAt.bool_bool _ _, RcNeAt.bool_bool _ _, EqAt.bool_bool _ _⟩
  | int a b =>
    obtain ⟨t, rfl⟩ := hx.int_inv
    obtain ⟨u, rfl⟩ := hy.int_inv
    exact ⟨RcAt.int_int _ _ _ _, RcNeAt.int_int _ _ _ _, EqAt.int_int _ _ _ _⟩
  | str a b =>
    obtain ⟨t, rfl⟩ := hx.str_inv
    obtain ⟨u, rfl⟩ := hy.str_inv
    rw [S_dec]
    exact ⟨RcAt.str_str _ _ _ _, RcNeAt.str_str _ _ _ _, EqAt.str_str _ _ _ _⟩
theorem Eqs.same {v : Value} {x x' y : XVal} {b b' : Bool} (e : Eqs x y b) (e' : Eqs x' y b') (hx : VR C φ st h v x) (hx' : VR C φ st h v x') : b = b' := by
  cases e with
  | none => cases e'; rfl
  | bool a c => cases hx.bool_inv; cases e'; cases hx'.bool_inv; rfl
  | int a c =>
    obtain ⟨t, rfl⟩ := hx.int_inv
    cases e'
    obtain ⟨u, z⟩ := hx'.int_inv
    injection z with z; rw [z]
  | str a c =>
    obtain ⟨t, rfl⟩ := hx.str_inv
    cases e'
    obtain ⟨u, z⟩ := hx'.str_inv
    injection z with z; rw [S_inj z]
theorem Eqs.refl {v : Value} {x y : XVal} {b : Bool} (e : Eqs x y b) (hx : VR C φ st h v x) (hy : VR C φ st h v y) : b = true := by
  cases e with
  | none => rfl
  | bool a c => cases hx.bool_inv; cases hy.bool_inv; exact beq_self_eq_true _
  | int a c =>
    obtain ⟨t, rfl⟩ := hx.int_inv
    obtain ⟨u, z⟩ := hy.int_inv
    injection z with z; exact decide_eq_true z
  | str a c =>
    obtain ⟨t, rfl⟩ := hx.str_inv
    obtain ⟨u, z⟩ := hy.str_inv
    injection z with z; exact decide_eq_true (S_inj z)
theorem all_getD (bs : List Bool) : (List.range bs.length).all (fun j => bs.getD j true) = bs.all id := by
  induction bs with
  | nil => rfl
  | cons b bs ih =>
    rw [List.length_cons, List.range_succ_eq_map, List.all_cons, List.all_map, List.all_cons]
    congr 1
theorem isT_same {a : Addr} {i j : Array Value} {n m : Nat} (x : IsT h a i n) (y : IsT h a j m) : i = j := by
  unfold IsT at x y; rw [x] at y; injection y with y; injection y with _ _ y; injection y
theorem toL {items : Array Value} {j : Nat} (h : j < items.size) : items.toList[j]? = some items[j] := by rw [Array.getElem?_toList]; exact Array.getElem?_eq_getElem h
theorem Eqt.al {v w : Value} {x y : XVal} {b : Bool} (e : Eqt x y b) (hu : A.units + 1 < cLine) (hx : VR C φ st s.heap v x) (hy : VR C φ st s.heap w y) : Al A s v w b := by
  cases e with
  | sc e => exact e.al hx hy
  | @tup xs ys bs hl he =>
    obtain ⟨a, items, m, rfl, ht, hs⟩ := hx.tup_inv
    obtain ⟨b, items2, m2, rfl, ht2, hs2⟩ := hy.tup_inv
    have l1 : items.size = xs.length := hs.length
    have l2 : items2.size = ys.length := hs2.length
    have at1 : ∀ (k : Nat), k < items.size → ∃ x, xs[k]? = some x := fun k hk => ⟨_, List.getElem?_eq_getElem (l1 ▸ hk)⟩
    have at2 : ∀ (k : Nat), k < items2.size → ∃ x, ys[k]? = some x := fun k hk => ⟨_, List.getElem?_eq_getElem (l2 ▸ hk)⟩
    have he' : ∀ j (h1 : j < items.size) (h2 : j < items2.size), EqAt A.in1 s items[j] items2[j] (bs.getD j true) := fun j h1 h2 =>
      let ⟨x, ex⟩ := at1 j h1; let ⟨y, ey⟩ := at2 j h2; ((he j x y ex ey).al (hs.elem (toL h1) ex) (hs2.elem (toL h2) ey)).2.2
    have val : ((List.range (min items.size items2.size)).all (fun j => bs.getD j true) && items.size == items2.size) = (bs.all id && xs.length == ys.length) := by
      rw [l1, l2, ← hl, all_getD]
    have hu' : A.units < cLine := Nat.lt_of_succ_lt hu
    have R1 := RcAt.tuples (isT_of ht) (isT_of ht2) hu' he'
    have R2 := RcNeAt.tuples (isT_of ht) (isT_of ht2) hu' he'
    rw [val] at R1 R2
    refine ⟨R1, R2, ?_⟩
    by_cases q : a = b
    · subst q
      cases isT_same ht ht2
      have : (bs.all id && xs.length == ys.length) = true := by
        rw [← l1, ← l2, beq_self_eq_true, Bool.and_true, ← all_getD, List.all_eq_true]
        intro j hj
        have hj : j < items.size := by have := List.mem_range.mp hj; rw [hl, ← l1, ← l2, Nat.min_self] at this; exact this
        obtain ⟨x, ex⟩ := at1 j hj
        obtain ⟨y, ey⟩ := at2 j hj
        exact (he j x y ex ey).refl (hs.elem (toL hj) ex) (hs2.elem (toL hj) ey)
      rw [this]; exact EqAt.same _
    · exact EqAt.of_refs q R1
theorem Eqt.not2 {v : Value} {x x' y : XVal} (e : Eqt x y true) (e' : Eqt x' y false) (hx : VR C φ st h v x) (hx' : VR C φ st h v x') : False := by
  generalize hb : true = b at e
  cases e with
  | sc e =>
    generalize hb' : false = b' at e'
    cases e' with
    | sc e' => have := e.same e' hx hx'; rw [← hb, ← hb'] at this; cases this
    | tup => cases e
  | @tup xs ys bs hl he =>
    generalize hb' : false = b' at e'
    cases e' with
    | sc e' => cases e'
    | @tup xs' _ bs' hl' he' =>
      obtain ⟨a, items, m, rfl, ht, hs⟩ := hx.tup_inv
      obtain ⟨a', items', m', hv, ht', hs'⟩ := hx'.tup_inv
      cases hv
      cases isT_same ht ht'
      have l1 : items.size = xs.length := hs.length
      have l1' : items.size = xs'.length := hs'.length
      obtain ⟨h1, h2⟩ := an hb.symm
      rw [← l1] at h2
      rw [← l1', h2, Bool.and_true, ← all_getD] at hb'
      refine absurd hb'.symm (Bool.ne_false_iff.mpr (List.all_eq_true.mpr fun j hj => ?_))
      have hj' := List.mem_range.mp hj
      rw [hl', ← l1', ← eq_of_beq h2, Nat.min_self] at hj'
      have j1 : j < xs.length := l1 ▸ hj'
      have j2 : j < ys.length := eq_of_beq h2 ▸ hj'
      have j3 : j < xs'.length := l1' ▸ hj'
      have q := (he j _ _ (List.getElem?_eq_getElem j1) (List.getElem?_eq_getElem j2)).same (he' j _ _ (List.getElem?_eq_getElem j3) (List.getElem?_eq_getElem j2)) (hs.elem (toL hj') (List.getElem?_eq_getElem j1)) (hs'.elem (toL hj') (List.getElem?_eq_getElem j3))
      rw [← q]
      rw [← all_getD] at h1
      exact List.all_eq_true.mp h1 j (List.mem_range.mpr (by rw [hl, ← l1, ← eq_of_beq h2, Nat.min_self]; exact hj'))
theorem Wd.inj_a (W : Wd C φ st h) {r q i j : Nat} (hi : i < (st r).length) (hj : j < (st q).length) (e : φ.a r i = φ.a q j) : r = q ∧ i = j := by
  have := W.inj (r, i, false) (q, j, false) hi hj e
  cases this; exact ⟨rfl, rfl⟩
theorem Eqv.al (W : Wd C φ st s.heap) {n : Nat} {x y : XVal} (e : Eqv st n x y) : ∀ {A : Around} {v w : Value}, A.units + n + 1 < cLine → VR C φ st s.heap v x → VR C φ st s.heap w y → Al A s v w true := by
  induction e with
  | el e => intro A v w hu hx hy; exact e.al (by omega) hx hy
  | @list n r i q j xs ys ne hr hq hl _ ih =>
    intro A v w hu hx hy
    obtain ⟨rfl, hi⟩ := hx.ref_inv
    obtain ⟨rfl, hj⟩ := hy.ref_inv
    obtain ⟨items, m, hl1, hs, _, l1⟩ := W.list hr
    obtain ⟨items2, m2, hl2, hs2, _, l2⟩ := W.list hq
    have he : ∀ j (h1 : j < items.size) (h2 : j < items2.size), EqAt A.in1 s items[j] items2[j] ((fun _ => true) j) := fun j h1 h2 =>
      (ih j _ _ (List.getElem?_eq_getElem (l1 ▸ h1)) (List.getElem?_eq_getElem (l2 ▸ h2)) (A := A.in1) (by show A.units + 1 + n + 1 < cLine; omega) (hs.elem (toL h1) (List.getElem?_eq_getElem (l1 ▸ h1))) (hs2.elem (toL h2) (List.getElem?_eq_getElem (l2 ▸ h2)))).2.2
    have val : ((List.range items.size).all fun j => (fun _ => true) j) = true := List.all_eq_true.mpr fun _ _ => rfl
    have hsz : items.size = items2.size := by rw [l1, l2, hl]
    have R1 := RcAt.lists (isL_of hl1) (isL_of hl2) hsz (by omega) he
    have R2 := RcNeAt.lists (isL_of hl1) (isL_of hl2) hsz (by omega) he
    rw [val] at R1 R2
    exact ⟨R1, R2, EqAt.of_refs (fun z => ne (W.inj_a hi hj z)) R1⟩
theorem any_at (hu : A.units + 1 < cLine) {v : Value} {a : XVal} (hv : VR C φ st s.heap v a) {items : List Value} {xs : List XVal} {bs : List Bool} (hs : All2 (VR C φ st s.heap) items xs) (e : All2 (fun x b => Eqt x a b) xs bs) :
    ∃ f : Value → Bool, (∀ y ∈ items, EqAt A s y v (f y)) ∧ items.map f = bs := by
  classical
  have key : ∀ {y x b}, VR C φ st s.heap y x → Eqt x a b → decide (∃ x', VR C φ st s.heap y x' ∧ Eqt x' a true) = b := fun {y x b} h1 h2 => by
    cases b with
    | true => exact decide_eq_true ⟨x, h1, h2⟩
    | false => exact decide_eq_false fun ⟨x', h3, h4⟩ => h4.not2 h2 h3 h1
  refine ⟨fun y => decide (∃ x', VR C φ st s.heap y x' ∧ Eqt x' a true), ?_⟩
  induction hs generalizing bs with
  | nil => cases e; exact ⟨fun _ h => (nomatch h), rfl⟩
  | cons p _ ih =>
    cases e with
    | cons q e =>
      obtain ⟨i1, i2⟩ := ih e
      have k := key p q
      refine ⟨fun y hy => ?_, ?_⟩
      · rcases List.mem_cons.mp hy with z | z
        · rw [z]; show EqAt A s _ v (decide _); rw [k]; exact (q.al hu p hv).2.2
        · exact i1 y z
      · rw [List.map_cons, i2]; exact congrArg (· :: _) k
end
end Mine
end

section
set_option maxRecDepth 100000
namespace Mine
open PySem PySem.W PySem.Calls PyProof.Rows PySem.SeqAt
noncomputable def dS : Stmt := .Pass default
noncomputable def sTag (s : Stmt) (n : Nat) : Bool := Nat.beq s.ctorIdx n
noncomputable def sE (s : Stmt) : Expr := by
  cases s with
  | Return v _ => exact v.getD dE
  | Assign _ v _ => exact v
  | AugAssign _ _ v _ => exact v
  | For _ i _ _ _ => exact i
  | While t _ _ _ => exact t
  | If t _ _ _ => exact t
  | Expr v _ => exact v
  | _ => exact dE
noncomputable def sT (s : Stmt) : Expr := by
  cases s with
  | Assign t _ _ => exact hdx t
  | AugAssign t _ _ _ => exact t
  | For t _ _ _ _ => exact t
  | _ => exact dE
noncomputable def sB (s : Stmt) : List Stmt := by
  cases s with
  | For _ _ b _ _ => exact b
  | While _ b _ _ => exact b
  | If _ b _ _ => exact b
  | _ => exact []
noncomputable def sO (s : Stmt) : List Stmt := by
  cases s with
  | For _ _ _ o _ => exact o
  | While _ _ o _ => exact o
  | If _ _ o _ => exact o
  | _ => exact []
noncomputable def sAo (s : Stmt) (n : Operator) : Bool := by
  cases s with
  | AugAssign _ o _ _ => exact o == n
  | _ => exact true
noncomputable def sK (s : Stmt) : Bool := by
  cases s with
  | Return v _ => exact v.isSome
  | Assign t _ _ => exact t.length == 1
  | _ => exact true
section
variable {s : Stmt}
theorem sinv3 (h : sTag s 3 = true) : ∃ v p, s = .Return v p := bif_use h (by cases s <;> first | exact trivial | exact ⟨_, _, rfl⟩)
theorem sinv5 (h : sTag s 5 = true) : ∃ t v p, s = .Assign t v p := bif_use h (by cases s <;> first | exact trivial | exact ⟨_, _, _, rfl⟩)
theorem sinv7 (h : sTag s 7 = true) : ∃ t o v p, s = .AugAssign t o v p := bif_use h (by cases s <;> first | exact trivial | exact ⟨_, _, _, _, rfl⟩)
theorem sinv9 (h : sTag s 9 = true) : ∃ t i b o p, s = .For t i b o p := bif_use h (by cases s <;> first | exact trivial | exact ⟨_, _, _, _, _, rfl⟩)
theorem sinv11 (h : sTag s 11 = true) : ∃ t b o p, s = .While t b o p := bif_use h (by cases s <;> first | exact trivial | exact ⟨_, _, _, _, rfl⟩)
theorem sinv12 (h : sTag s 12 = true) : ∃ t b o p, s = .If t b o p := bif_use h (by cases s <;> first | exact trivial | exact ⟨_, _, _, _, rfl⟩)
theorem sinv24 (h : sTag s 24 = true) : ∃ e p, s = .Expr e p := bif_use h (by cases s <;> first | exact trivial | exact ⟨_, _, rfl⟩)
end
noncomputable def rowB (x : XE) : Bool := x.rec (fun k _ _ => k == 8) (fun _ _ _ _ _ => false) fun k _ _ _ _ _ iy => k == 0 && iy
noncomputable def sc1 (sc : Sc) (x : String) : Bool := kindIn sc x == some .local
noncomputable def chkSU (k : Nat) (s : String) (l : List String) (x : XE) (sc : Sc) (h : Stmt) : Bool :=
  bif k == 20 then sTag h 24 && (chk x sc (sE h) && notComp (sE h)) else
  bif k == 21 then sTag h 5 && (sK h && (nm (sT h) s && (sc1 sc s && (chk x sc (sE h) && notComp (sE h))))) else
  bif k == 19 then sTag h 5 && (sK h && (nm (sT h) s && (sc1 sc s && (chk x sc (sE h) && (tag (sE h) 8 && ((ePos (sT h)).line == (ePos (sE h)).line && !((eScope (sE h)).any fun q => q.1 == S s && (q.2 == .local || q.2 == .cell)))))))) else
  bif k == 22 then sTag h 5 && (sK h && (tag (sT h) 25 && (nm (hdx (eXs (sT h))) s && (nm (hdx (eXs (sT h)).tail) (l.headD "") && ((eXs (sT h)).length == 2 && (!(s == l.headD "") && (sc1 sc s && (sc1 sc (l.headD "") && (chk x sc (sE h) && (!tag (sE h) 25 && notComp (sE h))))))))))) else
  bif k == 23 then sTag h 3 && (sK h && chk x sc (sE h)) else
  sTag h 7 && (sAo h (binOf (k - 24)) && (nm (sT h) s && (sc1 sc s && chk x sc (sE h))))
noncomputable def chkSB (k : Nat) (s : String) (x y : XE) (ix iy : Sc → List Stmt → Bool) (sc : Sc) (l : List Stmt) : Bool :=
  let h := l.headD dS
  bif k == 0 then !l.isEmpty && (ix sc [h] && iy sc l.tail) else
  bif k == 30 then sTag h 5 && (sK h && (tag (sT h) 20 && (isNm (eStr (sT h)) s && (asL.contains s && (chk x sc (eL (sT h)) && (chk y sc (sE h) && notComp (sE h))))))) else
  bif k == 31 then sTag h 5 && (sK h && (tag (sT h) 21 && (notSlice (eM (sT h)) && (chk x sc (row [eL (sT h), eM (sT h)]) && (chk y sc (sE h) && notComp (sE h)))))) else
  bif k == 40 then sTag h 12 && (rowB x && (ix sc (sB h) && iy sc l)) else
  bif k == 45 then chk x sc (sE h) && (rowB y && iy sc (sO h)) else
  bif k == 41 then sTag h 11 && ((sO h).isEmpty && (chk x sc (sE h) && iy sc (sB h))) else
  bif k == 42 then sTag h 9 && ((sO h).isEmpty && (nm (sT h) s && (sc1 sc s && (chk x sc (sE h) && (notSet (sE h) && iy sc (sB h)))))) else
  bif k == 43 then sTag h 9 && ((sO h).isEmpty && (nm (sT h) s && (sc1 sc s && (chkCall (sE h) "range" && (chkGlob sc "range" && (chk x sc (row (eXs (sE h))) && iy sc (sB h))))))) else
  sTag h 7 && (sAo h (binOf (k - 32)) && (tag (sT h) 21 && (notSlice (eM (sT h)) && (chk x sc (row [eL (sT h), eM (sT h)]) && chk y sc (sE h)))))
noncomputable def chkS (x : XE) : Sc → List Stmt → Bool := x.rec (fun k _ _ _ l => bif k == 8 then l.isEmpty else bif k == 10 then sTag (l.headD dS) 3 && !sK (l.headD dS) else k == 11) (fun k s l x _ sc m => chkSU k s l x sc (m.headD dS)) fun k s _ x y ix iy => chkSB k s x y ix iy
structure ClsOk (C : XC) (c : String) (k : Addr) : Prop where
  get : ∀ n, plainGet C.K k n = true
  dict : hasDictIn C.K k = true
  as : ∀ a ∈ asL, findIn C.K (.ref k) (S a) = some none
  seta : findIn C.K (.ref k) "__setattr__" = some (some (.builtin "object.__setattr__"))
  over : plainOver C.K k = true
  ms : ∀ n ∈ msL, ∀ f, C.fa (c ++ "." ++ n) = some f → findIn C.K (.ref k) (S n) = some (some (.ref f)) ∧ isFn C.K (.ref f) = true ∧ keepIn C.K (.ref f) = true
  make : makesIn C.K k = true
  init : ∀ f, C.fa (c ++ ".__init__") = some f → findIn C.K (.ref k) "__init__" = some (some (.ref f)) ∧ typeIn C.K (.ref f) = some (.type "function")
  keep : keepIn C.K (.ref k) = true
structure EOk (penv : Env) (sc : Sc) : Prop where
  kind : penv.scope.kind = .function
  names : penv.scope.names = sc
  globals : penv.globals = mainGlobals
  builtins : penv.builtins = builtinsNs
  cells : ∀ n, sc.lookup n = some .cell → ∃ c, penv.cells.lookup n = some c
structure FRel (C : XC) (φ : Lay) (st : XSt) (h : Heap) (penv : Env) (env : XEnv) : Prop where
  ns : ∃ m, h.Ns penv.locals m ∧ ∀ x v, env x = some v → penv.kindOf (S x) = some .local → ∃ y, m (S x) = some y ∧ VR C φ st h y v
  cell : ∀ x v, env x = some v → (penv.kindOf (S x) = some .cell ∨ penv.kindOf (S x) = some .free) → ∃ c y, penv.cells.lookup (S x) = some c ∧ h.IsCell c (some y) ∧ VR C φ st h y v ∧ ¬ Own φ st c
  off : ¬ Own φ st penv.locals
  low : C.h₀.objs.size ≤ penv.locals
structure Room (A : Around) (n : Nat) : Prop where
  handled : A.handled = none
  depth : A.depth + n ≤ 610
  units : A.units + 10 * n ≤ 3100
structure RoomC (A : Around) (n : Nat) : Prop where
  handled : A.handled = none
  depth : A.depth + 1 + n ≤ 610
  units : A.units + 10 + 10 * n ≤ 3100
theorem Room.call {A : Around} {n : Nat} (r : Room A (n + 1)) : RoomC A n := ⟨r.handled, by have := r.depth; omega, by have := r.units; omega⟩
theorem Room.le {A : Around} {m n : Nat} (r : Room A n) (h : m ≤ n) : Room A m := ⟨r.handled, by have := r.depth; omega, by have := r.units; omega⟩
noncomputable def Enter (C : XC) (a : Addr) (fn : XFn) (sc : Sc) (body : List Stmt) : Prop :=
  ∀ (A : Around) (R : Result → Shared → Prop) (φ : Lay) (st : XSt) (s : Shared) (argv : List Value) (args : List XVal) (bs : List (String × XVal)),
    A.depth < recursionLimit → Wd C φ st s.heap → All2 (VR C φ st s.heap) argv args → bindX fn.params fn.dflts args = some bs →
    (∀ s₁ penv, EOk penv sc → FRel C φ st s₁.heap penv (envOf bs) → Post C φ st s [] φ st s₁ → s.heap.objs.size ≤ penv.locals →
      wpAny (model C.prog C.w) (A.deeper penv) (PySem.execs body penv) (fun f s' => R (.ok (.ret (match f with | .ret v => v | _ => .none))) s') (fun _ _ => False) s₁) →
    codeAny (model C.prog C.w) A (.call (.ref a) ⟨argv, []⟩) R s
structure COk (C : XC) : Prop where
  kin : C.K.In C.h₀
  lim : C.h₀.NoLimit
  big : 4 ≤ C.h₀.objs.size
  glob : ∃ mg mb, C.h₀.Ns mainGlobals mg ∧ C.h₀.Ns builtinsNs mb ∧
    (∀ f ∈ gsL, ∃ a, C.fa f = some a ∧ mg (S f) = some (.ref a)) ∧
    (∀ c ∈ csL, ∃ k, C.ca c = some k ∧ mg (S c) = some (.ref k)) ∧
    (mg (S "len") = none ∧ mb (S "len") = some (.builtin "len")) ∧ (mg (S "range") = none ∧ mb (S "range") = some (.type "range")) ∧ (mg (S "list") = none ∧ mb (S "list") = some (.type "list"))
  cls : ∀ c k, C.ca c = some k → ClsOk C c k
  fk : ∀ f a, C.fa f = some a → keepIn C.K (.ref a) = true
  fn : ∀ f fn, progT.lookup f = some fn → ∃ a sc body, C.fa f = some a ∧ chkS fn.body sc body = true ∧ Enter C a fn sc body
structure Cx (C : XC) (A : Around) (n : Nat) (φ : Lay) (st : XSt) (s : Shared) (penv : Env) (sc : Sc) (env : XEnv) : Prop where
  room : Room A n
  wd : Wd C φ st s.heap
  ok : EOk penv sc
  fr : FRel C φ st s.heap penv env
noncomputable def EV (n : Nat) (env : XEnv) (st : XSt) (e : XE) (v : XVal) (st' : XSt) : Prop := ∀ C, COk C → ∀ A φ s penv sc x (E : Value → Shared → Prop), Cx C A n φ st s penv sc env → chk e sc x = true →
  wpAny (model C.prog C.w) A (PySem.eval x penv) (Got C φ st s st' v) E s ∧
  ∀ b, v = .bool b → wpAny (model C.prog C.w) A (isTrue x penv (PySem.eval x penv)) (fun c s' => c = b ∧ ∃ φ', Post C φ st s [] φ' st' s') E s
inductive EVS (n : Nat) (env : XEnv) : XSt → XE → List XVal → XSt → Prop
  | nil {st} : EVS n env st .nil [] st
  | cons {st st1 st2 e es v vs} : EV n env st e v st1 → EVS n env st1 es vs st2 → EVS n env st (.cons e es) (v :: vs) st2
section
variable {C : XC} {φ φ' φ'' : Lay} {st st' st'' st1 st2 : XSt} {s s' s'' : Shared} {A : Around} {E : Value → Shared → Prop} {ex : List Addr} {penv : Env} {sc : Sc} {env : XEnv} {n : Nat}
theorem ns_obj {h : Heap} {L : Addr} {m : Str → Option Value} (n : h.Ns L m) : ∃ o es ep, h.get? L = some o ∧ o.data = .dict es ep := let ⟨o, es, ep, a, b, _⟩ := n; ⟨o, es, ep, a, b⟩
theorem FRel.exOk (F : FRel C φ st s.heap penv env) : ExOk C s.heap [penv.locals] := by
  obtain ⟨m, hn, _⟩ := F.ns
  obtain ⟨o, es, ep, h1, h2⟩ := ns_obj hn
  intro b hb
  rw [List.mem_singleton.mp hb]
  exact ⟨F.low, fun o' h' => by rw [h1] at h'; cases h'; rw [h2]; exact ⟨.inr fun _ _ z => (nomatch z), fun _ z => (nomatch z)⟩⟩
theorem FRel.mono (F : FRel C φ st s.heap penv env) (W : Wd C φ st s.heap) (X : ExOk C s.heap ex) (e : Ev φ st s.heap φ' st' s'.heap ex) (hL : penv.locals ∉ ex) : FRel C φ' st' s'.heap penv env := by
  obtain ⟨m, hn, hm⟩ := F.ns
  obtain ⟨o, es, ep, h1, h2⟩ := ns_obj hn
  refine ⟨⟨m, hn.at fun o ho => e.keep _ _ hL F.off ho, fun x v hx hk => ?_⟩, fun x v hx hk => ?_, e.own h1 F.off, F.low⟩
  · obtain ⟨y, a, b⟩ := hm x v hx hk; exact ⟨y, a, VR.mono W X e b⟩
  · obtain ⟨c, y, a, ⟨oc, b1, b2⟩, b, d⟩ := F.cell x v hx hk
    exact ⟨c, y, a, ⟨oc, e.keep _ _ (fun q => ((X _ q).2 _ b1).2 _ b2) d b1, b2⟩, VR.mono W X e b, e.own b1 d⟩
theorem Post.fr (P : Post C φ st s [] φ' st' s') (W : Wd C φ st s.heap) (F : FRel C φ st s.heap penv env) : FRel C φ' st' s'.heap penv env := F.mono W ExOk.nil P.ev (by simp)
theorem Room.units4 (r : Room A n) : A.units + 500 < cLine := by
  have := r.units
  rw [show cLine = 9900 from rfl]
  omega
theorem name_loc (K : EOk penv sc) (W : Wd C φ st s.heap) (F : FRel C φ st s.heap penv env) {x : String} {v : XVal} {pos : Pos} {Q : Value → Shared → Prop} (hc : chkLoc sc x = true) (hv : env x = some v) (h : ∀ y, VR C φ st s.heap y v → Q y s) :
    wpAny (model C.prog C.w) A (PySem.eval (.Name (S x) pos) penv) Q E s := by
  obtain ⟨h1, h2, h3⟩ := an3 hc
  replace h1 := (Bool.not_eq_true' _).mp h1
  replace h2 := (Bool.not_eq_true' _).mp h2
  refine wpAny_Name ?_ h1
  have hk : penv.kindOf (S x) = kindIn sc x := by unfold Env.kindOf kindIn; rw [K.names]
  rcases (Bool.or_eq_true _ _).mp h3 with q | q
  · replace q := eq_of_beq q
    obtain ⟨m, hn, hm⟩ := F.ns
    obtain ⟨y, a, b⟩ := hm x v hv (hk.trans q)
    exact wpAny_loadName_local K.kind (hk.trans q) hn a (h y b)
  · rcases (Bool.or_eq_true _ _).mp q with q | q <;> replace q := eq_of_beq q
    · obtain ⟨c, y, a, b, d, _⟩ := F.cell x v hv (.inl (hk.trans q))
      exact wpAny_loadName_cell K.kind (hk.trans q) a b (h y d)
    · obtain ⟨c, y, a, b, d, _⟩ := F.cell x v hv (.inr (hk.trans q))
      exact wpAny_loadName_free K.kind (hk.trans q) a b (h y d) h2
theorem name_glob (K : EOk penv sc) (W : Wd C φ st s.heap) {x : String} {mg : Str → Option Value} {v : Value} {pos : Pos} {Q : Value → Shared → Prop} (hc : chkGlob sc x = true) (hg : C.h₀.Ns mainGlobals mg) (hv : mg (S x) = some v) (h : Q v s) :
    wpAny (model C.prog C.w) A (PySem.eval (.Name (S x) pos) penv) Q E s := by
  obtain ⟨h1, h2⟩ := an hc
  replace h1 := (Bool.not_eq_true' _).mp h1
  replace h2 := eq_of_beq h2
  refine Name_function_global K.kind (by unfold Env.kindOf; rw [K.names]; exact h2) (loadGlobal_global (by rw [K.globals]; exact hg.keeps W.base) hv h) h1
theorem name_builtin (K : EOk penv sc) (W : Wd C φ st s.heap) {x : String} {mg mb : Str → Option Value} {v : Value} {pos : Pos} {Q : Value → Shared → Prop} (hc : chkGlob sc x = true) (hg : C.h₀.Ns mainGlobals mg) (hmiss : mg (S x) = none)
    (hb : C.h₀.Ns builtinsNs mb) (hv : mb (S x) = some v) (h : Q v s) : wpAny (model C.prog C.w) A (PySem.eval (.Name (S x) pos) penv) Q E s := by
  obtain ⟨h1, h2⟩ := an hc
  replace h1 := (Bool.not_eq_true' _).mp h1
  replace h2 := eq_of_beq h2
  refine Name_function_global K.kind (by unfold Env.kindOf; rw [K.names]; exact h2) (loadGlobal_builtin (by rw [K.globals]; exact hg.keeps W.base) hmiss (by rw [K.builtins]; exact hb.keeps W.base) hv h) h1
theorem store_loc (K : EOk penv sc) (W : Wd C φ st s.heap) (F : FRel C φ st s.heap penv env) {x : String} {v : XVal} {y : Value} {Q : Unit → Shared → Prop} (hx : kindIn sc x = some .local) (hv : VR C φ st s.heap y v)
    (h : ∀ s', Post C φ st s [penv.locals] φ st s' → FRel C φ st s'.heap penv (upd env x v) → Q () s') : wpAny (model C.prog C.w) A (storeName penv (S x) y) Q E s := by
  have hk : penv.kindOf (S x) = some .local := by unfold Env.kindOf; rw [K.names]; exact hx
  obtain ⟨m, hn, hm⟩ := F.ns
  refine wpAny_storeName_local hk hn (fun h' hn' hs => ?_) (by rw [K.kind]; rfl)
  have X := F.exOk
  obtain ⟨W', e⟩ := W.quiet X (fun b hb => by rw [List.mem_singleton.mp hb]; exact F.off) (fun b o nb hb => (hs.2 b (fun z => nb (by rw [z]; exact .head _))).trans hb) (Nat.le_of_eq hs.1.symm)
  refine h _ ⟨⟨_, _, rfl⟩, W', e⟩ ⟨⟨_, hn', fun z w hz hkz => ?_⟩, fun z w hz hkz => ?_, F.off, F.low⟩
  · unfold upd at hz
    by_cases q : z = x
    · subst q
      rw [if_pos rfl] at hz
      cases hz
      exact ⟨y, by simp, VR.mono W X e hv⟩
    · rw [if_neg q] at hz
      obtain ⟨y', a, b⟩ := hm z w hz hkz
      exact ⟨y', by rw [if_neg (fun z => q (S_inj z))]; exact a, VR.mono W X e b⟩
  · unfold upd at hz
    by_cases q : z = x
    · subst q; rw [hk] at hkz; rcases hkz with hkz | hkz <;> cases hkz
    · rw [if_neg q] at hz
      obtain ⟨c, y', a, ⟨oc, b1, b2⟩, b, d⟩ := F.cell z w hz hkz
      exact ⟨c, y', a, ⟨oc, e.keep _ _ (fun q => ((X _ q).2 _ b1).2 _ b2) d b1, b2⟩, VR.mono W X e b, d⟩
theorem Cx.next (c : Cx C A n φ st s penv sc env) (p : Post C φ st s [] φ' st' s') : Cx C A n φ' st' s' penv sc env := ⟨c.room, p.wd, c.ok, p.fr c.wd c.fr⟩
theorem Got.via {z : XVal} {y : Value} (p : Post C φ st s [] φ' st' s') (q : Got C φ' st' s' st'' z y s'') : Got C φ st s st'' z y s'' := let ⟨f, a, b⟩ := q; ⟨f, p.trans a, b⟩
theorem In_of (X : COk C) (W : Wd C φ st s.heap) : C.K.In s.heap := fun b o z => W.base b o (X.kin b o z)
theorem keep_fn (X : COk C) {a : Addr} {f : String} (h : C.fa f = some a) : ∀ h, C.K.In h → ∃ k, (k = Keeper.frame ∨ k = Keeper.machine ∨ k = Keeper.boundFrame) ∧ Looks (model C.prog C.w) h (keeperOf (.ref a)) k :=
  fun h' x => keeps_K (X.fk f a h) h' x
theorem keep_plain {f : Value} (h : ∀ a, f ≠ .ref a) : ∀ h, C.K.In h → ∃ k, (k = Keeper.frame ∨ k = Keeper.machine ∨ k = Keeper.boundFrame) ∧ Looks (model C.prog C.w) h (keeperOf f) k :=
  fun h' x => ⟨.machine, .inr (.inl rfl), by
    unfold keeperOf
    cases f <;> first | exact Looks.of_pure rfl | exact absurd rfl (h _)⟩
theorem EV.use {e : XE} {z : XVal} {x : Expr} {Q : Value → Shared → Prop} (X : COk C) (h : EV n env st e z st') (c : Cx C A n φ st s penv sc env) (hc : chk e sc x = true)
    (k : ∀ φ' s' y, Post C φ st s [] φ' st' s' → VR C φ' st' s'.heap y z → Cx C A n φ' st' s' penv sc env → Q y s') : wpAny (model C.prog C.w) A (PySem.eval x penv) Q E s :=
  wpAny_mono (h C X A φ s penv sc x E c hc).1 (fun y s' ⟨φ', p, v⟩ => k φ' s' y p v (c.next p)) fun _ _ e => e
theorem EV.test {e : XE} {b : Bool} {x : Expr} {Q : Bool → Shared → Prop} (X : COk C) (h : EV n env st e (.bool b) st') (c : Cx C A n φ st s penv sc env) (hc : chk e sc x = true)
    (k : ∀ φ' s', Post C φ st s [] φ' st' s' → Cx C A n φ' st' s' penv sc env → Q b s') : wpAny (model C.prog C.w) A (isTrue x penv (PySem.eval x penv)) Q E s :=
  wpAny_mono ((h C X A φ s penv sc x E c hc).2 b rfl) (fun c' s' ⟨q, φ', p⟩ => by subst q; exact k φ' s' p (c.next p)) fun _ _ e => e
end
end Mine
end

section
set_option maxRecDepth 100000
namespace Mine
open PySem PySem.W PySem.Calls PyProof.Rows PySem.SeqAt
noncomputable def knot (e : Expr) : Bool := tag e 0 || (tag e 3 || (tag e 5 || tag e 15))
theorem isTrue_eq {e : Expr} (h : knot e = false) : ∀ (penv : Env) (whole : Sem Value), isTrue e penv whole = (do let v ← whole; standAt e.pos; holding [v] (truthy v)) :=
  bif_use (b := !knot e) (by rw [h]; rfl) (by cases e <;> first | exact trivial | exact fun _ _ => rfl)
theorem tag_knot {e : Expr} {k : Nat} (h : tag e k = true) (hk : (Nat.beq k 0 || (Nat.beq k 3 || (Nat.beq k 5 || Nat.beq k 15))) = false) : knot e = false := by
  unfold knot tag; rw [Nat.eq_of_beq_eq_true h]; exact hk
theorem notStar_each {e : Expr} (h : notStar e = true) {rest : List Expr} {penv : Env} : starEach (e :: rest) penv = (false, PySem.eval e penv) :: starEach rest penv :=
  bif_use h (by cases e <;> first | exact trivial | exact rfl)
theorem row_cons {e es : XE} {sc : Sc} {l : List Expr} (h : chk (.cons e es) sc (row l) = true) : ∃ x r, l = x :: r ∧ notStar x = true ∧ chk e sc x = true ∧ chk es sc (row r) = true := by
  obtain ⟨h1, h2, h3, h4⟩ := an4 (show (!l.isEmpty && (notStar (hdx l) && (chk e sc (hdx l) && chk es sc (row l.tail)))) = true from h)
  cases l with
  | nil => exact absurd h1 Bool.false_ne_true
  | cons x r => exact ⟨x, r, rfl, h2, h3, h4⟩
theorem row_nil {sc : Sc} {l : List Expr} (h : chk .nil sc (row l) = true) : l = [] := List.isEmpty_iff.mp (show l.isEmpty = true from h)
section
variable {n : Nat} {env : XEnv} {st st1 st2 st' : XSt} {e e1 e2 es : XE} {v w a b : XVal} {vs : List XVal}
theorem EV.mk {k : Nat} (hk : (Nat.beq k 0 || (Nat.beq k 3 || (Nat.beq k 5 || Nat.beq k 15))) = false) (ht : ∀ {sc x}, chk e sc x = true → tag x k = true)
    (h : ∀ C, COk C → ∀ A φ s penv sc x (E : Value → Shared → Prop), Cx C A n φ st s penv sc env → chk e sc x = true → wpAny (model C.prog C.w) A (PySem.eval x penv) (Got C φ st s st' v) E s) : EV n env st e v st' := by
  intro C X A φ s penv sc x E c hc
  refine ⟨h C X A φ s penv sc x E c hc, fun b hb => ?_⟩
  subst hb
  refine isTrue_plain (wpAny_mono (h C X A φ s penv sc x E c hc) (fun y s' ⟨φ', p, q⟩ => ?_) fun _ _ e => e) (isTrue_eq (tag_knot (ht hc) hk) _ _)
  cases q.bool_inv
  exact wpAny_truthy_bool ⟨rfl, φ', p⟩
theorem E.cN : EV n env st .cN .none st := .mk (k := 19) rfl (fun h => (an h).1) fun C X A φ s penv sc x E c hc => by
  obtain ⟨h1, h2⟩ := an hc
  obtain ⟨_, _, _, rfl⟩ := inv19 h1
  cases eq_of_beq h2
  exact Constant_none (got_here' c.wd .none)
theorem E.cB {i : Bool} : EV n env st (.cB i) (.bool i) st := .mk (k := 19) rfl (fun h => by cases i <;> exact (an h).1) fun C X A φ s penv sc x E c hc => by
  have : tag x 19 = true ∧ eConst x = .bool i := by cases i <;> exact ⟨(an hc).1, eq_of_beq (an hc).2⟩
  obtain ⟨h1, h2⟩ := this
  obtain ⟨_, _, _, rfl⟩ := inv19 h1
  cases h2
  exact Constant_bool (got_here' c.wd (.bool _))
theorem E.cI {i : Int} : EV n env st (.cI i) (.int i) st := by
  intro C X A φ s penv sc x E c hc
  refine ⟨?_, fun b h => nomatch h⟩
  rcases (Bool.or_eq_true _ _).mp hc with q | q
  · obtain ⟨h1, h2⟩ := an q
    obtain ⟨_, _, _, rfl⟩ := inv19 h1
    cases eq_of_beq h2
    exact wpAny_Constant_int (got_here c.wd (.int _ _) _)
  · obtain ⟨h1, h2, h3, h4⟩ := an4 q
    obtain ⟨o, y, _, rfl⟩ := inv3 h1
    obtain ⟨_, _, _, rfl⟩ := inv19 h3
    cases eq_of_beq h4
    have : o = .USub := by cases o <;> first | rfl | exact absurd h2 Bool.false_ne_true
    cases this
    refine UnaryOp_ (wpAny_Constant_int (PyProof.Rows.neg_int ?_))
    have := got_here c.wd (VR.int (C := C) (φ := φ) (st := st) (h := s.heap) i (s.toks + 1)) (s.toks + 1 + 1)
    rw [Int.neg_neg]; exact this
theorem E.cS {i : String} : EV n env st (.cS i) (.str i) st := .mk (k := 19) rfl (fun h => (an h).1) fun C X A φ s penv sc x E c hc => by
  obtain ⟨h1, h2⟩ := an hc
  obtain ⟨_, _, _, rfl⟩ := inv19 h1
  cases eq_of_beq h2
  exact Constant_str (got_here c.wd (.str _ _) _)
theorem nm_inv {x : Expr} {s : String} (h : nm x s = true) : ∃ p, x = .Name (S s) p := by
  obtain ⟨h1, h2⟩ := an h
  obtain ⟨_, p, rfl⟩ := inv23 h1
  exact ⟨p, by rw [← isNm_eq h2]; rfl⟩
theorem E.loc {x : String} (h : env x = some v) : EV n env st (.loc x) v st := .mk (k := 23) rfl (fun h => (an (an h).1).1) fun C X A φ s penv sc x E c hc => by
  obtain ⟨h1, h2⟩ := an hc
  obtain ⟨p, rfl⟩ := nm_inv h1
  exact name_loc c.ok c.wd c.fr h2 h fun y q => got_here' c.wd q
theorem E.glob {f : String} : EV n env st (.glob f) (.fn f) st := .mk (k := 23) rfl (fun h => (an (an h).1).1) fun C X A φ s penv sc x E c hc => by
  obtain ⟨h1, h2, h3⟩ := an3 hc
  obtain ⟨p, rfl⟩ := nm_inv h1
  obtain ⟨mg, mb, g1, g2, g3, _⟩ := X.glob
  obtain ⟨a, f1, f2⟩ := g3 f (List.contains_iff_mem.mp h3)
  exact name_glob c.ok c.wd h2 g1 f2 (got_here' c.wd (.fn f1))
theorem EVS.args {C : XC} {A : Around} {sc : Sc} {penv : Env} {pos : Pos} {E : Value → Shared → Prop} (X : COk C) (h : EVS n env st es vs st') : ∀ {φ s} {xs : List Expr} {Q : List Value → Shared → Prop}, Cx C A n φ st s penv sc env → chk es sc (row xs) = true →
    (∀ φ' s' ys, Post C φ st s [] φ' st' s' → All2 (VR C φ' st' s'.heap) ys vs → Cx C A n φ' st' s' penv sc env → Q ys s') → wpAny (model C.prog C.w) A (spliced (backTo pos (starEach xs penv))) Q E s := by
  induction h with
  | nil =>
    intro φ s xs Q c hc k
    cases row_nil hc
    exact spliced_nil (k φ s [] (.refl c.wd) .nil c)
  | cons h1 _ ih =>
    intro φ s xs Q c hc k
    obtain ⟨x, r, rfl, n1, n2, n3⟩ := row_cons hc
    rw [notStar_each n1]
    exact spliced_cons (h1.use X c n2 fun φ1 s1 y p q c1 => ih c1 n3 fun φ2 s2 ys p2 q2 c2 => k φ2 s2 (y :: ys) (p.trans p2) (.cons (p2.vr0 c1.wd q) q2) c2)
theorem EVS.length (h : EVS n env st es vs st') : ∀ {sc xs}, chk es sc (row xs) = true → xs.length = vs.length ∧ ∀ x ∈ xs, notStar x = true := by
  induction h with
  | nil => intro sc xs hc; cases row_nil hc; exact ⟨rfl, fun _ h => nomatch h⟩
  | cons _ _ ih =>
    intro sc xs hc
    obtain ⟨x, r, rfl, n1, _, n3⟩ := row_cons hc
    obtain ⟨i1, i2⟩ := ih n3
    exact ⟨congrArg (· + 1) i1, fun y hy => (List.mem_cons.mp hy).elim (fun z => z ▸ n1) (i2 y)⟩
theorem EE.nil : EVS n env st .nil [] st := .nil
theorem EE.cons (h1 : EV n env st e v st1) (h2 : EVS n env st1 es vs st2) : EVS n env st (.cons e es) (v :: vs) st2 := .cons h1 h2
theorem EE.one (h1 : EV n env st e v st1) : EVS n env st (.cons e .nil) [v] st1 := .cons h1 .nil
theorem limS {n : Nat} (h : n ≤ LIM) : n ≤ sizeLine := by rw [sizeLine_eq]; exact Nat.le_trans h (by decide)
theorem lim100 {n : Nat} (h : n ≤ 100) : n ≤ LIM := Nat.le_trans h (by decide)
theorem push_len {st : XSt} {r : Nat} {o : XObj} : (st r).length < (st.push r o r).length := by unfold XSt.push; simp
theorem push_list {C : XC} {φ : Lay} {s : Shared} (W : Wd C φ st s.heap) {r : Nat} {items : Array Value} {xs : List XVal} (hs : All2 (VR C φ st s.heap) items.toList xs) (hn : xs.length ≤ LIM) (t : Nat) :
    Got C φ st s (st.push r (.list xs)) (.ref r (st r).length) (.ref s.heap.objs.size) { s with heap := s.heap.push { cls := .type "list", data := .seq items }, toks := t } := by
  obtain ⟨W', e⟩ := W.grow (r := r) (o := .list xs) (a := s.heap.objs.size) (d := 0) (h' := s.heap.push { cls := .type "list", data := .seq items }) (fun _ _ e => Heap.get?_push_of_some _ e) (by simp) (Nat.le_refl _) (fun z => nomatch z)
    (fun f => ⟨items, 0, IsL.new _ _, hs.mono f, hn⟩)
  refine ⟨_, ⟨⟨_, _, rfl⟩, W', e⟩, ?_⟩
  have := VR.ref (C := C) (φ := φ.put r (st r).length s.heap.objs.size 0) (st := st.push r (.list xs)) (h := s.heap.push { cls := .type "list", data := .seq items }) (push_len (st := st) (r := r) (o := .list xs))
  rw [Lay.put_a] at this
  exact this
theorem push_tuple {C : XC} {φ : Lay} {s : Shared} (W : Wd C φ st s.heap) {items : Array Value} {xs : List XVal} (hs : All2 (VR C φ st s.heap) items.toList xs) (t : Nat) :
    Got C φ st s st (.tup xs) (.ref s.heap.objs.size) { s with heap := s.heap.push { cls := .type "tuple", data := .seq items }, toks := t } := by
  obtain ⟨W', e⟩ := W.push { cls := .type "tuple", data := .seq items }
  exact ⟨φ, ⟨⟨_, _, rfl⟩, W', e⟩, .tup (IsT.new _ _) (hs.mono fun _ _ q => VR.mono W ExOk.nil e q)⟩
theorem E.tup (h : EVS n env st es vs st1) (hl : vs.length ≤ 100) : EV n env st (.tup es) (.tup vs) st1 := .mk (k := 25) rfl (fun h => (an h).1) fun C X A φ s penv sc x E c hc => by
  obtain ⟨h1, h2⟩ := an hc
  obtain ⟨_, _, _, rfl⟩ := inv25 h1
  refine wpAny_Tuple_spliced (h.args X c h2 fun φ' s' ys p v c' => ⟨by rw [v.length]; exact limS (lim100 hl), Got.via p (push_tuple c'.wd (items := ys.toArray) v s'.toks)⟩)
theorem E.list (r : Nat) (h : EVS n env st es vs st1) (hl : vs.length ≤ 100) : EV n env st (.list es) (.ref r (st1 r).length) (st1.push r (.list vs)) := .mk (k := 24) rfl (fun h => (an h).1) fun C X A φ s penv sc x E c hc => by
  obtain ⟨h1, h2⟩ := an hc
  obtain ⟨_, _, rfl⟩ := inv24 h1
  refine wpAny_List_spliced (h.args X c h2 fun φ' s' ys p v c' => ⟨by rw [v.length]; exact limS (lim100 hl), Got.via p (push_list c'.wd (items := ys.toArray) v (lim100 hl) s'.toks)⟩)
theorem truth_b {M : Model} {A : Around} {s : Shared} {E : Value → Shared → Prop} {b : Bool} {Q : Bool → Shared → Prop} (h : Q b s) : wpAny M A (truthy (.bool b)) Q E s := wpAny_truthy_bool h
theorem E.not {c : Bool} (h : EV n env st e (.bool c) st1) : EV n env st (.not e) (.bool (!c)) st1 := by
  intro C X A φ s penv sc x E cx hc
  obtain ⟨h1, h2, h3⟩ := an3 hc
  obtain ⟨o, y, _, rfl⟩ := inv3 h1
  have : o = .Not := by cases o <;> first | rfl | exact absurd h2 Bool.false_ne_true
  cases this
  refine ⟨UnaryOp_ (h.use X cx h3 fun φ' s' y p v c' => ?_), fun b hb => ?_⟩
  · cases v.bool_inv
    exact not_of (truth_b ⟨φ', p, .bool _⟩)
  · cases hb
    exact isTrue_not (h.test X cx h3 fun φ' s' p c' => ⟨rfl, φ', p⟩)
theorem ife_inv {T B O : XE} {sc : Sc} {x : Expr} (h : chk (.ife T B O) sc x = true) : ∃ t b o p, x = .IfExp t b o p ∧ chk T sc t = true ∧ chk B sc b = true ∧ chk O sc o = true := by
  have h : (tag x 5 && (chk T sc (eL x) && chk (.cons B (.cons O .nil)) sc (row [eM x, eR x]))) = true := h
  have h2 := (an h).2
  obtain ⟨t, b, o, p, rfl⟩ := inv5 (an h).1
  have h3 : (!tag b 22 && (chk B sc b && (!tag o 22 && (chk O sc o && true)))) = true := (an h2).2
  exact ⟨t, b, o, p, rfl, (an h2).1, (an (an h3).2).1, (an (an (an (an h3).2).2).2).1⟩
theorem E.ifT {B O : XE} (h1 : EV n env st e (.bool true) st1) (h2 : EV n env st1 B v st2) : EV n env st (.ife e B O) v st2 := by
  intro C X A φ s penv sc x E c hc
  obtain ⟨_, b', o', _, rfl, k2, k4, _⟩ := ife_inv hc
  clear hc
  exact ⟨IfExp_ (h1.test X c k2 fun φ' s' p c' => h2.use X c' k4 fun φ2 s2 y p2 q _ => ⟨φ2, p.trans p2, q⟩), fun b hb => by
    subst hb; exact isTrue_IfExp (h1.test X c k2 fun φ' s' p c' => h2.test X c' k4 fun φ2 s2 p2 _ => ⟨rfl, φ2, p.trans p2⟩)⟩
theorem E.ifF {B O : XE} (h1 : EV n env st e (.bool false) st1) (h2 : EV n env st1 O v st2) : EV n env st (.ife e B O) v st2 := by
  intro C X A φ s penv sc x E c hc
  obtain ⟨_, b', o', _, rfl, k2, _, k4⟩ := ife_inv hc
  clear hc
  exact ⟨IfExp_ (h1.test X c k2 fun φ' s' p c' => h2.use X c' k4 fun φ2 s2 y p2 q _ => ⟨φ2, p.trans p2, q⟩), fun b hb => by
    subst hb; exact isTrue_IfExp (h1.test X c k2 fun φ' s' p c' => h2.test X c' k4 fun φ2 s2 p2 _ => ⟨rfl, φ2, p.trans p2⟩)⟩
theorem and_inv {l r : XE} {sc : Sc} {x : Expr} (h : chk (.and l r) sc x = true) : ∃ a b p rest z, x = .BoolOp .And (a :: b :: rest) p ∧ chk l sc a = true ∧ chk r sc z = true ∧ ((rest = [] ∧ z = b) ∨ z = .BoolOp .And (b :: rest) p) := by
  have h : (tag x 0 && (eOp x 0 && (Nat.ble 2 (eXs x).length && (chk l sc (hdx (eXs x)) && chk r sc (bif (eXs x).tail.tail.isEmpty then hdx (eXs x).tail else .BoolOp .And (eXs x).tail (ePos x)))))) = true := h
  have h2 := (an h).2
  obtain ⟨o, vs, p, rfl⟩ := inv0 (an h).1
  clear h
  have : o = .And := by have := (an h2).1; cases o <;> first | rfl | exact absurd this Bool.false_ne_true
  subst this
  have h3 : (Nat.ble 2 vs.length && (chk l sc (hdx vs) && chk r sc (bif vs.tail.tail.isEmpty then hdx vs.tail else .BoolOp .And vs.tail p))) = true := (an h2).2
  clear h2
  match vs, h3 with
  | [a, b], h3 => exact ⟨a, b, p, [], _, rfl, (an (an h3).2).1, (an (an h3).2).2, .inl ⟨rfl, rfl⟩⟩
  | a :: b :: c :: rest, h3 => exact ⟨a, b, p, _, _, rfl, (an (an h3).2).1, (an (an h3).2).2, .inr rfl⟩
theorem or_inv {l r : XE} {sc : Sc} {x : Expr} (h : chk (.or l r) sc x = true) : ∃ a b p rest z, x = .BoolOp .Or (a :: b :: rest) p ∧ chk l sc a = true ∧ chk r sc z = true ∧ ((rest = [] ∧ z = b) ∨ z = .BoolOp .Or (b :: rest) p) := by
  have h : (tag x 0 && (eOp x 1 && (Nat.ble 2 (eXs x).length && (chk l sc (hdx (eXs x)) && chk r sc (bif (eXs x).tail.tail.isEmpty then hdx (eXs x).tail else .BoolOp .Or (eXs x).tail (ePos x)))))) = true := h
  have h2 := (an h).2
  obtain ⟨o, vs, p, rfl⟩ := inv0 (an h).1
  clear h
  have : o = .Or := by have := (an h2).1; cases o <;> first | rfl | exact absurd this Bool.false_ne_true
  subst this
  have h3 : (Nat.ble 2 vs.length && (chk l sc (hdx vs) && chk r sc (bif vs.tail.tail.isEmpty then hdx vs.tail else .BoolOp .Or vs.tail p))) = true := (an h2).2
  clear h2
  match vs, h3 with
  | [a, b], h3 => exact ⟨a, b, p, [], _, rfl, (an (an h3).2).1, (an (an h3).2).2, .inl ⟨rfl, rfl⟩⟩
  | a :: b :: c :: rest, h3 => exact ⟨a, b, p, _, _, rfl, (an (an h3).2).1, (an (an h3).2).2, .inr rfl⟩
theorem E.andT (h1 : EV n env st e1 (.bool true) st1) (h2 : EV n env st1 e2 v st2) : EV n env st (.and e1 e2) v st2 := by
  intro C X A φ s penv sc x E c hc
  obtain ⟨a, b, p, rest, z, rfl, k1, k2, k3⟩ := and_inv hc
  constructor
  · refine BoolOp_and (h1.use X c k1 fun φ' s' y p v c' => ?_)
    cases v.bool_inv
    refine truth_b ?_
    have := h2.use (E := E) X c' k2 fun φ2 s2 y p2 q _ => (⟨φ2, p.trans p2, q⟩ : Got C φ st s st2 _ y s2)
    rcases k3 with ⟨rfl, rfl⟩ | rfl <;> exact this
  · intro t ht; subst ht
    refine isTrue_and (h1.test X c k1 fun φ' s' p c' => ?_)
    rcases k3 with ⟨rfl, rfl⟩ | rfl
    · refine isTrue_and (h2.test X c' k2 fun φ2 s2 p2 _ => ?_)
      cases t with
      | true => exact isTrue_and_nil ⟨rfl, φ2, p.trans p2⟩
      | false => exact ⟨rfl, φ2, p.trans p2⟩
    · exact h2.test X c' k2 fun φ2 s2 p2 _ => ⟨rfl, φ2, p.trans p2⟩
theorem E.andF (h1 : EV n env st e1 (.bool false) st1) : EV n env st (.and e1 e2) (.bool false) st1 := by
  intro C X A φ s penv sc x E c hc
  obtain ⟨a, b, p, rest, z, rfl, k1, _⟩ := and_inv hc
  refine ⟨BoolOp_and (h1.use X c k1 fun φ' s' y p v c' => ?_), fun t ht => ?_⟩
  · cases v.bool_inv
    exact truth_b ⟨φ', p, .bool _⟩
  · cases ht
    exact isTrue_and (h1.test X c k1 fun φ' s' p c' => ⟨rfl, φ', p⟩)
theorem E.orF (h1 : EV n env st e1 (.bool false) st1) (h2 : EV n env st1 e2 v st2) : EV n env st (.or e1 e2) v st2 := by
  intro C X A φ s penv sc x E c hc
  obtain ⟨a, b, p, rest, z, rfl, k1, k2, k3⟩ := or_inv hc
  constructor
  · refine BoolOp_or (h1.use X c k1 fun φ' s' y p v c' => ?_)
    cases v.bool_inv
    refine truth_b ?_
    have := h2.use (E := E) X c' k2 fun φ2 s2 y p2 q _ => (⟨φ2, p.trans p2, q⟩ : Got C φ st s st2 _ y s2)
    rcases k3 with ⟨rfl, rfl⟩ | rfl <;> exact this
  · intro t ht; subst ht
    refine isTrue_or (h1.test X c k1 fun φ' s' p c' => ?_)
    rcases k3 with ⟨rfl, rfl⟩ | rfl
    · refine isTrue_or (h2.test X c' k2 fun φ2 s2 p2 _ => ?_)
      cases t with
      | false => exact isTrue_or_nil ⟨rfl, φ2, p.trans p2⟩
      | true => exact ⟨rfl, φ2, p.trans p2⟩
    · exact h2.test X c' k2 fun φ2 s2 p2 _ => ⟨rfl, φ2, p.trans p2⟩
theorem E.orT (h1 : EV n env st e1 (.bool true) st1) : EV n env st (.or e1 e2) (.bool true) st1 := by
  intro C X A φ s penv sc x E c hc
  obtain ⟨a, b, p, rest, z, rfl, k1, _⟩ := or_inv hc
  refine ⟨BoolOp_or (h1.use X c k1 fun φ' s' y p v c' => ?_), fun t ht => ?_⟩
  · cases v.bool_inv
    exact truth_b ⟨φ', p, .bool _⟩
  · cases ht
    exact isTrue_or (h1.test X c k1 fun φ' s' p c' => ⟨rfl, φ', p⟩)
theorem E.drop (h : EV n env st e v st1) (D : Drop st st1 st2 v) : EV n env st e v st2 := fun C X A φ s penv sc x E c hc =>
  let ⟨h1, h2⟩ := h C X A φ s penv sc x E c hc
  ⟨wpAny_mono h1 (fun _ _ q => D.got c.wd q) fun _ _ e => e, fun b hb => wpAny_mono (h2 b hb) (fun _ _ ⟨q, φ', p⟩ => ⟨q, φ', D.post c.wd p⟩) fun _ _ e => e⟩
theorem E.le {m : Nat} (h : EV m env st e v st1) (hm : m ≤ n) : EV n env st e v st1 := fun C X A φ s penv sc x E c hc => h C X A φ s penv sc x E ⟨c.room.le hm, c.wd, c.ok, c.fr⟩ hc
end
end Mine
end

section
set_option maxRecDepth 100000
namespace Mine
open PySem PySem.W PySem.Calls PyProof.Rows PySem.SeqAt
noncomputable def CV (n : Nat) (f : String) (args : List XVal) (st : XSt) (v : XVal) (st' : XSt) : Prop := ∀ C, COk C → ∃ a, C.fa f = some a ∧ ∀ A φ s argv, RoomC A n → Wd C φ st s.heap → All2 (VR C φ st s.heap) argv args →
  codeAny (model C.prog C.w) A (.call (.ref a) ⟨argv, []⟩) (fun r s' => ∃ y, r = .ok (.ret y) ∧ Got C φ st s st' v y s') s
noncomputable def Cl (n : Nat) (f : String) (args : List XVal) (st : XSt) (Q : XVal → XSt → Prop) : Prop := ∃ v st', CV n f args st v st' ∧ Q v st'
inductive FlowR (C : XC) (φ : Lay) (st : XSt) (h : Heap) : Flow → XFlow → Prop
  | next : FlowR C φ st h .next .next
  | ret {v x} : VR C φ st h v x → FlowR C φ st h (.ret v) (.ret x)
noncomputable def Done (C : XC) (φ : Lay) (st : XSt) (s : Shared) (ex : List Addr) (penv : Env) (fl : XFlow) (env' : XEnv) (st' : XSt) (f : Flow) (s' : Shared) : Prop :=
  ∃ φ', Post C φ st s ex φ' st' s' ∧ FlowR C φ' st' s'.heap f fl ∧ FRel C φ' st' s'.heap penv env'
noncomputable def XX (n : Nat) (ss : XS) (env : XEnv) (st : XSt) (fl : XFlow) (env' : XEnv) (st' : XSt) : Prop := ∀ C, COk C → ∀ A φ s penv sc l (E : Value → Shared → Prop), Cx C A n φ st s penv sc env → chkS ss sc l = true →
  wpAny (model C.prog C.w) A (PySem.execs l penv) (fun f s' => Done C φ st s [penv.locals] penv fl env' st' f s') E s
noncomputable def Bx (n : Nat) (ss : XS) (env : XEnv) (st : XSt) (Q : XFlow → XEnv → XSt → Prop) : Prop := ∃ fl env' st', XX n ss env st fl env' st' ∧ Q fl env' st'
noncomputable def XFlow.val (f : XFlow) : XVal := f.casesOn .none fun v => v
section
variable {n m : Nat} {env : XEnv} {st st1 st2 st3 st' : XSt} {e e1 e2 es o : XE} {v w a b : XVal} {vs args : List XVal} {f x : String} {Q Q' : XVal → XSt → Prop}
theorem Cl.mono (h : Cl n f args st Q) (k : ∀ v st, Q v st → Q' v st) : Cl n f args st Q' := let ⟨a, b, e, q⟩ := h; ⟨a, b, e, k _ _ q⟩
theorem Cl.is (h : Cl n f args st fun w s => w = v ∧ s = st') : CV n f args st v st' := by
  obtain ⟨_, _, h, rfl, rfl⟩ := h; exact h
theorem CV.drop (h : CV n f args st v st1) (D : Drop st st1 st2 v) : CV n f args st v st2 := fun C X =>
  let ⟨a, ha, k⟩ := h C X
  ⟨a, ha, fun A φ s argv r W q => codeAny_mono (k A φ s argv r W q) fun _ _ ⟨y, h1, h2⟩ => ⟨y, h1, D.got W h2⟩⟩
theorem CV.le (h : CV m f args st v st1) (hm : m ≤ n) : CV n f args st v st1 := fun C X =>
  let ⟨a, ha, k⟩ := h C X
  ⟨a, ha, fun A φ s argv r W q => k A φ s argv ⟨r.handled, by have := r.depth; omega, by have := r.units; omega⟩ W q⟩
theorem call_inv {x : Expr} (h : chkCall x f = true) : ∃ p xs q, x = .Call (.Name (S f) p) xs [] q := by
  obtain ⟨h1, h2, h3⟩ := an3 h
  obtain ⟨_, xs, k, q, rfl⟩ := inv16 h1
  obtain ⟨p, e⟩ := nm_inv h3
  exact ⟨p, xs, q, by rw [show k = [] from List.isEmpty_iff.mp h2, ← e]; rfl⟩
section
variable {C : XC} {φ : Lay} {s : Shared} {A : Around} {E : Value → Shared → Prop} {penv : Env} {sc : Sc}
theorem callWith_any {P : Heap → Prop} {f : Value} {first : List Value} {pos : Pos} {es : List Expr} {Q : Value → Shared → Prop} (hk : ∀ h, P h → ∃ k, (k = Keeper.frame ∨ k = Keeper.machine ∨ k = Keeper.boundFrame) ∧ Looks (model C.prog C.w) h (keeperOf f) k)
    (hs : ∀ e ∈ es, notStar e = true) (h : wpAny (model C.prog C.w) A (spliced (backTo pos (starEach es penv))) (fun vs s₁ => P s₁.heap ∧ wpAny (model C.prog C.w) A (call f (first ++ vs)) Q E s₁) E s) :
    wpAny (model C.prog C.w) A (callWith pos f first (backTo pos (starEach es penv)) []) Q E s := by
  have each : ∀ es : List Expr, (∀ e ∈ es, notStar e = true) → backTo pos (starEach es penv) = es.map fun e => (false, PySem.eval e penv) := by
    intro es hs
    induction es with
    | nil => rfl
    | cons e r ih => rw [notStar_each (hs e (.head _))]; exact congrArg (_ :: ·) (ih fun e he => hs e (.tail _ he))
  rw [each es hs] at h ⊢
  cases es with
  | nil =>
    refine callWith_of (P := P) rfl hk ?_
    unfold evalArgs
    show wpAny _ _ (spliced [] >>= _) _ _ _
    refine wpAny_bind (wpAny_mono h (fun vs s₁ z => ?_) fun _ _ e => e)
    exact wpAny_bind (wpAny_pure (wpAny_holding (wpAny_bind (wpAny_pure (wpAny_bind (wpAny_pure (wpAny_pure z)))))))
  | cons e r =>
    refine callWith_of (P := P) ?_ hk (evalArgs_plain h)
    simp
theorem call_own (X : COk C) (ih : EVS (n + 1) env st es vs st1) (c : Cx C A (n + 1) φ st s penv sc env) {xs : List Expr} {pos : Pos} {a : Addr} {first : List Value} {fs : List XVal} (h2 : CV n f (fs ++ vs) st1 v st') (hc : chk es sc (row xs) = true) (ha : C.fa f = some a)
    (hf : All2 (VR C φ st s.heap) first fs) : wpAny (model C.prog C.w) A (callWith pos (.ref a) first (backTo pos (starEach xs penv)) []) (Got C φ st s st' v) E s := by
  obtain ⟨a', ha', k⟩ := h2 C X
  rw [ha] at ha'; cases ha'
  refine callWith_any (P := C.K.In) (keep_fn X ha) (ih.length hc).2 (ih.args X c hc fun φ' s' ys p v c' => ⟨In_of X c'.wd, ?_⟩)
  refine wpAny_call (codeAny_mono (k A φ' s' (first ++ ys) c'.room.call c'.wd ((p.vrs0 c.wd hf).append v)) fun r s'' ⟨y, hr, q⟩ => ?_)
  subst hr
  exact Got.via p q
end
theorem E.call (h1 : EVS (n + 1) env st es vs st1) (h2 : CV n f vs st1 v st2) : EV (n + 1) env st (.call f es) v st2 := .mk (k := 16) rfl (fun h => (an (an h).1).1) fun C X A φ s penv sc x E c hc => by
  obtain ⟨k1, k2, k3, k4⟩ := an4 hc
  obtain ⟨p, xs, q, rfl⟩ := call_inv k1
  obtain ⟨mg, mb, g1, g2, g3, _⟩ := X.glob
  obtain ⟨a, f1, f2⟩ := g3 f (List.contains_iff_mem.mp k3)
  exact Call_ (name_glob c.ok c.wd k2 g1 f2 (call_own X h1 c (fs := []) h2 k4 f1 .nil))
theorem E.callv (h0 : env x = some (.fn f)) (h1 : EVS (n + 1) env st es vs st1) (h2 : CV n f vs st1 v st2) : EV (n + 1) env st (.callv x es) v st2 := .mk (k := 16) rfl (fun h => (an (an h).1).1) fun C X A φ s penv sc x E c hc => by
  obtain ⟨k1, k2, k3⟩ := an3 hc
  obtain ⟨p, xs, q, rfl⟩ := call_inv k1
  refine Call_ (name_loc c.ok c.wd c.fr k2 h0 fun y q => ?_)
  cases q with
  | fn hf => exact call_own X h1 c (fs := []) h2 k3 hf .nil
noncomputable abbrev Fields (C : XC) (φ : Lay) (st : XSt) (h : Heap) : List DictEntry → List (String × XVal) → Prop := All2 (fun e f => (∃ t, e.key = .str (S f.1) t) ∧ VR C φ st h e.val f.2)
theorem isStr_S {v : Value} {a b : String} {t : Tok} (h : v = .str (S a) t) : v.isStr (S b) = decide (a = b) := by
  subst h; exact (S_dec a b).symm
section
variable {C : XC} {φ : Lay} {h : Heap} {de : List DictEntry} {fs : List (String × XVal)}
theorem fields_noref (x : Fields C φ st h de fs) : de.any (·.refKey) = false := by
  induction x with
  | nil => rfl
  | cons p q ih =>
    obtain ⟨⟨t, ht⟩, _⟩ := p
    rw [List.any_cons, ih]
    simp [DictEntry.refKey, ht]
theorem fields_find (x : Fields C φ st h de fs) (a : String) : (∀ w, lookupS a fs = some w → ∃ e, de.find? (·.key.isStr (S a)) = some e ∧ VR C φ st h e.val w) ∧ (lookupS a fs = none → de.find? (·.key.isStr (S a)) = none) := by
  induction x with
  | nil => exact ⟨fun _ z => (nomatch z), fun _ => rfl⟩
  | @cons e f l m p q ih =>
    obtain ⟨⟨t, ht⟩, hv⟩ := p
    have := isStr_S (b := a) ht
    show (∀ w, (if f.1 = a then some f.2 else lookupS a m) = some w → _) ∧ ((if f.1 = a then some f.2 else lookupS a m) = none → _)
    rw [List.find?_cons, this]
    by_cases z : f.1 = a
    · rw [if_pos z, decide_eq_true z]
      exact ⟨fun w z' => by cases z'; exact ⟨e, rfl, hv⟩, fun z' => (nomatch z')⟩
    · rw [if_neg z, decide_eq_false z]
      exact ih
theorem fields_get (x : Fields C φ st h de fs) {a : String} {w : XVal} (e : lookupS a fs = some w) : ∃ v, PySem.W.getL (S a) de = some (some v) ∧ VR C φ st h v w :=
  let ⟨e, h1, h2⟩ := (fields_find x a).1 w e
  ⟨e.val, by unfold PySem.W.getL; rw [h1], h2⟩
theorem fields_no (x : Fields C φ st h de fs) {a : String} (e : lookupS a fs = none) : PySem.W.getL (S a) de = some none := by
  unfold PySem.W.getL; rw [(fields_find x a).2 e]; simp [fields_noref x]
theorem inst_at (W : Wd C φ st h) {r i : Nat} {c : String} {fs : List (String × XVal)} (q : (st r)[i]? = some (.inst c fs)) : ∃ k es n, C.ca c = some k ∧ h.get? (φ.a r i) = some (instObj k (φ.d r i)) ∧ h.get? (φ.d r i) = some (dictOf es n) ∧ Fields C φ st h es fs := W.rel r i _ q
end
end
end Mine
end

section
set_option maxRecDepth 100000
namespace Mine
open PySem PySem.W PySem.Calls PyProof.Rows PySem.SeqAt
theorem base_plain {o : Expr} {attr : Str} {env : Env} {w : Sem Value} (h : notSuper o = true) : attributeBase o attr env w = w := by
  have key : ∀ f xs k p, o = .Call f xs k p → attributeBase o attr env w = w := by
    intro f xs k p e
    subst e
    have h : (!(xs.isEmpty && tag f 23)) = true := h
    by_cases q : tag f 23 = true
    · obtain ⟨i, p, e⟩ := inv23 q
      subst e
      cases xs with
      | cons => rfl
      | nil => exact absurd h Bool.false_ne_true
    · exact bif_use (b := !tag f 23) ((Bool.not_eq_true' _).mpr ((Bool.not_eq_true _).mp q)) (by cases f <;> first | exact trivial | exact rfl)
  by_cases q : tag o 16 = true
  · obtain ⟨f, xs, k, p, e⟩ := inv16 q; exact key f xs k p e
  · exact bif_use (b := !tag o 16) ((Bool.not_eq_true' _).mpr ((Bool.not_eq_true _).mp q)) (by cases o <;> first | exact trivial | exact rfl)
section
variable {prog : Program} {w : World} {A : Around} {E : Value → Shared → Prop} {s : Shared} {env : Env}
theorem each_plain {pos : Pos} : ∀ {es : List Expr}, (∀ e ∈ es, notStar e = true) → backTo pos (starEach es env) = es.map fun e => (false, PySem.eval e env) := by
  intro es hs
  induction es with
  | nil => rfl
  | cons e r ih => rw [notStar_each (hs e (.head _))]; exact congrArg (_ :: ·) (ih fun e he => hs e (.tail _ he))
theorem Call_meth {o : Expr} {name : Str} {apos pos : Pos} {args : List Expr} {Q : Value → Shared → Prop} (hsup : notSuper o = true) (hs : ∀ e ∈ args, notStar e = true) (hn : Nat.ble args.length 20 = true) (hline : (apos.endLine == pos.line) = true)
    (h : wpAny (model prog w) A (PySem.eval o env) (fun ov s₁ => wpAny (model prog w) A (getMethod ov name (do return (← importBound o env).getD true)) (fun fv s₂ => wpAny (model prog w) A (callWith pos fv.1 fv.2 (backTo pos (starEach args env)) []) Q E s₂) E s₁) E s) :
    wpAny (model prog w) A (PySem.eval (.Call (.Attribute o name apos) args [] pos) env) Q E s := by
  show wpAny _ _ (do
    let ov ← attributeBase o name env (PySem.eval o env)
    standAt apos.atName
    methodCall o name apos pos env ov (args.length + ([] : List Keyword).length) (backTo pos (starEach args env)) (backToKw pos (keywordEach [] env))) _ _ _
  rw [base_plain hsup]
  refine wpAny_bind (wpAny_mono h (fun ov s₁ h₁ => wpAny_bind (wpAny_standAt ?_)) fun _ _ e => e)
  have hform : methodCallForm (args.length + ([] : List Keyword).length) (backTo pos (starEach args env)) (backToKw pos (keywordEach [] env)) = true := by
    rw [each_plain hs]
    show ((args.map fun e => (false, PySem.eval e env)).all (!·.1) && true && decide (args.length + 0 < 30)) = true
    rw [Bool.and_true, List.all_map, Bool.and_eq_true]
    exact ⟨List.all_eq_true.mpr fun _ _ => rfl, decide_eq_true (Nat.lt_of_le_of_lt (Nat.le_of_ble_eq_true hn) (by decide))⟩
  have hpos : methodCallPos true o env apos pos = pure pos := by unfold methodCallPos; simp [hline]
  unfold methodCall
  rw [hform]
  refine wpAny_bind (wpAny_holding (wpAny_mono h₁ (fun fv s₂ h₂ => ?_) fun _ _ e => e))
  obtain ⟨f, first⟩ := fv
  exact wpAny_bind (wpAny_of_eq hpos h₂)
theorem Attr_plain {value : Expr} {attr : Str} {pos : Pos} {Q : Value → Shared → Prop} (hsup : notSuper value = true)
    (h : wpAny (model prog w) A (PySem.eval value env) (fun o s₁ => wpAny (model prog w) A (getAttr o attr true) Q E s₁) E s) : wpAny (model prog w) A (PySem.eval (.Attribute value attr pos) env) Q E s := by
  show wpAny _ _ (do
      let o ← attributeBase value attr env (PySem.eval value env)
      standAt pos.atName
      let r ← holding [o] (getAttr o attr true)
      letTemporaryGo value o r
      pure r) _ _ _
  rw [base_plain hsup]
  exact wpAny_bind (wpAny_mono h (fun o s₁ h₁ => wpAny_bind (wpAny_standAt (wpAny_bind (wpAny_holding (wpAny_mono h₁ (fun r s₂ h₂ => wpAny_bind (wpAny_letTemporaryGo (wpAny_pure h₂))) fun _ _ e => e))))) fun _ _ e => e)
theorem notIn_of_in {M : Model} {a b : Value} {c : Bool} {Q : Value → Shared → Prop} (h : wpAny M A (compareOp .In a b) (fun v s' => v = .bool c ∧ Q (.bool (!c)) s') E s) : wpAny M A (compareOp .NotIn a b) Q E s := by
  intro Γ p hΓ
  have := h Γ p hΓ
  show Sem.wp M Γ (contains b a >>= fun r => pure (Value.bool (!r))) _ _ p s
  have h2 : Sem.wp M Γ (contains b a >>= fun r => pure (Value.bool r)) (fun v _ s' => v = .bool c ∧ Q (.bool (!c)) s') (fun e _ s' => E e s') p s := this
  rw [Sem.wp_bind'] at h2 ⊢
  refine Sem.wp_mono M Γ _ (fun r p' s' z => ?_) (fun _ _ _ z => z) p s h2
  rw [Sem.wp_pure'] at z ⊢
  obtain ⟨z1, z2⟩ := z
  cases z1; exact z2
end
noncomputable def asI (v : XVal) : Option Int := v.casesOn none (fun _ => none) some (fun _ => none) (fun _ => none) (fun _ _ => none) (fun _ => none) fun _ => none
noncomputable def asS (v : XVal) : Option String := v.casesOn none (fun _ => none) (fun _ => none) some (fun _ => none) (fun _ _ => none) (fun _ => none) fun _ => none
noncomputable def asT (v : XVal) : Option (List XVal) := v.casesOn none (fun _ => none) (fun _ => none) (fun _ => none) some (fun _ _ => none) (fun _ => none) fun _ => none
noncomputable def atX (st : XSt) (v : XVal) : Option XObj := v.casesOn none (fun _ => none) (fun _ => none) (fun _ => none) (fun _ => none) (fun r i => (st r)[i]?) (fun _ => none) fun _ => none
noncomputable def oL (o : XObj) : Option (List XVal) := o.casesOn some (fun _ => none) (fun _ => none) fun _ _ => none
noncomputable def fieldX (a : String) (o : XObj) : Option XVal := o.casesOn (fun _ => none) (fun _ => none) (fun _ => none) fun _ fs => lookupS a fs
noncomputable def ownX (a : String) (o : XObj) : Option String := o.casesOn (fun _ => none) (fun _ => none) (fun _ => none) fun c fs => if (lookupS a fs).isNone then some c else none
noncomputable def attrX (st : XSt) (a : String) (v : XVal) : Option XVal := (atX st v).bind (fieldX a)
noncomputable def recvX (st : XSt) (a : String) (v : XVal) : Option String := (atX st v).bind (ownX a)
noncomputable def getL (st : XSt) (r i : Nat) : Option (List XVal) := ((st r)[i]?).bind oL
noncomputable def seqX (xs : List XVal) (i : Int) : Option XVal := if 0 ≤ i then xs[i.toNat]? else if i = -1 then xs.getLast? else none
noncomputable def subO (o : XObj) (i : XVal) : Option XVal := o.casesOn (fun xs => (asI i).bind (seqX xs)) (fun es => (asS i).bind fun k => lookupS k es) (fun es => (asI i).bind fun k => lookupI k es) fun _ _ => none
noncomputable def subX (st : XSt) (v i : XVal) : Option XVal := v.casesOn none (fun _ => none) (fun _ => none) (fun _ => none) (fun xs => (asI i).bind fun k => if xs.length ≤ LIM then seqX xs k else none) (fun r j => ((st r)[j]?).bind fun o => subO o i) (fun _ => none)
  fun ns => (asI i).bind fun k => if 0 ≤ k then (ns[k.toNat]?).map .int else none
theorem asI_eq {v : XVal} {i : Int} (h : asI v = some i) : v = .int i := by cases v <;> first | exact (Option.some_ne_none _ h.symm).elim | (cases h; rfl)
theorem asS_eq {v : XVal} {i : String} (h : asS v = some i) : v = .str i := by cases v <;> first | exact (Option.some_ne_none _ h.symm).elim | (cases h; rfl)
theorem atX_eq {st : XSt} {v : XVal} {o : XObj} (h : atX st v = some o) : ∃ r i, v = .ref r i ∧ (st r)[i]? = some o := by cases v <;> first | exact (Option.some_ne_none _ h.symm).elim | exact ⟨_, _, rfl, h⟩
theorem oL_eq {o : XObj} {xs : List XVal} (h : oL o = some xs) : o = .list xs := by cases o <;> first | exact (Option.some_ne_none _ h.symm).elim | (cases h; rfl)
theorem fieldX_eq {o : XObj} {a : String} {w : XVal} (h : fieldX a o = some w) : ∃ c fs, o = .inst c fs ∧ lookupS a fs = some w := by cases o <;> first | exact (Option.some_ne_none _ h.symm).elim | exact ⟨_, _, rfl, h⟩
theorem ownX_eq {o : XObj} {a : String} {c : String} (h : ownX a o = some c) : ∃ fs, o = .inst c fs ∧ lookupS a fs = none := by
  cases o with
  | inst c' fs =>
    have h : (if (lookupS a fs).isNone then some c' else none) = some c := h
    split at h
    · rename_i q; cases h; exact ⟨_, rfl, Option.isNone_iff_eq_none.mp q⟩
    · cases h
  | _ => exact (Option.some_ne_none _ h.symm).elim
theorem bind_eq {α β : Type} {x : Option α} {f : α → Option β} {b : β} (h : x.bind f = some b) : ∃ a, x = some a ∧ f a = some b := Option.bind_eq_some_iff.mp h
theorem getL_some {st : XSt} {r i : Nat} {xs : List XVal} (h : getL st r i = some xs) : (st r)[i]? = some (.list xs) := by
  obtain ⟨o, h1, h2⟩ := bind_eq h
  rw [h1, oL_eq h2]
theorem getL_at {st : XSt} {r i : Nat} {xs : List XVal} (h : (st r)[i]? = some (.list xs)) : getL st r i = some xs := by unfold getL; rw [h]; rfl
section
variable {n m : Nat} {env : XEnv} {st st1 st2 st3 st' : XSt} {e e1 e2 es o : XE} {v w a b : XVal} {vs args : List XVal} {f x : String}
theorem attr_inv {sc : Sc} {x : Expr} {k : String} (hc : chk (.attr e k) sc x = true) : ∃ o p, x = .Attribute o (S k) p ∧ asL.contains k = true ∧ notSuper o = true ∧ chk e sc o = true := by
  have hc : (tag x 20 && (isNm (eStr x) k && (asL.contains k && (notSuper (eL x) && chk e sc (eL x))))) = true := hc
  have h2 := (an hc).2
  obtain ⟨o, a, p, rfl⟩ := inv20 (an hc).1
  clear hc
  have h3 : (asL.contains k && (notSuper o && chk e sc o)) = true := (an h2).2
  have h1 := isNm_eq (n := a) (an h2).1
  subst h1
  exact ⟨o, p, rfl, an3 h3⟩
theorem handed {C : XC} {φ : Lay} {h : Heap} {y : Value} {x : XVal} (v : VR C φ st h y x) : handedIn y = true := by cases v <;> rfl
theorem E.attr {k : String} (h1 : EV n env st e a st1) (h2 : attrX st1 k a = some v) : EV n env st (.attr e k) v st1 := .mk (k := 20) rfl (fun h => (an h).1) fun C X A φ s penv sc x E c hc => by
  obtain ⟨o', p, rfl, k3, k4, k5⟩ := attr_inv hc
  clear hc
  obtain ⟨r, i, cl, fs, rfl, q1, q2⟩ : ∃ r i cl fs, a = .ref r i ∧ (st1 r)[i]? = some (.inst cl fs) ∧ lookupS k fs = some v := by
    obtain ⟨o, q1, q2⟩ := bind_eq h2
    obtain ⟨r, i, e1, q1⟩ := atX_eq q1
    obtain ⟨cl, fs, e2, q2⟩ := fieldX_eq q2
    exact ⟨r, i, cl, fs, e1, e2 ▸ q1, q2⟩
  refine Attr_plain k4 (h1.use X c k5 fun φ' s' y P v c' => ?_)
  obtain ⟨kc, de, m, hk, j1, j2, hf⟩ := inst_at c'.wd q1
  obtain ⟨y', hy, hyw⟩ := fields_get hf q2
  rw [v.ref_inv.1]
  exact get_value (In_of X c'.wd) (⟨j1, rfl, rfl, j2⟩ : PySem.W.InstAt s'.heap (φ'.a r i) (instObj kc (φ'.d r i)) kc (some (dictOf de m))) (plainGet_of ((X.cls cl kc hk).get (S k))).1 (findObj_own (X.cls cl kc hk).dict ((X.cls cl kc hk).as _ (List.contains_iff_mem.mp k3)) rfl hy) (handed hyw) (Got.via P (got_here c'.wd hyw _))
theorem meth_inv {name : String} {sc : Sc} {x : Expr} (hc : chk (.meth o name es) sc x = true) : ∃ o' ap xs pos, x = .Call (.Attribute o' (S name) ap) xs [] pos ∧ msL.contains name = true ∧ notSuper o' = true ∧ chk o sc o' = true ∧ chk es sc (row xs) = true ∧ Nat.ble xs.length 20 = true ∧ (ap.endLine == pos.line) = true := by
  have hc : (tag x 16 && (eOp x 0 && (tag (eL x) 20 && (isNm (eStr (eL x)) name && (msL.contains name && (notSuper (eL (eL x)) && (chk o sc (eL (eL x)) && (chk es sc (row (eXs x)) && (Nat.ble (eXs x).length 20 && (ePos (eL x)).endLine == (ePos x).line))))))))) = true := hc
  have h2 := (an hc).2
  obtain ⟨fx, xs, k, pos, rfl⟩ := inv16 (an hc).1
  clear hc
  have h3 : (tag fx 20 && (isNm (eStr fx) name && (msL.contains name && (notSuper (eL fx) && (chk o sc (eL fx) && (chk es sc (row xs) && (Nat.ble xs.length 20 && (ePos fx).endLine == pos.line))))))) = true := (an h2).2
  have h1 : k = [] := List.isEmpty_iff.mp (an h2).1
  clear h2
  subst h1
  obtain ⟨o', n', ap, e⟩ := inv20 (an h3).1
  subst e
  have h4 : (msL.contains name && (notSuper o' && (chk o sc o' && (chk es sc (row xs) && (Nat.ble xs.length 20 && ap.endLine == pos.line))))) = true := (an (an h3).2).2
  have h1 := isNm_eq (n := n') (an (an h3).2).1
  clear h3
  subst h1
  exact ⟨o', ap, xs, pos, rfl, (an h4).1, (an (an h4).2).1, an4 (an (an h4).2).2⟩
theorem E.own {name cl : String} (h1 : EV (n + 1) env st o a st1) (h2 : recvX st1 name a = some cl) (h3 : EVS (n + 1) env st1 es vs st2) (h4 : CV n (cl ++ "." ++ name) (a :: vs) st2 v st3) : EV (n + 1) env st (.meth o name es) v st3 := .mk (k := 16) rfl (fun h => (an h).1) fun C X A φ s penv sc x E c hc => by
  obtain ⟨o', ap, xs, pos, rfl, n2, n3, n4, n5, n6, n7⟩ := meth_inv hc
  obtain ⟨ob, q1, q2⟩ := bind_eq h2
  obtain ⟨r, i, rfl, q1⟩ := atX_eq q1
  obtain ⟨fs, rfl, q3⟩ := ownX_eq q2
  refine Call_meth n3 (h3.length n5).2 n6 n7 (h1.use X c n4 fun φ' s' y P v c' => ?_)
  obtain ⟨rfl, hi⟩ := v.ref_inv
  obtain ⟨ad, ha, _⟩ := h4 C X
  obtain ⟨k, es', m, hk, j1, j2, j3⟩ := inst_at c'.wd q1
  have O := X.cls cl k hk
  obtain ⟨m1, m2, m3⟩ := O.ms name (List.contains_iff_mem.mp n2) ad ha
  have pg := plainGet_of (O.get (S name))
  refine PySem.W.method_fn (In_of X c'.wd) (I := (⟨j1, rfl, rfl, j2⟩ : PySem.W.InstAt s'.heap (φ'.a r i) (instObj k (φ'.d r i)) k (some (dictOf es' m)))) pg.1 pg.2 m1 (eq_of_beq m2) ?_ ?_
  · show (lookIn (S name) (dictOf es' m)).map (·.isSome) = some false
    rw [lookIn_dict, fields_no j3 q3]; rfl
  · exact wpAny_mono (call_own X h3 c' (fs := [.ref r i]) h4 n5 ha (.cons v .nil)) (fun y s'' q => Got.via P q) fun _ _ e => e
end
end Mine
end

section
set_option maxRecDepth 100000
namespace Mine
open PySem PySem.W PySem.Calls PyProof.Rows PySem.SeqAt
section
variable {α β : Type} [DecidableEq α] [DecidableEq β] {g : α → β} {P : Value → XVal → Prop} {kvs : List (β × Value)} {es : List (α × XVal)}
theorem valueAt_K (inj : ∀ a b, g a = g b → a = b) (k : α) (h : All2 (fun kv e => kv.1 = g e.1 ∧ P kv.2 e.2) kvs es) :
    (∀ x, lookK k es = some x → ∃ v, valueAt kvs (g k) = some v ∧ P v x) ∧ (lookK k es = none → valueAt kvs (g k) = none) := by
  induction h with
  | nil => exact ⟨fun _ z => (nomatch z), fun _ => rfl⟩
  | @cons kv e l m a b ih =>
    obtain ⟨a1, a2⟩ := a
    show (∀ x, (if e.1 = k then some e.2 else lookK k m) = some x → _) ∧ ((if e.1 = k then some e.2 else lookK k m) = none → _)
    by_cases q : e.1 = k
    · rw [if_pos q]
      exact ⟨fun x z => by cases z; exact ⟨kv.2, by unfold valueAt; rw [List.find?_cons, decide_eq_true (a1.trans (congrArg g q))]; rfl, a2⟩, fun z => by cases z⟩
    · rw [if_neg q]
      have e1 : valueAt (kv :: l) (g k) = valueAt l (g k) := by unfold valueAt; rw [List.find?_cons, decide_eq_false fun z => q (inj _ _ (a1.symm.trans z))]
      rw [e1]; exact ih
theorem lookK_some (inj : ∀ a b, g a = g b → a = b) (h : All2 (fun kv e => kv.1 = g e.1 ∧ P kv.2 e.2) kvs es) (k : α) : (valueAt kvs (g k)).isSome = (lookK k es).isSome := by
  obtain ⟨h1, h2⟩ := valueAt_K inj k h
  cases q : lookK k es with
  | none => rw [h2 q]; rfl
  | some x => obtain ⟨v, z, _⟩ := h1 x q; rw [z]; rfl
end
theorem S_in (a b : String) (h : S a = S b) : a = b := S_inj h
theorem I_in (a b : Int) (h : id a = id b) : a = b := h
section
variable {prog : Program} {w : World} {A : Around} {E : Value → Shared → Prop} {s : Shared}
theorem adjust_upto (b n : Nat) : Builtin.Slice.sliceAdjust none (some (b : Int)) 1 (n : Int) = ((0 : Int), ((min b n : Nat) : Int)) := by
  unfold Builtin.Slice.sliceAdjust
  have h1 : ¬ ((1 : Int) < 0) := by omega
  have h2 : ¬ ((b : Int) < 0) := by omega
  simp only [h1, h2, if_false]
  congr 1
  omega
theorem places_upto (m : Nat) : Builtin.Slice.slicePlaces (0 : Int) (m : Int) 1 = m := by
  unfold Builtin.Slice.slicePlaces
  have h1 : (1 : Int) > 0 := by omega
  simp only [h1, if_true, Int.ediv_one]
  split <;> omega
theorem sliceApplied_upto {sl : Addr} {b n : Nat} {u : Tok} {Q : Int × Int × Nat → Shared → Prop} (hs : s.heap.IsSliceOf sl .none (.int b u) .none) (h : Q ((0 : Int), 1, min b n) s) :
    wpAny (model prog w) A (Builtin.Slice.sliceApplied (.ref sl) (pure (n : Int))) Q E s := by
  obtain ⟨os, hos, hcs, hds⟩ := id hs
  unfold Builtin.Slice.sliceApplied Builtin.Slice.sliceFields
  refine wpAny_bind (wpAny_bind (wpAny_field hos hds (x := .none) rfl (wpAny_bind (wpAny_field hos hds (x := .int b u) rfl (wpAny_bind (wpAny_field hos hds (x := .none) rfl (wpAny_pure ?_)))))))
  refine wpAny_bind (slicePart_none ?_)
  show wpAny _ _ (if ((1 : Int) == 0) = true then _ else _) _ _ s
  rw [if_neg (by decide)]
  refine wpAny_bind (slicePart_none (wpAny_bind (slicePart_int (wpAny_bind (wpAny_pure ?_)))))
  show wpAny _ _ (match Builtin.Slice.sliceAdjust none (some (b : Int)) 1 (n : Int) with | (lo, hi) => pure (lo, (1 : Int), Builtin.Slice.slicePlaces lo hi 1)) _ _ s
  rw [adjust_upto b n]
  show wpAny _ _ (pure ((0 : Int), (1 : Int), Builtin.Slice.slicePlaces (0 : Int) ((min b n : Nat) : Int) 1)) _ _ s
  rw [places_upto]
  exact wpAny_pure h
theorem pick_upto (xs : Array Value) : ∀ (m : Nat), m ≤ xs.size → ((List.range m).filterMap fun (k : Nat) => xs[((0 : Int) + (k : Int) * 1).toNat]?) = xs.toList.take m := by
  intro m
  have e : (fun (k : Nat) => xs[((0 : Int) + (k : Int) * 1).toNat]?) = fun k => xs[k]? := by
    funext k
    have : ((0 : Int) + (k : Int) * 1).toNat = k := by omega
    rw [this]
  rw [e]
  induction m with
  | zero => intro _; simp
  | succ m ih =>
    intro hm
    rw [List.range_succ, List.filterMap_append, ih (by omega), List.take_add_one]
    have : xs[m]? = some (xs[m]'(by omega)) := Array.getElem?_eq_getElem (by omega)
    simp [this]
theorem getItem_tuple_upto {t sl : Addr} {items : Array Value} {n : Nat} {b : Nat} {u : Tok} {Q : Value → Shared → Prop} (ht : IsT s.heap t items n) (hs : s.heap.IsSliceOf sl .none (.int b u) .none)
    (h1 : items.size ≤ b → Q (.ref t) s)
    (h2 : Q (.ref s.heap.objs.size) { s with heap := s.heap.push { cls := .type "tuple", data := .seq (items.toList.take (min b items.size)).toArray } })
    (hsz : min b items.size ≤ sizeLine) : wpAny (model prog w) A (getItem (.ref t) (.ref sl)) Q E s := by
  have htT : IsTup s.heap t items := ⟨_, ht, rfl, _, rfl⟩
  have hdrop : sizeOk (.seq (items.toList.take (min b items.size)).toArray) := by
    show (items.toList.take (min b items.size)).toArray.size ≤ sizeLine
    rw [List.size_toArray, List.length_take, Array.length_toList]
    omega
  obtain ⟨os, hos, hcs, hds⟩ := id hs
  have hTs : s.TypeIs (.ref sl) "slice" := ⟨os, hos, hcs⟩
  have hT : s.TypeIs (.ref t) "tuple" := ⟨_, ht, rfl⟩
  unfold getItem
  refine wpAny_holding (wpAny_bind (wpAny_sequenceKey hT (by decide) ?_))
  refine wpAny_bind (wpAny_callSpecial?_slot (name := Str.ofString "__getitem__") hT PyProof.Rows.slot_tuple_getitem (wpAny_call_entry PyProof.Rows.slot_tuple_getitem hT PyProof.Rows.entry_tuple_getitem ?_ (PyProof.Rows.args_tuple_getitem _ _)))
  show wpAny _ _ (Builtin.Tuple.tupleItemsOf (.ref t) >>= _) _ _ s
  refine wpAny_bind (tupleItemsOf_ htT ?_)
  refine wpAny_bind (wpAny_typeOf hTs ?_)
  rw [if_pos (by decide)]
  refine wpAny_bind (sliceApplied_upto hs ?_)
  by_cases q : items.size ≤ b
  · have hyes : ((0 : Int) == 0 && (1 : Int) == 1 && (min b items.size) == items.size) = true := by
      have : min b items.size = items.size := by omega
      rw [this]; simp
    show wpAny _ _ (if ((0 : Int) == 0 && (1 : Int) == 1 && (min b items.size) == items.size) = true then _ else _) _ _ s
    rw [if_pos hyes]
    refine wpAny_bind (m := Builtin.Tuple.tupleIsExact (.ref t)) ?_
    unfold Builtin.Tuple.tupleIsExact
    refine wpAny_bind (wpAny_typeOf hT (wpAny_pure ?_))
    rw [if_pos (by decide)]
    first
      | exact wpAny_bind (wpAny_rule (wpAny_bind (wpAny_pure (wpAny_pure ⟨_, rfl, wpAny_pure (h1 q)⟩))))
      | exact wpAny_bind (wpAny_rule (wpAny_pure ⟨_, rfl, wpAny_pure (h1 q)⟩))
      | trace_state
  · have hno : ¬ (((0 : Int) == 0 && (1 : Int) == 1 && (min b items.size) == items.size) = true) := by
      have : min b items.size ≠ items.size := by omega
      simp [this]
    show wpAny _ _ (if ((0 : Int) == 0 && (1 : Int) == 1 && (min b items.size) == items.size) = true then _ else _) _ _ s
    rw [if_neg hno, pick_upto items _ (by omega)]
    first
      | exact wpAny_bind (m := Builtin.Tuple.tupleExact _) (wpAny_newObj_type (wpAny_pure ⟨_, rfl, wpAny_pure h2⟩) hdrop)
      | exact wpAny_bind (m := Builtin.Tuple.tupleExact _) (wpAny_newObj_type (wpAny_bind (wpAny_pure (wpAny_pure ⟨_, rfl, wpAny_pure h2⟩))) hdrop)
      | exact wpAny_bind (wpAny_bind (m := Builtin.Tuple.tupleExact _) (wpAny_newObj_type (wpAny_pure (wpAny_pure ⟨_, rfl, wpAny_pure h2⟩)) hdrop))
      | exact wpAny_bind (wpAny_bind (m := Builtin.Tuple.tupleExact _) (wpAny_newObj_type (wpAny_pure ⟨_, rfl, wpAny_pure h2⟩) hdrop))
theorem mul_list_raw {l : Addr} {items : Array Value} {k : Nat} {x : Int} {u : Tok} {Q : Value → Shared → Prop}
    (hl : s.heap.get? l = some { cls := .type "list", dict := none, data := .seq items k, slots := #[] })
    (hlo : -(2 ^ 63 : Int) ≤ x) (hhi : x < 2 ^ 63) (hsz : items.size * x.toNat ≤ 2 ^ 24)
    (h : Q (.ref s.heap.objs.size) { s with heap := s.heap.push { cls := .type "list", data := .seq (List.foldl (fun x1 x2 => x1 ++ x2) #[] (List.replicate (if items.isEmpty = true then 0 else x.toNat) items)) } }) :
    wpAny (model prog w) A (binaryOp .Mult (.ref l) (.int x u)) Q E s :=
  wpAny_binaryOp_repeat_ref (T := "list") (U := "int") (by decide) ⟨_, hl, rfl⟩ (fun s' => typeIs_int s' x u) noFill_list_mul F.fills_int_mul F.slot_int_rmul repeat_list F.slot_int_index.lookup
    (call_meets F.slot_int_rmul (typeIs_int s x u) F.entry_int_rmul (F.args_int_rmul_2 _ _) (int___rmul___int_list x u l items k)
      ⟨hl, rfl, ⟨_, hl, rfl⟩, call_meets F.slot_list_mul ⟨_, hl, rfl⟩ F.entry_list_mul (F.args_list_mul_2 _ _)
        (lm_list_mul_any l items k none #[] x u (by simp [Builtin.List.listFitsIndex]; omega) (by omega) (by simp [Builtin.List.listTooLong, sizeLine]; omega))
        ⟨hl, h⟩⟩)
theorem foldl_flat {α : Type} (l : List (Array α)) (acc : Array α) : (List.foldl (fun x1 x2 => x1 ++ x2) acc l).toList = acc.toList ++ (l.map (·.toList)).flatten := by
  induction l generalizing acc with
  | nil => simp
  | cons a l ih => rw [List.foldl_cons, ih]; simp
end
section
variable {n m : Nat} {env : XEnv} {st st1 st2 st3 st' : XSt} {e e1 e2 es o : XE} {v w a b : XVal} {vs args xs ys : List XVal} {f x : String} {i j : Int}
section
variable {C : XC} {φ : Lay} {s : Shared} {A : Around} {E : Value → Shared → Prop} {penv : Env} {sc : Sc}
theorem seq_place {xs : List XVal} (h : seqX xs i = some v) : (0 ≤ i ∧ xs[i.toNat]? = some v) ∨ (i = -1 ∧ 0 < xs.length ∧ xs[xs.length - 1]? = some v) := by
  unfold seqX at h
  split at h
  · rename_i q; exact .inl ⟨q, h⟩
  · split at h
    · rename_i q
      rw [List.getLast?_eq_getElem?] at h
      exact .inr ⟨q, Nat.lt_of_le_of_lt (Nat.zero_le _) (List.getElem?_eq_some_iff.mp h).1 |> fun z => by omega, h⟩
    · cases h
theorem sub_list (W : Wd C φ st s.heap) {l : Addr} {items : Array Value} {xs : List XVal} {k : Nat} {u : Tok} {Q : Value → Shared → Prop} (hl : IsL s.heap l items k) (hs : All2 (VR C φ st s.heap) items.toList xs) (hn : xs.length ≤ LIM) (e : seqX xs i = some v) (h : ∀ y t, VR C φ st s.heap y v → Q y { s with toks := t }) :
    wpAny (model C.prog C.w) A (getItem (.ref l) (.int i u)) Q E s := by
  have l1 : items.size = xs.length := hs.length
  rcases seq_place e with ⟨q1, q2⟩ | ⟨rfl, q1, q2⟩
  · obtain ⟨y, h2, h3⟩ := hs.get q2
    have := (List.getElem?_eq_some_iff.mp q2).1
    exact wpAny_getItem_list (isL_of hl) q1 (by unfold LIM at hn; omega) (by simpa using h2) (h y s.toks h3)
  · obtain ⟨y, h2, h3⟩ := hs.get q2
    refine wpAny_getItem_list_neg (isL_of hl) (by omega) (by omega) (by omega) (x := y) ?_ (h y s.toks h3)
    have : (-1 + (items.size : Int)).toNat = xs.length - 1 := by omega
    rw [this]; simpa using h2
theorem sub_sound (W : Wd C φ st s.heap) {x y : Value} {Q : Value → Shared → Prop} (e : subX st a b = some v) (ha : VR C φ st s.heap x a) (hb : VR C φ st s.heap y b) (h : ∀ y t, VR C φ st s.heap y v → Q y { s with toks := t }) :
    ∃ T id, s.TypeIs x T ∧ typeLookup (.type T) "__getitem__" = pure (some (.builtin id)) ∧ wpAny (model C.prog C.w) A (getItem x y) Q E s := by
  cases a with
  | tup xs =>
    obtain ⟨k, q1, q2⟩ := bind_eq e
    cases asI_eq q1
    split at q2
    · rename_i hn
      obtain ⟨l, items, m, rfl, ht, hs⟩ := ha.tup_inv
      obtain ⟨u, rfl⟩ := hb.int_inv
      have l1 : items.size = xs.length := hs.length
      refine ⟨"tuple", _, ⟨_, ht, rfl⟩, F.slot_tuple_getitem.lookup, ?_⟩
      unfold LIM at hn
      rcases seq_place q2 with ⟨q1, q2⟩ | ⟨rfl, q1, q2⟩
      · obtain ⟨y, h2, h3⟩ := hs.get q2
        have := (List.getElem?_eq_some_iff.mp q2).1
        exact P.getItem_tuple ht (by omega) (by omega) (k := k.toNat) (by have : ¬ k < 0 := by omega
                                                                          simp [seqIndex?, this]; omega) (y := y) (by simpa using h2) (h y s.toks h3)
      · obtain ⟨y, h2, h3⟩ := hs.get q2
        exact P.getItem_tuple ht (by omega) (by omega) (k := xs.length - 1) (by simp [seqIndex?]; omega) (y := y) (by simpa using h2) (h y s.toks h3)
    · cases q2
  | scr ns =>
    obtain ⟨k, q1, q2⟩ := bind_eq e
    cases asI_eq q1
    split at q2
    · rename_i hi
      obtain ⟨n, h1, rfl⟩ := Option.map_eq_some_iff.mp q2
      obtain ⟨u, rfl⟩ := hb.int_inv
      cases ha with
      | scr hl hi' hn =>
        have hl' := (show Heap.IsList s.heap _ _ from let ⟨o, ho, r⟩ := hl; ⟨o, W.base _ _ ho, r⟩)
        obtain ⟨t, hx⟩ := hi'.get k.toNat n h1
        have := (List.getElem?_eq_some_iff.mp h1).1
        exact ⟨"list", _, hl'.typeIs, F.slot_list_getitem.lookup, wpAny_getItem_list hl' hi (by unfold LIM at hn; omega) (x := .int n t) (by simpa using hx) (h _ s.toks (.int _ _))⟩
    · cases q2
  | ref r j =>
    obtain ⟨rfl, hj⟩ := ha.ref_inv
    obtain ⟨o, q1, q2⟩ := bind_eq e
    cases o with
    | list xs =>
      obtain ⟨k, q3, q2⟩ := bind_eq q2
      cases asI_eq q3
      obtain ⟨u, rfl⟩ := hb.int_inv
      obtain ⟨items, n, hl, hs, hn, _⟩ := W.list q1
      exact ⟨"list", _, ⟨_, hl, rfl⟩, F.slot_list_getitem.lookup, sub_list W hl hs hn q2 h⟩
    | sdict es =>
      obtain ⟨k, q3, q2⟩ := bind_eq q2
      cases asS_eq q3
      obtain ⟨t, rfl⟩ := hb.str_inv
      obtain ⟨kvs, hd, hk⟩ := W.rel _ _ _ q1
      obtain ⟨v, h1, h2⟩ := (valueAt_K S_in k hk).1 _ q2
      exact ⟨"dict", _, hd.typeIs, F.slot_dict_getitem.lookup, wpAny_getItem_of (knd := PySem.strKind C.prog C.w) (k := S k) (by simp [PySem.strKind, Value.isStrOf]) hd.mapOf h1 (h v _ h2)⟩
    | idict es =>
      obtain ⟨k, q3, q2⟩ := bind_eq q2
      cases asI_eq q3
      obtain ⟨t, rfl⟩ := hb.int_inv
      obtain ⟨kvs, hd, hk⟩ := W.rel _ _ _ q1
      obtain ⟨v, h1, h2⟩ := (valueAt_K (g := id) I_in k hk).1 _ q2
      exact ⟨"dict", _, hd.typeIs, F.slot_dict_getitem.lookup, wpAny_getItem_of (knd := PySem.intKind C.prog C.w) (k := k) (by simp [PySem.intKind, Value.isInt]) hd.mapOf h1 (h v _ h2)⟩
    | inst c fs => exact (Option.some_ne_none _ q2.symm).elim
  | _ => exact (Option.some_ne_none _ e.symm).elim
theorem subscripted_plain {i' : Expr} {o i : Value} (h : notSlice i' = true) : subscripted i' false o i = operate [o, i] (getItem o i) :=
  bif_use h (by cases i' <;> first | exact trivial | exact rfl)
end
theorem E.sub (h1 : EV n env st e1 a st1) (h2 : EV n env st1 e2 b st2) (h3 : subX st2 a b = some v) : EV n env st (.sub e1 e2) v st2 := .mk (k := 21) rfl (fun h => (an h).1) fun C X A φ s penv sc x E c hc => by
  obtain ⟨k1, k2, k3, k4⟩ := an4 (show (tag x 21 && (chk e1 sc (eL x) && (chk e2 sc (eM x) && notSlice (eM x)))) = true from hc)
  obtain ⟨o', i', p, rfl⟩ := inv21 k1
  refine Subscript_ (h1.use X c k2 fun φ' s' y p v c' => h2.use X c' k3 fun φ2 s2 y2 p2 v2 c2 => ?_)
  obtain ⟨T, sl, ty, hs, G⟩ := sub_sound (A := A) (E := E) (Q := Got C φ st s st2 _) c2.wd h3 (p2.vr0 c'.wd v) v2 fun y t q => Got.via (p.trans p2) (got_here c2.wd q t)
  exact tail_any (T := T) ty hs G (subscripted_plain k4)
end
end Mine
end

section
set_option maxRecDepth 100000
namespace Mine
open PySem PySem.W PySem.Calls PyProof.Rows PySem.SeqAt
noncomputable def asB (v : XVal) : Option Bool := v.casesOn none some (fun _ => none) (fun _ => none) (fun _ => none) (fun _ _ => none) (fun _ => none) fun _ => none
noncomputable def eqS (a b : XVal) : Option Bool := ((asS a).bind fun i => (asS b).map fun j => decide (i = j)).or (((asI a).bind fun i => (asI b).map fun j => decide (i = j)).or ((asB a).bind fun i => (asB b).map fun j => i == j))
noncomputable def cmpX (op : XOp) (a b : XVal) : Option Bool := bif op == 0 then eqS a b else bif op == 1 then (eqS a b).map not else (asI a).bind fun i => (asI b).bind fun j => bif op == 2 then some (decide (i < j)) else bif op == 4 then some (decide (j < i)) else bif op == 5 then some (decide (j ≤ i)) else none
noncomputable def isNX (v : XVal) : Bool := v.casesOn true (fun _ => false) (fun _ => false) (fun _ => false) (fun _ => false) (fun _ _ => false) (fun _ => false) fun _ => false
noncomputable def lenX (st : XSt) (v : XVal) : Option Int := v.casesOn none (fun _ => none) (fun _ => none) (fun _ => none) (fun _ => none) (fun r i => (getL st r i).map fun xs => (xs.length : Int)) (fun _ => none) fun ns => some ns.length
theorem asB_eq {v : XVal} {i : Bool} (h : asB v = some i) : v = .bool i := by cases v <;> first | exact (Option.some_ne_none _ h.symm).elim | (cases h; rfl)
theorem two_eq {α β : Type} {x y : Option α} {f : α → α → β} {c : β} (h : (x.bind fun i => y.map fun j => f i j) = some c) : ∃ i j, x = some i ∧ y = some j ∧ f i j = c :=
  let ⟨i, h1, h⟩ := bind_eq h; let ⟨j, h2, h⟩ := Option.map_eq_some_iff.mp h; ⟨i, j, h1, h2, h⟩
theorem eqS_eq {a b : XVal} {c : Bool} (h : eqS a b = some c) : Eqs a b c := by
  rcases Option.or_eq_some_iff.mp h with h | ⟨_, h⟩
  · obtain ⟨i, j, h1, h2, rfl⟩ := two_eq h
    rw [asS_eq h1, asS_eq h2]; exact .str i j
  · rcases Option.or_eq_some_iff.mp h with h | ⟨_, h⟩
    · obtain ⟨i, j, h1, h2, rfl⟩ := two_eq h
      rw [asI_eq h1, asI_eq h2]; exact .int i j
    · obtain ⟨i, j, h1, h2, rfl⟩ := two_eq h
      rw [asB_eq h1, asB_eq h2]; exact .bool i j
section
variable {n m : Nat} {env : XEnv} {st st1 st2 st3 st' : XSt} {e e1 e2 es o : XE} {v w a b : XVal} {vs args xs ys : List XVal} {f x : String} {i j : Int} {c : Bool} {op : XOp}
section
variable {C : XC} {φ : Lay} {s : Shared} {A : Around} {E : Value → Shared → Prop} {penv : Env} {sc : Sc}
theorem cmp_sound (W : Wd C φ st s.heap) {x y : Value} {Q : Value → Shared → Prop} (e : cmpX op a b = some c) (ha : VR C φ st s.heap x a) (hb : VR C φ st s.heap y b) (h : Q (.bool c) s) : wpAny (model C.prog C.w) A (compareOp (opOf op) x y) Q E s := by
  by_cases q0 : op = 0
  · subst q0; exact ((eqS_eq e).al ha hb).1 _ _ _ _ h
  by_cases q1 : op = 1
  · subst q1
    obtain ⟨d, z, rfl⟩ := Option.map_eq_some_iff.mp (show (eqS a b).map not = some c from e)
    exact ((eqS_eq z).al ha hb).2.1 _ _ _ _ h
  unfold cmpX at e
  rw [beq_eq_false_iff_ne.mpr q0, beq_eq_false_iff_ne.mpr q1] at e
  obtain ⟨i, e1, e⟩ := bind_eq e
  obtain ⟨j, e2, e⟩ := bind_eq e
  cases asI_eq e1
  cases asI_eq e2
  obtain ⟨t, rfl⟩ := ha.int_inv
  obtain ⟨u, rfl⟩ := hb.int_inv
  by_cases q2 : op = 2
  · subst q2; cases e; exact PyProof.Rows.lt_int h
  by_cases q4 : op = 4
  · subst q4; cases e; exact PyProof.Rows.gt_int h
  by_cases q5 : op = 5
  · subst q5; cases e; exact PyProof.Rows.ge_int h
  rw [beq_eq_false_iff_ne.mpr q2, beq_eq_false_iff_ne.mpr q4, beq_eq_false_iff_ne.mpr q5] at e; cases e
end
theorem marks {r : Expr} (h : notSet r = true) : ∀ op : Nat, behindInMarks (opOf op) r = false :=
  bif_use h (by cases r <;> first | exact trivial | exact fun op => by unfold opOf behindInMarks; rfl)
theorem E.cmp_ (h1 : EV n env st e1 a st1) (h2 : EV n env st1 e2 b st2) (h3 : ∀ C φ s A (E : Value → Shared → Prop) x y (Q : Value → Shared → Prop), COk C → Wd C φ st2 s.heap → A.units + 500 < cLine → VR C φ st2 s.heap x a → VR C φ st2 s.heap y b → (∀ t, Q (.bool c) { s with toks := t }) → wpAny (model C.prog C.w) A (compareOp (opOf op) x y) Q E s) : EV n env st (.cmp op e1 e2) (.bool c) st2 := by
  intro C X A φ s penv sc x E cx hc
  have hc : (tag x 15 && (eCo x (opOf op) && ((eXs x).length == 1 && (chk e1 sc (eL x) && (chk e2 sc (hdx (eXs x)) && notSet (hdx (eXs x))))))) = true := hc
  obtain ⟨k1, hc⟩ := an hc
  obtain ⟨k2, k3, k4, k5, k6⟩ := an5 hc
  obtain ⟨l, os, rs, p, rfl⟩ := inv15 k1
  cases eq_of_beq (show (os == [opOf op]) = true from k2)
  cases rs with
  | nil => exact absurd k3 Bool.false_ne_true
  | cons r rs => cases rs with
    | cons => exact absurd k3 Bool.false_ne_true
    | nil =>
      refine ⟨wpAny_Compare1 (h1.use X cx k4 fun φ' s' y p v c' => h2.use X c' k5 fun φ2 s2 y2 p2 v2 c2 => ?_) (marks k6 op), fun t ht => wpAny_isTrue_Compare1 (h1.use X cx k4 fun φ' s' y p v c' => h2.use X c' k5 fun φ2 s2 y2 p2 v2 c2 => ?_) (marks k6 op)⟩
      · exact h3 C φ2 s2 A E y y2 _ X c2.wd c2.room.units4 (p2.vr0 c'.wd v) v2 fun t => Got.via (p.trans p2) (got_here c2.wd (.bool _) t)
      · cases ht
        exact h3 C φ2 s2 A E y y2 _ X c2.wd c2.room.units4 (p2.vr0 c'.wd v) v2 fun t => truth_b ⟨rfl, φ2, (p.trans p2).trans (.toks c2.wd t)⟩
theorem E.cmp (h1 : EV n env st e1 a st1) (h2 : EV n env st1 e2 b st2) (h3 : cmpX op a b = some c) : EV n env st (.cmp op e1 e2) (.bool c) st2 :=
  E.cmp_ h1 h2 fun _ _ s _ _ _ _ _ _ W _ ha hb h => cmp_sound W h3 ha hb (h s.toks)
theorem E.eqT (h1 : EV n env st e1 a st1) (h2 : EV n env st1 e2 b st2) (h3 : Eqt a b c) : EV n env st (.cmp .eq e1 e2) (.bool c) st2 :=
  E.cmp_ h1 h2 fun _ _ s A _ _ _ _ _ W hu ha hb h => (h3.al (by omega) ha hb).1 _ _ _ _ (h s.toks)
theorem E.eqD (h1 : EV n env st e1 a st1) (h2 : EV n env st1 e2 b st2) (h3 : Eqv st2 400 a b) : EV n env st (.cmp .eq e1 e2) (.bool true) st2 :=
  E.cmp_ h1 h2 fun _ _ s A _ _ _ _ _ W hu ha hb h => (h3.al W (by omega) ha hb).1 _ _ _ _ (h s.toks)
theorem E.neD (h1 : EV n env st e1 a st1) (h2 : EV n env st1 e2 b st2) (h3 : Eqv st2 400 a b) : EV n env st (.cmp .ne e1 e2) (.bool false) st2 :=
  E.cmp_ h1 h2 fun _ _ s A _ _ _ _ _ W hu ha hb h => (h3.al W (by omega) ha hb).2.1 _ _ _ _ (h s.toks)
noncomputable def rowX (st : XSt) (v : XVal) : Option (List XVal) := v.casesOn none (fun _ => none) (fun _ => none) (fun _ => none) some (fun r i => getL st r i) (fun _ => none) fun _ => none
theorem in_sound {C : XC} {φ : Lay} {s : Shared} {A : Around} {E : Value → Shared → Prop} {bs : List Bool} {x y : Value} {Q : Value → Shared → Prop} (W : Wd C φ st s.heap) (hu : A.units + 500 < cLine) (hr : rowX st b = some xs) (he : All2 (fun x c => Eqt x a c) xs bs) (ha : VR C φ st s.heap x a) (hb : VR C φ st s.heap y b) (h : Q (.bool (bs.any id)) s) :
    wpAny (model C.prog C.w) A (compareOp .In x y) Q E s := by
  have key : ∀ {items : Array Value} (f : Value → Bool), items.toList.map f = bs → items.any f = bs.any id := fun f e => by rw [← e, List.any_map, ← Array.any_toList]; rfl
  have hu : A.in1.units + 1 < cLine := by show A.units + 1 + 1 < cLine; omega
  cases b with
  | tup ys =>
    cases hr
    obtain ⟨l, items, n, rfl, ht, hs⟩ := hb.tup_inv
    obtain ⟨f, h1, h2⟩ := any_at (A := A.in1) hu ha hs he
    refine in_tupleAt f (isT_of ht) (fun y hy => h1 y (by simpa using hy)) ?_
    rw [key f h2]; exact h
  | ref r i =>
    obtain ⟨rfl, hi⟩ := hb.ref_inv
    obtain ⟨items, n, hl, hs, _, _⟩ := W.list (getL_some hr)
    obtain ⟨f, h1, h2⟩ := any_at (A := A.in1) hu ha hs he
    refine in_listAt f (isL_of hl) (fun y hy => h1 y (by simpa using hy)) ?_
    rw [key f h2]; exact h
  | _ => exact (Option.some_ne_none _ hr.symm).elim
theorem E.inn {bs : List Bool} (h1 : EV n env st e1 a st1) (h2 : EV n env st1 e2 b st2) (h3 : rowX st2 b = some xs) (h4 : All2 (fun x c => Eqt x a c) xs bs) : EV n env st (.cmp .inn e1 e2) (.bool (bs.any id)) st2 :=
  E.cmp_ h1 h2 fun _ _ s _ _ _ _ _ _ W hu ha hb h => in_sound W hu h3 h4 ha hb (h s.toks)
theorem E.nin {bs : List Bool} (h1 : EV n env st e1 a st1) (h2 : EV n env st1 e2 b st2) (h3 : rowX st2 b = some xs) (h4 : All2 (fun x c => Eqt x a c) xs bs) : EV n env st (.cmp .notIn e1 e2) (.bool (!bs.any id)) st2 :=
  E.cmp_ h1 h2 fun _ _ s _ _ _ _ _ _ W hu ha hb h => notIn_of_in (in_sound W hu h3 h4 ha hb ⟨rfl, h s.toks⟩)
theorem all2_map {α : Type} {l : List α} {f : α → XVal} {g : α → Bool} (h : ∀ x, Eqt (f x) a (g x)) : All2 (fun x c => Eqt x a c) (l.map f) (l.map g) := by
  induction l with
  | nil => exact .nil
  | cons x l ih => exact .cons (h x) ih
theorem any_mem {α : Type} [DecidableEq α] {l : List α} {x : α} : ((l.map fun y => decide (y = x)).any id) = decide (x ∈ l) := by
  rw [List.any_map, Bool.eq_iff_iff, List.any_eq_true, decide_eq_true_iff]
  exact ⟨fun ⟨y, h, e⟩ => of_decide_eq_true e ▸ h, fun h => ⟨x, h, decide_eq_true rfl⟩⟩
theorem E.inS {l : List String} {k : String} (h1 : EV n env st e1 (.str k) st1) (h2 : EV n env st1 e2 b st2) (h3 : rowX st2 b = some (l.map .str)) : EV n env st (.cmp .inn e1 e2) (.bool (decide (k ∈ l))) st2 :=
  any_mem (l := l) (x := k) ▸ E.inn h1 h2 h3 (all2_map fun x => .sc (.str x k))
theorem E.ninS {l : List String} {k : String} (h1 : EV n env st e1 (.str k) st1) (h2 : EV n env st1 e2 b st2) (h3 : rowX st2 b = some (l.map .str)) : EV n env st (.cmp .notIn e1 e2) (.bool (!decide (k ∈ l))) st2 :=
  any_mem (l := l) (x := k) ▸ E.nin h1 h2 h3 (all2_map fun x => .sc (.str x k))
theorem E.inI {l : List Int} (h1 : EV n env st e1 (.int i) st1) (h2 : EV n env st1 e2 b st2) (h3 : rowX st2 b = some (l.map .int)) : EV n env st (.cmp .inn e1 e2) (.bool (decide (i ∈ l))) st2 :=
  any_mem (l := l) (x := i) ▸ E.inn h1 h2 h3 (all2_map fun x => .sc (.int x i))
theorem low_ne {C : XC} {φ : Lay} {h : Heap} (W : Wd C φ st h) (hz : 4 ≤ C.h₀.objs.size) {r i : Nat} (hi : i < (st r).length) : (φ.a r i == sysModules) = false := by
  have h2 : C.h₀.objs.size ≤ φ.a r i := W.low (r, i, false) hi
  rw [beq_eq_false_iff_ne]
  intro z
  rw [z] at h2
  exact absurd (Nat.le_trans hz h2) (by decide)
theorem E.inD {r k : Nat} {es : List (Int × XVal)} (h1 : EV n env st e1 (.int i) st1) (h2 : EV n env st1 e2 (.ref r k) st2) (h3 : (st2 r)[k]? = some (.idict es)) : EV n env st (.cmp .inn e1 e2) (.bool (lookupI i es).isSome) st2 :=
  E.cmp_ h1 h2 fun C φ s A _ x y Q X W hu ha hb h => by
    obtain ⟨t, rfl⟩ := ha.int_inv
    obtain ⟨rfl, hi⟩ := hb.ref_inv
    obtain ⟨kvs, hd, hk⟩ := W.rel r k _ h3
    refine wpAny_in_of (knd := PySem.intKind C.prog C.w) (k := i) (by simp [PySem.intKind, Value.isInt]) (low_ne W X.big hi) hd.mapOf ?_
    rw [show (valueAt kvs i).isSome = _ from lookK_some (g := id) I_in hk i]
    exact h _
theorem E.ninD {r k : Nat} {es : List (String × XVal)} {i : String} (h1 : EV n env st e1 (.str i) st1) (h2 : EV n env st1 e2 (.ref r k) st2) (h3 : (st2 r)[k]? = some (.sdict es)) : EV n env st (.cmp .notIn e1 e2) (.bool (!(lookupS i es).isSome)) st2 :=
  E.cmp_ h1 h2 fun C φ s A _ x y Q X W hu ha hb h => notIn_of_in (c := (lookupS i es).isSome) (by
    obtain ⟨t, rfl⟩ := ha.str_inv
    obtain ⟨rfl, hi⟩ := hb.ref_inv
    obtain ⟨kvs, hd, hk⟩ := W.rel r k _ h3
    refine wpAny_in_of (knd := PySem.strKind C.prog C.w) (k := S i) (by simp [PySem.strKind, Value.isStrOf]) (low_ne W X.big hi) hd.mapOf ?_
    rw [lookK_some S_in hk i]
    exact ⟨rfl, h _⟩)
end
end Mine
end

section
set_option maxRecDepth 100000
namespace Mine
open PySem PySem.W PySem.Calls PyProof.Rows PySem.SeqAt
section
variable {n m : Nat} {env : XEnv} {st st1 st2 st3 st' : XSt} {e e1 e2 es o : XE} {v w a b : XVal} {vs args xs ys : List XVal} {f x : String} {i j : Int} {c : Bool} {r q k l : Nat} {op : XBin}
theorem E.bin_ (hop : Nat.blt (op + 10) 20 = true) (h1 : EV n env st e1 a st1) (h2 : EV n env st1 e2 b st2) (h3 : ∀ C φ s A (E : Value → Shared → Prop) x y, Wd C φ st2 s.heap → VR C φ st2 s.heap x a → VR C φ st2 s.heap y b → wpAny (model C.prog C.w) A (binaryOp (binOf op) x y) (Got C φ st2 s st3 v) E s) : EV n env st (.bin op e1 e2) v st3 := by
  have ck : ∀ {sc x}, chk (.bin op e1 e2) sc x = true → (tag x 2 && (eBo x (binOf op) && (chk e1 sc (eL x) && chk e2 sc (eM x)))) = true := fun {sc x} h => by
    have : (bif Nat.blt (op + 10) 20 then tag x 2 && (eBo x (binOf op) && (chk e1 sc (eL x) && chk e2 sc (eM x))) else _) = true := h
    rw [hop] at this; exact this
  refine .mk (k := 2) rfl (fun h => (an (ck h)).1) fun C X A φ s penv sc x E cx hc => ?_
  obtain ⟨k1, k2, k3, k4⟩ := an4 (ck hc)
  obtain ⟨l, o, r, p, rfl⟩ := inv2 k1
  cases eq_of_beq (show (o == binOf op) = true from k2)
  exact wpAny_BinOp (h1.use X cx k3 fun φ' s' y p v c' => h2.use X c' k4 fun φ2 s2 y2 p2 v2 c2 => wpAny_mono (h3 C φ2 s2 A E y y2 c2.wd (p2.vr0 c'.wd v) v2) (fun y s' q => Got.via (p.trans p2) q) fun _ _ e => e)
theorem E.add (h1 : EV n env st e1 (.int i) st1) (h2 : EV n env st1 e2 (.int j) st2) : EV n env st (.bin .add e1 e2) (.int (i + j)) st2 := E.bin_ rfl h1 h2 fun C φ s A E x y W ha hb => by
  obtain ⟨t, rfl⟩ := ha.int_inv; obtain ⟨u, rfl⟩ := hb.int_inv
  exact PyProof.Rows.add_int (got_here W (.int _ _) _)
theorem E.sbt (h1 : EV n env st e1 (.int i) st1) (h2 : EV n env st1 e2 (.int j) st2) : EV n env st (.bin .sub e1 e2) (.int (i - j)) st2 := E.bin_ rfl h1 h2 fun C φ s A E x y W ha hb => by
  obtain ⟨t, rfl⟩ := ha.int_inv; obtain ⟨u, rfl⟩ := hb.int_inv
  exact PyProof.Rows.sub_int (got_here W (.int _ _) _)
theorem E.div (h1 : EV n env st e1 (.int i) st1) (h2 : EV n env st1 e2 (.int j) st2) (hj : 0 < j ∧ j ≤ 1000) : EV n env st (.bin .fdiv e1 e2) (.int (i / j)) st2 := E.bin_ rfl h1 h2 fun C φ s A E x y W ha hb => by
  obtain ⟨t, rfl⟩ := ha.int_inv; obtain ⟨u, rfl⟩ := hb.int_inv
  refine PyProof.Rows.floordiv_int (by omega) ?_ (.inl (PyProof.noPylong_small (by omega)))
  rw [Int.fdiv_eq_ediv_of_nonneg _ (by omega)]
  exact got_here W (.int _ _) _
theorem E.mod (h1 : EV n env st e1 (.int i) st1) (h2 : EV n env st1 e2 (.int j) st2) (hj : 0 < j) : EV n env st (.bin .mod e1 e2) (.int (i % j)) st2 := E.bin_ rfl h1 h2 fun C φ s A E x y W ha hb => by
  obtain ⟨t, rfl⟩ := ha.int_inv; obtain ⟨u, rfl⟩ := hb.int_inv
  refine PyProof.Rows.mod_int (by omega) ?_
  rw [Int.fmod_eq_emod_of_nonneg _ (by omega)]
  exact got_here W (.int _ _) _
theorem E.cat {s t : String} (h1 : EV n env st e1 (.str s) st1) (h2 : EV n env st1 e2 (.str t) st2) (hl : s.length + t.length ≤ LIM) : EV n env st (.bin .add e1 e2) (.str (s ++ t)) st2 := E.bin_ rfl h1 h2 fun C φ s A E x y W ha hb => by
  obtain ⟨t, rfl⟩ := ha.str_inv; obtain ⟨u, rfl⟩ := hb.str_inv
  refine PyProof.Rows.add_str (fun t' tk => ?_) (by rw [S_length, S_length]; exact limS hl)
  rw [← S_append]; exact got_here W (.str _ _) _
theorem size_ne {items : Array Value} {xs : List XVal} (h : items.size = xs.length) (hx : xs ≠ []) : ¬ items.isEmpty = true := by
  cases xs with
  | nil => exact absurd rfl hx
  | cons a l => unfold Array.isEmpty; rw [h]; exact Bool.false_ne_true
theorem E.catT (h1 : EV n env st e1 (.tup xs) st1) (h2 : EV n env st1 e2 (.tup ys) st2) (hl : xs ≠ [] ∧ ys ≠ [] ∧ xs.length + ys.length ≤ LIM) : EV n env st (.bin .add e1 e2) (.tup (xs ++ ys)) st2 := E.bin_ rfl h1 h2 fun C φ s A E x y W ha hb => by
  obtain ⟨l, items, n, rfl, ht, hs⟩ := ha.tup_inv
  obtain ⟨l2, items2, n2, rfl, ht2, hs2⟩ := hb.tup_inv
  have l1 : items.size = xs.length := hs.length
  have l2 : items2.size = ys.length := hs2.length
  refine P.add_tuple ht ht2 (size_ne l1 hl.1) (size_ne l2 hl.2.1) ?_ (by rw [l1, l2]; exact limS hl.2.2)
  exact push_tuple W (by rw [Array.toList_append]; exact hs.append hs2) _
theorem E.catL (p : Nat) (h1 : EV n env st e1 (.ref r k) st1) (h2 : EV n env st1 e2 (.ref q l) st2) (h3 : (st2 r)[k]? = some (.list xs)) (h4 : (st2 q)[l]? = some (.list ys)) (hl : xs.length + ys.length ≤ LIM) : EV n env st (.bin .add e1 e2) (.ref p (st2 p).length) (st2.push p (.list (xs ++ ys))) := E.bin_ rfl h1 h2 fun C φ s A E x y W ha hb => by
  obtain ⟨rfl, hi⟩ := ha.ref_inv
  obtain ⟨rfl, hj⟩ := hb.ref_inv
  obtain ⟨items, n, hl1, hs, _, l1⟩ := W.list h3
  obtain ⟨items2, n2, hl2, hs2, _, l2⟩ := W.list h4
  refine P.add_list hl1 hl2 ?_ (by rw [l1, l2]; exact limS hl)
  exact push_list W (by rw [Array.toList_append]; exact hs.append hs2) (by rw [List.length_append]; exact hl) _
noncomputable def repL (n : Nat) (xs : List XVal) : List XVal := (List.replicate n xs).flatten
theorem E.mul (p : Nat) (h1 : EV n env st e1 (.ref r k) st1) (h2 : EV n env st1 e2 (.int j) st2) (h3 : (st2 r)[k]? = some (.list xs)) (hl : 0 ≤ j ∧ j ≤ 1000 ∧ xs.length ≤ 1000) (hn : (repL j.toNat xs).length ≤ LIM) : EV n env st (.bin .mul e1 e2) (.ref p (st2 p).length) (st2.push p (.list (repL j.toNat xs))) := E.bin_ rfl h1 h2 fun C φ s A E x y W ha hb => by
  obtain ⟨rfl, hi⟩ := ha.ref_inv
  obtain ⟨u, rfl⟩ := hb.int_inv
  obtain ⟨items, n, hl1, hs, _, l1⟩ := W.list h3
  have hm : items.size * j.toNat ≤ 1000 * 1000 := Nat.mul_le_mul (by omega) (by omega)
  refine mul_list_raw hl1 (by omega) (by omega) (by omega) (push_list W ?_ hn _)
  rw [foldl_flat, List.nil_append, List.map_replicate]
  have := hs.replicate j.toNat
  by_cases z : items.isEmpty = true
  · rw [if_pos z]
    have z : items.toList = [] := by simpa using z
    rw [z] at this ⊢
    simpa [repL] using this
  · rw [if_neg z]; exact this
theorem isNone_sound {C : XC} {φ : Lay} {s : Shared} {A : Around} {E : Value → Shared → Prop} {y : Value} {Q : Value → Shared → Prop} (v : VR C φ st s.heap y a) (h : Q (.bool (c ^^ isNX a)) s) : wpAny (model C.prog C.w) A (compareOp (bif c then .IsNot else .Is) y .none) Q E s := by
  have e : (y == Value.none) = isNX a ∧ (∀ b, y ≠ .builtin b) := by cases v <;> exact ⟨rfl, fun _ z => nomatch z⟩
  cases c with
  | true =>
    refine wpAny_isNot_plain (by cases v <;> rfl) ?_
    rw [e.1]; simpa using h
  | false =>
    refine is_none ?_
    rw [e.1]; simpa using h
theorem isN_inv {sc : Sc} {x : Expr} {op : CmpOp} (hc : (tag x 15 && (eCo x op && ((eXs x).length == 1 && (tag (hdx (eXs x)) 19 && (eConst (hdx (eXs x)) == .none && chk e sc (eL x)))))) = true) : ∃ l k p q, x = .Compare l [op] [.Constant .none k p] q ∧ chk e sc l = true := by
  have h2 := (an hc).2
  obtain ⟨l, os, rs, p, rfl⟩ := inv15 (an hc).1
  clear hc
  have h1 := eq_of_beq (show (os == [op]) = true from (an h2).1)
  have h3 := (an h2).2
  clear h2
  subst h1
  match rs, h3 with
  | [r], h3 =>
    obtain ⟨c, k, q, e1⟩ := inv19 (e := r) (an (an h3).2).1
    subst e1
    have h4 := (an (an h3).2).2
    have h5 := eq_of_beq (show (c == .none) = true from (an h4).1)
    subst h5
    exact ⟨l, k, q, p, rfl, (an h4).2⟩
theorem E.isN (h1 : EV n env st e a st1) : EV n env st (.isN c e) (.bool (c ^^ isNX a)) st1 := by
  intro C X A φ s penv sc x E cx hc
  obtain ⟨l, k, p, q, rfl, k6⟩ : ∃ l k p q, x = .Compare l [bif c then CmpOp.IsNot else .Is] [.Constant .none k p] q ∧ chk e sc l = true := by cases c <;> exact isN_inv hc
  clear hc
  have m : behindInMarks (bif c then .IsNot else .Is) (.Constant .none k p) = false := by cases c <;> with_unfolding_all rfl
  exact ⟨wpAny_Compare1 (h1.use X cx k6 fun φ' s' a p v c' => Constant_none (isNone_sound v (Got.via p (got_here' c'.wd (.bool _))))) m, fun t ht => wpAny_isTrue_Compare1 (h1.use X cx k6 fun φ' s' a p v c' => Constant_none (isNone_sound v (wpAny_truthy_bool ⟨by cases ht; rfl, φ', p⟩))) m⟩
theorem bcall_inv {sc : Sc} {x : Expr} (h : (chkCall x f && (chkGlob sc f && ((eXs x).length == 1 && (notStar (hdx (eXs x)) && chk e sc (hdx (eXs x)))))) = true) : ∃ p y q, x = .Call (.Name (S f) p) [y] [] q ∧ chkGlob sc f = true ∧ chk (.cons e .nil) sc (row [y]) = true := by
  obtain ⟨k1, k2, k3, k4, k5⟩ := an5 h
  obtain ⟨p, xs, q, rfl⟩ := call_inv k1
  cases xs with
  | nil => exact absurd k3 Bool.false_ne_true
  | cons y xs => cases xs with
    | cons => exact absurd k3 Bool.false_ne_true
    | nil => exact ⟨p, y, q, rfl, k2, by
        show (notStar y && (chk e sc y && true)) = true
        rw [Bool.and_true]; exact (Bool.and_eq_true _ _).mpr ⟨k4, k5⟩⟩
theorem E.len (h1 : EV n env st e a st1) (h2 : lenX st1 a = some i) : EV n env st (.len e) (.int i) st1 := .mk (k := 16) rfl (fun h => (an (an h).1).1) fun C X A φ s penv sc x E c hc => by
  obtain ⟨p, y, q, rfl, n2, n3⟩ := bcall_inv (f := "len") hc
  obtain ⟨mg, mb, g1, g2, _, _, ⟨g3, g4⟩, _⟩ := X.glob
  have hE := EE.one h1
  refine Call_ (name_builtin c.ok c.wd n2 g1 g3 g2 g4 (callWith_any (P := C.K.In) (keep_plain (fun a z => nomatch z)) (hE.length n3).2 (hE.args X c n3 fun φ' s' ys P v c' => ⟨In_of X c'.wd, ?_⟩)))
  obtain ⟨y, v1, rfl⟩ : ∃ y, VR C φ' st1 s'.heap y a ∧ ys = [y] := by cases v with | cons v w => cases w; exact ⟨_, v, rfl⟩
  cases a with
  | scr ns =>
    cases h2
    cases v1 with
    | scr hl hi hn =>
      rename_i l vs
      have hl' : s'.heap.IsList l vs.toArray := (let ⟨o, a, b⟩ := hl; ⟨o, c'.wd.base _ _ a, b⟩)
      have len : vs.length = ns.length := hi.length
      refine call_len_list hl' (by rw [List.size_toArray, len]; unfold LIM at hn; omega) ?_
      rw [List.size_toArray, len]
      exact Got.via P (got_here c'.wd (.int _ _) _)
  | ref r i =>
    obtain ⟨xs, h3, h2⟩ := Option.map_eq_some_iff.mp h2
    subst h2
    obtain ⟨rfl, hi⟩ := v1.ref_inv
    obtain ⟨items, m, hl, hs, hn, len⟩ := c'.wd.list (getL_some h3)
    refine call_len_list (isL_of hl) (by rw [len]; unfold LIM at hn; omega) ?_
    rw [len]
    exact Got.via P (got_here c'.wd (.int _ _) _)
  | _ => exact (Option.some_ne_none _ h2.symm).elim
theorem E.mkl (r : Nat) (h1 : EV n env st e (.tup xs) st1) (hl : xs.length ≤ LIM) : EV n env st (.mkl e) (.ref r (st1 r).length) (st1.push r (.list xs)) := .mk (k := 16) rfl (fun h => (an (an h).1).1) fun C X A φ s penv sc x E c hc => by
  obtain ⟨p, y, q, rfl, n2, n3⟩ := bcall_inv (f := "list") hc
  obtain ⟨mg, mb, g1, g2, _, _, _, _, ⟨g3, g4⟩⟩ := X.glob
  have hE := EE.one h1
  refine Call_ (name_builtin c.ok c.wd n2 g1 g3 g2 g4 (callWith_any (P := C.K.In) (keep_plain (fun a z => nomatch z)) (hE.length n3).2 (hE.args X c n3 fun φ' s' ys P v c' => ⟨In_of X c'.wd, ?_⟩)))
  obtain ⟨y, v1, rfl⟩ : ∃ y, VR C φ' st1 s'.heap y (.tup xs) ∧ ys = [y] := by cases v with | cons v w => cases w; exact ⟨_, v, rfl⟩
  obtain ⟨a, items, n, rfl, ht, hv⟩ := v1.tup_inv
  refine call_list_seq a (T := "tuple") (.inr rfl) ht rfl rfl (fun h' c1 hk hnew => ?_) (limS (by have : items.size = xs.length := hv.length; omega))
  have hlt := Heap.lt_size hnew
  obtain ⟨W', ev'⟩ := c'.wd.grow (h' := h') (r := r) (o := .list xs) (a := s'.heap.objs.size) (d := s'.heap.objs.size) hk (Nat.le_of_lt hlt) (Nat.le_refl _) (fun z => nomatch z) (fun f => ⟨items, c1, hnew, hv.mono f, hl⟩)
  refine Got.via P ⟨_, ⟨⟨_, _, rfl⟩, W', ev'⟩, ?_⟩
  have := VR.ref (C := C) (φ := φ'.put r (st1 r).length s'.heap.objs.size s'.heap.objs.size) (h := h') (push_len (st := st1) (r := r) (o := .list xs))
  rwa [Lay.put_a] at this
theorem E.edict (r : Nat) : EV n env st .edict (.ref r (st r).length) (st.push r (.idict [])) := .mk (k := 6) rfl (fun h => (an h).1) fun C X A φ s penv sc x E c hc => by
  obtain ⟨k1, k2, k3⟩ := an3 hc
  obtain ⟨ks, vs, p, rfl⟩ := inv6 k1
  cases List.isEmpty_iff.mp (show ks.isEmpty = true from k2)
  cases List.isEmpty_iff.mp (show vs.isEmpty = true from k3)
  refine wpAny_Dict_empty ?_
  obtain ⟨W', ev'⟩ := c.wd.grow (h' := s.heap.push emptyDict) (r := r) (o := .idict []) (a := s.heap.objs.size) (d := s.heap.objs.size) (fun b o q => Heap.get?_push_of_some _ q) (by simp) (Nat.le_refl _) (fun z => nomatch z) (fun f => ⟨[], Heap.DictOf.new s.heap, .nil⟩)
  refine ⟨_, ⟨⟨_, _, rfl⟩, W', ev'⟩, ?_⟩
  have := VR.ref (C := C) (φ := φ.put r (st r).length s.heap.objs.size s.heap.objs.size) (h := s.heap.push emptyDict) (push_len (st := st) (r := r) (o := .idict []))
  rwa [Lay.put_a] at this
end
end Mine
end

section
set_option maxRecDepth 100000
namespace Mine
open PySem PySem.W PySem.Calls PyProof.Rows PySem.SeqAt
section
variable {n m : Nat} {env : XEnv} {st st1 st2 st3 st' : XSt} {e e1 e2 es o : XE} {v w a b : XVal} {vs args xs ys : List XVal} {f x : String} {i j : Int} {c : Bool} {r q k l : Nat} {op : XBin}
theorem slice_inv {sc : Sc} {x : Expr} (hc : chk (.slice e1 e2) sc x = true) : ∃ i np u sp p, x = .Subscript (.Name i np) (.Slice none (some u) none sp) p ∧ chk e1 sc (.Name i np) = true ∧ chk e2 sc u = true := by
  have hc : (tag x 21 && (tag (eM x) 26 && (eOp (eM x) 0 && (tag (eL x) 23 && (chk e1 sc (eL x) && chk e2 sc (eM (eM x))))))) = true := hc
  have h2 := (an hc).2
  obtain ⟨o, sl, p, rfl⟩ := inv21 (an hc).1
  clear hc
  have h3 : (eOp sl 0 && (tag o 23 && (chk e1 sc o && chk e2 sc (eM sl)))) = true := (an h2).2
  obtain ⟨lo, hi, st, sp, e3⟩ := inv26 (e := sl) (an h2).1
  clear h2
  subst e3
  have h4 : (tag o 23 && (chk e1 sc o && chk e2 sc (hi.getD dE))) = true := (an h3).2
  have h5 : (lo.isNone && hi.isSome && st.isNone) = true := (an h3).1
  clear h3
  obtain ⟨i, np, e4⟩ := inv23 (e := o) (an h4).1
  subst e4
  match lo, hi, st, h5, h4 with
  | none, some u, none, _, h4 => exact ⟨i, np, u, sp, p, rfl, (an (an h4).2).1, (an (an h4).2).2⟩
theorem E.sliceT (h1 : EV n env st e1 (.tup xs) st1) (h2 : EV n env st1 e2 (.int i) st2) (hi : 0 ≤ i ∧ i < 1000) : EV n env st (.slice e1 e2) (.tup (xs.take i.toNat)) st2 := .mk (k := 21) rfl (fun h => (an h).1) fun C X A φ s penv sc x E c hc => by
  obtain ⟨i', np, u', sp, p, rfl, k5, k6⟩ := slice_inv (e1 := e1) (e2 := e2) hc
  clear hc
  refine wpAny_Subscript_Slice (T := "tuple") F.slot_tuple_getitem.lookup (h1.use X c k5 fun φ' s' y P v c' => wpAny_Slice ?_) (fun _ _ => rfl)
  rw [evalPart_none, evalPart_some]
  refine wpAny_pure (h2.use X c' k6 fun φ2 s2 y2 P2 v2 c2 => wpAny_pure ?_)
  obtain ⟨t, rfl⟩ := v2.int_inv
  have v' := P2.vr0 c'.wd v
  obtain ⟨a, items, n, rfl, hT, hv⟩ := v'.tup_inv
  have len : items.size = xs.length := hv.length
  have P3 := Post.push c2.wd { cls := .type "slice", data := .fields #[.none, .int i t, .none] }
  have hT' : IsT (s2.heap.push { cls := .type "slice", data := .fields #[.none, .int i t, .none] }) a items n := Heap.get?_push_of_some _ hT
  refine ⟨⟨_, hT', rfl⟩, ?_⟩
  obtain ⟨b, rfl⟩ := Int.eq_ofNat_of_zero_le hi.1
  refine getItem_tuple_upto hT' (Heap.IsSliceOf.new ..) (fun hb => ?_) ?_ (limS (Nat.le_trans (Nat.min_le_left _ _) (Nat.le_trans (Nat.le_of_lt (Int.ofNat_lt.mp hi.2)) (by decide))))
  · refine Got.via (P.trans (P2.trans P3)) (got_here' P3.wd ?_)
    have := P3.vr0 c2.wd v'
    rw [Int.toNat_natCast, List.take_of_length_le (by omega)]; exact this
  · refine Got.via (P.trans (P2.trans P3)) (push_tuple P3.wd (items := (items.toList.take (min b items.size)).toArray) ?_ s2.toks)
    have : (items.toList.take (min b items.size)) = items.toList.take b := by
      rw [← Array.length_toList, List.take_eq_take_iff]; simp
    simp only [this, Int.toNat_natCast]
    exact P3.vrs0 c2.wd (hv.take b)
theorem E.sliceL (r : Nat) (h1 : EV n env st e1 (.ref q k) st1) (h2 : EV n env st1 e2 (.int i) st2) (h3 : (st2 q)[k]? = some (.list xs)) (h0 : (st1 q)[k]? = some (.list ys)) (hi : 0 ≤ i ∧ i ≤ xs.length) : EV n env st (.slice e1 e2) (.ref r (st2 r).length) (st2.push r (.list (xs.take i.toNat))) := .mk (k := 21) rfl (fun h => (an h).1) fun C X A φ s penv sc x E c hc => by
  obtain ⟨i', np, u', sp, p, rfl, k5, k6⟩ := slice_inv (e1 := e1) (e2 := e2) hc
  clear hc
  refine wpAny_Subscript_list_slice (h1.use X c k5 fun φ' s' y P v c' => ?_) (fun _ _ => rfl)
  rw [evalPart_none, evalPart_some]
  refine wpAny_pure (h2.use X c' k6 fun φ2 s2 y2 P2 v2 c2 => ?_)
  obtain ⟨t, rfl⟩ := v2.int_inv
  have v' := P2.vr0 c'.wd v
  obtain ⟨rfl, hj⟩ := v'.ref_inv
  obtain ⟨items, m, hl2, hv, hn, len⟩ := c2.wd.list h3
  have P3 := Post.push c2.wd { cls := .type "slice", data := .fields #[.none, .int i t, .none] }
  refine ⟨φ2.a q k, items, none, some i, rfl, isL_of hl2, limS (len ▸ hn), .none, .int i t, ?_⟩
  obtain ⟨b, rfl⟩ := Int.eq_ofNat_of_zero_le hi.1
  rw [slicePick_upto items b (by omega)]
  refine Got.via (P.trans (P2.trans P3)) ?_
  have := push_list (st := st2) P3.wd (r := r) (items := (items.toList.take b).toArray) (P3.vrs0 c2.wd (hv.take b)) (by rw [List.length_take]; exact Nat.le_trans (Nat.min_le_right _ _) hn) s2.toks
  rw [Heap.size_push] at this
  simpa using this
theorem key_inv {k : String} {o : Option Expr} (h : isKey k o = true) : ∃ j p, o = some (.Constant (.str (S k)) j p) := by
  obtain ⟨h1, h2, h3⟩ := an3 h
  obtain ⟨y, rfl⟩ := Option.isSome_iff_exists.mp h3
  obtain ⟨c, j, p, e⟩ := inv19 h1
  have e : y = _ := e
  subst e
  cases eq_of_beq (show (c == _) = true from h2)
  exact ⟨j, p, rfl⟩
theorem EVS.pairs {C : XC} {penv : Env} {pos : Pos} (X : COk C) (h : EVS n env st es vs st') : ∀ {ks : List String} {keys : List (Option Expr)} {xs : List Expr} {sc}, chk es sc (row xs) = true → chkKs ks keys = true → ks.length = vs.length →
    ∃ ps : List (Sem Value × Sem Value), (evalEachOpt keys penv).zip ((evalEach xs penv).map fun v => do let x ← v; standAt pos; pure x) = ps.map (fun p => (some p.1, p.2)) ∧ ps.length = vs.length ∧ ∀ {A φ s} {E : Value → Shared → Prop} {Q : List (Value × Value) → Shared → Prop}, Cx C A n φ st s penv sc env →
      (∀ φ' s' ws, Post C φ st s [] φ' st' s' → All2 (fun (p : Value × Value) (q : String × XVal) => (∃ t, p.1 = Value.str (S q.1) t) ∧ VR C φ' st' s'.heap p.2 q.2) ws (ks.zip vs) → Q ws s') → wpAny (model C.prog C.w) A (evalPairs ps) Q E s := by
  induction h with
  | nil =>
    intro ks keys xs sc hc hk hl
    cases row_nil hc
    cases ks with
    | cons => exact absurd hl (Nat.succ_ne_zero _)
    | nil =>
      cases List.isEmpty_iff.mp (show keys.isEmpty = true from hk)
      exact ⟨[], rfl, rfl, fun c k => evalPairs_nil (k _ _ [] (.refl c.wd) .nil)⟩
  | @cons st st1 st2 e es v vs h1 _ ih =>
    intro ks keys xs sc hc hk hl
    obtain ⟨x, xs, rfl, n1, n2, n3⟩ := row_cons hc
    cases ks with
    | nil => exact absurd hl.symm (Nat.succ_ne_zero _)
    | cons k ks =>
      obtain ⟨hk1, hk2⟩ := an (show (isKey k (keys.headD none) && chkKs ks keys.tail) = true from hk)
      obtain ⟨j, p, ek⟩ := key_inv hk1
      cases keys with
      | nil => cases ek
      | cons key keys =>
        have ek : key = _ := ek
        subst ek
        obtain ⟨ps, p1, p2, p3⟩ := ih n3 hk2 (Nat.succ.inj hl)
        refine ⟨(PySem.eval (.Constant (.str (S k)) j p) penv, (do let y ← PySem.eval x penv; standAt pos; pure y)) :: ps, congrArg (_ :: ·) p1, congrArg (· + 1) p2, fun {A φ s E Q} c kk => evalPairs_cons (Constant_str ?_)⟩
        have pt : Post C φ st s [] φ st { s with toks := s.toks + 1 } := .toks c.wd _
        refine wpAny_bind (h1.use X (c.next pt) n2 fun φ' s' y P v c' => wpAny_bind (wpAny_standAt (wpAny_pure ?_)))
        exact p3 c' fun φ2 s2 ws P2 v2 => kk φ2 s2 _ (pt.trans (P.trans P2)) (.cons ⟨⟨_, rfl⟩, P2.vr0 c'.wd v⟩ v2)
theorem carries_of {C : XC} {φ : Lay} {h : Heap} {ws : List (Value × Value)} {kz : List (String × XVal)} (x : All2 (fun (p : Value × Value) (q : String × XVal) => (∃ t, p.1 = Value.str (S q.1) t) ∧ VR C φ st h p.2 q.2) ws kz) :
    ∃ kvs : List (Str × Value), Carries (strKind C.prog C.w) ws kvs ∧ All2 (fun kv e => kv.1 = S e.1 ∧ VR C φ st h kv.2 e.2) kvs kz := by
  induction x with
  | nil => exact ⟨[], trivial, .nil⟩
  | @cons p q _ _ h1 _ ih =>
    obtain ⟨kvs, a, b⟩ := ih
    obtain ⟨p1, p2⟩ := p
    obtain ⟨⟨t, h1⟩, h2⟩ := h1
    have h1 : p1 = _ := h1
    subst h1
    exact ⟨(S q.1, p2) :: kvs, ⟨by simp [PySem.strKind, Value.isStrOf], rfl, a⟩, .cons ⟨rfl, h2⟩ b⟩
theorem nodup_S {P : Value → XVal → Prop} {kvs : List (Str × Value)} {kz : List (String × XVal)} (x : All2 (fun kv e => kv.1 = S e.1 ∧ P kv.2 e.2) kvs kz) (h : (kz.map (·.1)).Nodup) : (kvs.map (·.1)).Nodup := by
  have : kvs.map (·.1) = (kz.map (·.1)).map S := by
    clear h
    induction x with
    | nil => rfl
    | cons a _ ih => exact List.cons_eq_cons.mpr ⟨a.1, ih⟩
  rw [this]
  exact List.Pairwise.map S (fun a b n e => n (S_inj e)) h
theorem E.dict (r : Nat) {ks : List String} (h : EVS n env st es vs st1) (hk : ks.Nodup) (hl : ks.length = vs.length) (h0 : vs ≠ [] ∧ vs.length ≤ 15) : EV n env st (.dict ks es) (.ref r (st1 r).length) (st1.push r (.sdict (ks.zip vs))) := .mk (k := 6) rfl (fun h => (an h).1) fun C X A φ s penv sc x E c hc => by
  obtain ⟨k1, k2, k3⟩ := an3 hc
  obtain ⟨keys, xs, pos, rfl⟩ := inv6 k1
  obtain ⟨ps, p1, p2, p3⟩ := h.pairs (penv := penv) (pos := pos) X k3 k2 hl
  refine wpAny_Dict_pairs (knd := strKind C.prog C.w) p1 (fun q => h0.1 (List.eq_nil_of_length_eq_zero (by rw [← p2, q]; rfl))) (by rw [p2]; exact h0.2) ?_
  have P0 := Post.push c.wd emptyDict
  have na := c.wd.fresh (Nat.le_refl s.heap.objs.size)
  have ha0 : (s.heap.push emptyDict).get? s.heap.objs.size = some emptyDict := Heap.get?_push_size _ rfl
  refine p3 (c.next P0) fun φ' s' ws P v => ?_
  have ha1 : s'.heap.get? s.heap.objs.size = some emptyDict := P.ev.keep _ _ (fun z => nomatch z) na ha0
  have na1 : ¬ Own φ' st1 s.heap.objs.size := P.ev.own ha0 na
  obtain ⟨kvs, q1, q2⟩ := carries_of v
  have D0 : s'.heap.DictOf (strKind C.prog C.w) s.heap.objs.size [] := by
    obtain ⟨o, es', ep', ho, r⟩ := Heap.DictOf.new (knd := strKind C.prog C.w) s.heap
    rw [show (s.heap.push { cls := .type "dict", data := .dict #[] }).get? s.heap.objs.size = some emptyDict from ha0] at ho
    cases ho
    exact ⟨_, es', ep', ha1, r⟩
  refine ⟨kvs, q1, D0, fun h' D hs => ?_⟩
  rw [merged_nil_of_nodup _ (nodup_S q2 (by rw [List.map_fst_zip (Nat.le_of_eq hl)]; exact hk))] at D
  have Xa : ExOk C s'.heap [s.heap.objs.size] := by
    intro b hb
    cases List.mem_singleton.mp hb
    exact ⟨c.wd.size, fun o ho => by rw [ha1] at ho; cases ho; exact ⟨.inr fun _ _ z => (nomatch z), fun _ z => (nomatch z)⟩⟩
  obtain ⟨W2, e2⟩ := P.wd.quiet Xa (fun b hb => by cases List.mem_singleton.mp hb; exact na1) (fun b o nb hb => (hs.2 b fun z => nb (by rw [z]; exact .head _)).trans hb) (Nat.le_of_eq hs.1.symm)
  obtain ⟨W3, e3, _⟩ := W2.adopt (r := r) (o := .sdict (ks.zip vs)) (a := s.heap.objs.size) (d := s.heap.objs.size) c.wd.size na1 (fun z => nomatch z) (fun f => ⟨kvs, D, q2.mono fun _ _ q => ⟨q.1, f _ _ (VR.mono P.wd Xa e2 q.2)⟩⟩)
  have eAll : Ev φ st s.heap φ' st1 h' [] := ((P0.ev.weaken (fun b hb => nomatch hb)).trans ((P.ev.weaken (fun b hb => nomatch hb)).trans e2)).drop fun b hb => by cases List.mem_singleton.mp hb; exact .inr (Nat.le_refl _)
  obtain ⟨⟨h5, t5, rfl⟩, _, _⟩ := P
  refine ⟨_, ⟨⟨_, _, rfl⟩, W3, e3 (Nat.le_refl _) (fun z => nomatch z) eAll⟩, ?_⟩
  have := VR.ref (C := C) (φ := φ'.put r (st1 r).length s.heap.objs.size s.heap.objs.size) (h := h') (push_len (st := st1) (r := r) (o := .sdict (ks.zip vs)))
  rwa [Lay.put_a] at this
theorem E.new (r : Nat) {cn : String} (h1 : EVS (n + 2) env st es vs st1) (h2 : CV n (cn ++ ".__init__") (.ref r (st1 r).length :: vs) (st1.push r (.inst cn [])) .none st2) : EV (n + 2) env st (.new cn es) (.ref r (st1 r).length) st2 := .mk (k := 16) rfl (fun h => (an (an h).1).1) fun C X A φ s penv sc x E c hc => by
  obtain ⟨k1, k2, k3, k4⟩ := an4 hc
  obtain ⟨p, xs, q, rfl⟩ := call_inv k1
  obtain ⟨mg, mb, g1, g2, _, g3, _⟩ := X.glob
  obtain ⟨k, f1, f2⟩ := g3 cn (List.contains_iff_mem.mp k3)
  have O := X.cls cn k f1
  obtain ⟨a, ha, run⟩ := h2 C X
  obtain ⟨j1, j2⟩ := O.init a ha
  refine Call_ (name_glob c.ok c.wd k2 g1 f2 (callWith_any (P := C.K.In) (fun h' x => keeps_K O.keep h' x) (h1.length k4).2 (h1.args X c k4 fun φ' s' ys p v c' => ⟨In_of X c'.wd, ?_⟩)))
  have X' := In_of X c'.wd
  refine wpAny_call (f := .ref k) (pos := ys) (make_core (init := .ref a) (makes_of X' O.make) (looks_findIn X' j1) (fun self => bind_fn X' self j2) (.inl rfl) ?_)
  obtain ⟨h, gg, dd, t, os⟩ := s'
  obtain ⟨W', ev'⟩ := c'.wd.grow (h' := (h.push emptyDict).push (instObj k h.objs.size)) (r := r) (o := .inst cn []) (a := h.objs.size + 1) (d := h.objs.size) (fun b o q => Heap.get?_push_of_some _ (Heap.get?_push_of_some _ q)) (by simp only [Heap.size_push]; omega) (Nat.le_succ _)
    (fun _ => ⟨Nat.le_refl _, Nat.succ_ne_self _⟩) (fun _ => ⟨k, [], _, f1, by
      have := Heap.get?_push_size (h.push emptyDict) (o := instObj k h.objs.size) rfl
      rw [Heap.size_push] at this; exact this, Heap.get?_push_of_some _ (Heap.get?_push_size h (o := emptyDict) rfl), .nil⟩)
  have P : Post C φ' st1 ⟨h, gg, dd, t, os⟩ [] (φ'.put r (st1 r).length (h.objs.size + 1) h.objs.size) (st1.push r (.inst cn [])) ⟨(h.push emptyDict).push (instObj k h.objs.size), gg, dd, t, os⟩ := ⟨⟨_, _, rfl⟩, W', ev'⟩
  have self : VR C (φ'.put r (st1 r).length (h.objs.size + 1) h.objs.size) (st1.push r (.inst cn [])) ((h.push emptyDict).push (instObj k h.objs.size)) (.ref (h.objs.size + 1)) (.ref r (st1 r).length) := by
    have := VR.ref (C := C) (φ := φ'.put r (st1 r).length (h.objs.size + 1) h.objs.size) (h := (h.push emptyDict).push (instObj k h.objs.size)) (push_len (st := st1) (r := r) (o := .inst cn []))
    rwa [Lay.put_a] at this
  refine codeAny_mono (run _ _ _ _ ?_ W' (.cons self (P.vrs0 c'.wd v))) fun r s'' ⟨y, hr, φ2, p2, v2⟩ => ?_
  · have := c'.room
    refine ⟨this.handled, ?_, ?_⟩
    · have e1 := this.depth
      show A.depth + Code.weight _ + 1 + n ≤ _
      have : Code.weight (.builtin "type.__call__" ⟨.ref k :: ys, []⟩) ≤ 1 := Nat.le_of_ble_eq_true (by with_unfolding_all rfl)
      omega
    · have e1 := this.units
      show A.units + Code.cUnits _ + 10 + 10 * n ≤ _
      have : Code.cUnits (.builtin "type.__call__" ⟨.ref k :: ys, []⟩) ≤ 5 := Nat.le_of_ble_eq_true (by with_unfolding_all rfl)
      omega
  · subst hr
    cases v2.none_inv
    exact ⟨rfl, φ2, p.trans (P.trans p2), p2.vr0 W' self⟩
end
end Mine
end

section
set_option maxRecDepth 100000
namespace Mine
open PySem PySem.W PySem.Calls PyProof.Rows PySem.SeqAt Builtin Builtin.ObjectAttr Builtin.Getset_descriptor
section
variable {n m : Nat} {env : XEnv} {st st1 st2 st3 st' : XSt} {e e1 e2 es o : XE} {v w a b : XVal} {vs args xs ys : List XVal} {f x : String} {i j : Int} {c : Bool} {r q k l : Nat} {op : XBin}
theorem turn_list {C : XC} {φ : Lay} {s : Shared} (W : Wd C φ st s.heap) {items : Array Value} {n : Nat} {f : Array Value → Array Value} (q : (st r)[k]? = some (.list xs)) (hl : IsL s.heap (φ.a r k) items n)
    (hs : All2 (VR C φ st s.heap) (f items).toList ys) (hn : ys.length ≤ LIM) : Post C φ st s [] φ (st.set r k (.list ys)) { s with heap := s.heap.update (φ.a r k) (Obj.mapSeq f) } := by
  obtain ⟨W', e⟩ := W.upd (o' := .list ys) q rfl (.inl rfl) (Heap.SameBut.update s.heap (φ.a r k) (Obj.mapSeq f)) (fun e => ⟨f items, _, hl.update f, hs.mono fun _ _ z => VR.mono W ExOk.nil e z, hn⟩)
  exact ⟨⟨_, _, rfl⟩, W', e⟩
theorem E.bm {ob : XObj} {name id : String} (h1 : EV n env st o (.ref r k) st1) (h2 : (st1 r)[k]? = some ob) (h3 : EVS n env st1 es vs st2)
    (hg : ∀ C φ s A (E : Value → Shared → Prop) pl (Q : Value × List Value → Shared → Prop), Wd C φ st1 s.heap → Q (.builtin id, [.ref (φ.a r k)]) s → wpAny (model C.prog C.w) A (getMethod (.ref (φ.a r k)) (S name) pl) Q E s)
    (hk : ∀ C φ s A (E : Value → Shared → Prop) ys, COk C → Wd C φ st2 s.heap → A.units + 500 < cLine → All2 (VR C φ st2 s.heap) ys vs → wpAny (model C.prog C.w) A (PySem.call (.builtin id) (.ref (φ.a r k) :: ys)) (Got C φ st2 s st3 v) E s) : EV n env st (.meth o name es) v st3 := .mk (k := 16) rfl (fun h => (an h).1) fun C X A φ s penv sc x E c hc => by
  obtain ⟨o', ap, xs, pos, rfl, n2, n3, n4, n5, n6, n7⟩ := meth_inv hc
  refine Call_meth n3 (h3.length n5).2 n6 n7 (h1.use X c n4 fun φ' s' y P v c' => ?_)
  obtain ⟨rfl, hi⟩ := v.ref_inv
  refine hg C φ' s' A E _ _ c'.wd (callWith_any (P := C.K.In) (keep_plain (fun a z => nomatch z)) (h3.length n5).2 (h3.args X c' n5 fun φ2 s2 ys P2 v2 c2 => ⟨In_of X c2.wd, ?_⟩))
  have ea : φ2.a r k = φ'.a r k := P2.ev.ext (r, k, false) hi
  have := hk C φ2 s2 A E ys X c2.wd c2.room.units4 v2
  rw [ea] at this
  exact wpAny_mono this (fun y s'' q => Got.via (P.trans P2) q) fun _ _ e => e
theorem E.lm {name id : String} (slot : Slot "list" (S name) id) (hty : typeOf (.builtin id) = pure (.type "method_descriptor")) (h1 : EV n env st o (.ref r k) st1) (h2 : (st1 r)[k]? = some (.list xs)) (h3 : EVS n env st1 es vs st2) (h4 : (st2 r)[k]? = some (.list ys))
    (hk : ∀ C φ s A (E : Value → Shared → Prop) ws items m, Wd C φ st2 s.heap → A.units + 500 < cLine → All2 (VR C φ st2 s.heap) ws vs → IsL s.heap (φ.a r k) items m → All2 (VR C φ st2 s.heap) items.toList ys → ys.length ≤ LIM → items.size = ys.length → wpAny (model C.prog C.w) A (PySem.call (.builtin id) (.ref (φ.a r k) :: ws)) (Got C φ st2 s st3 v) E s) :
    EV n env st (.meth o name es) v st3 :=
  E.bm h1 h2 h3 (fun C φ s A E pl Q W hq => by
    obtain ⟨items, m, hl, _⟩ := W.list h2
    exact getMethod_builtin (T := "list") ⟨_, hl, rfl⟩ F.plainAttrs_list slot hty (by rintro a ⟨⟩; exact ⟨_, hl, rfl⟩) hq) fun C φ s A E ws X W hu q => by
    obtain ⟨items, m, hl, hs, hn, len⟩ := W.list h4
    exact hk C φ s A E ws items m W hu q hl hs hn len
theorem one_inv {R : Value → XVal → Prop} {ws : List Value} (q : All2 R ws [v]) : ∃ y, ws = [y] ∧ R y v := by
  cases q with
  | cons a b => cases b; exact ⟨_, rfl, a⟩
theorem E.append (h1 : EV n env st o (.ref r k) st1) (h2 : (st1 r)[k]? = some (.list xs)) (h3 : EV n env st1 e v st2) (h4 : (st2 r)[k]? = some (.list ys)) (hl : ys.length < LIM) : EV n env st (.meth o "append" (.cons e .nil)) .none (st2.set r k (.list (ys ++ [v]))) :=
  E.lm F.slot_list_append F.type_list_append h1 h2 (EE.one h3) h4 fun C φ s A E ws items m W hu q hl hs hn len => by
    obtain ⟨y, rfl, qv⟩ := one_inv q
    have P := turn_list (f := fun xs => xs.push y) (ys := ys ++ [v]) W h4 hl (by rw [Array.toList_push]; exact hs.append (.cons qv .nil)) (by rw [List.length_append]; exact ‹ys.length < LIM›)
    exact call_meets F.slot_list_append ⟨_, hl, rfl⟩ F.entry_list_append (F.args_list_append_2 _ _) (list_append _ items m y (limS (by omega))) ⟨hl, φ, P, .none⟩
theorem erase_last {α : Type} (l : List α) (a : α) : (l ++ [a]).eraseIdx l.length = l := by
  induction l with
  | nil => rfl
  | cons b l ih => exact congrArg (b :: ·) ih
theorem all2_snoc {R : Value → XVal → Prop} {l : List Value} (q : All2 R l (xs ++ [v])) : ∃ l' y, l = l' ++ [y] ∧ All2 R l' xs ∧ R y v := by
  refine ⟨l.take xs.length, l[xs.length]'(by rw [q.length]; simp), ?_, by have := q.take xs.length; rwa [List.take_left] at this, q.elem (List.getElem?_eq_getElem _) (by simp)⟩
  have : l.length = xs.length + 1 := by rw [q.length]; simp
  conv => lhs; rw [← List.take_append_drop xs.length l]
  rw [List.drop_eq_getElem_cons (by omega), List.drop_eq_nil_of_le (by omega)]
theorem E.pop (h1 : EV n env st o (.ref r k) st1) (h2 : (st1 r)[k]? = some (.list (ys ++ [v]))) : EV n env st (.meth o "pop" .nil) v (st1.set r k (.list ys)) :=
  E.lm F.slot_list_pop F.type_list_pop h1 h2 EE.nil h2 fun C φ s A E ws items m W hu q hl hs hn len => by
    cases q
    obtain ⟨l', y, e1, e2, e3⟩ := all2_snoc hs
    have hlast : items[items.size - 1]? = some y := by
      rw [← Array.getElem?_toList, e1, len, List.length_append, List.length_singleton, Nat.add_sub_cancel, ← e2.length]; simp
    have P := turn_list (f := fun xs => xs.eraseIdxIfInBounds (items.size - 1)) (ys := ys) W h2 hl (by
      have : (items.eraseIdxIfInBounds (items.size - 1)).toList = l' := by
        have hz : items.size = l'.length + 1 := by rw [← Array.length_toList, e1]; simp
        unfold Array.eraseIdxIfInBounds
        rw [dif_pos (by omega), Array.toList_eraseIdx, e1, hz, Nat.add_sub_cancel, erase_last]
      rw [this]; exact e2) (by rw [List.length_append] at hn; omega)
    exact call_meets F.slot_list_pop ⟨_, hl, rfl⟩ F.entry_list_pop (F.args_list_pop_1 _) (PySem.MeetsSeq.list_pop_last _ items m y hlast (limS (by omega))) ⟨hl, φ, P, P.vr0 W e3⟩
theorem E.extend {zs : List XVal} (h1 : EV n env st o (.ref r k) st1) (h2 : (st1 r)[k]? = some (.list xs)) (h3 : EV n env st1 e (.ref q l) st2) (h4 : (st2 r)[k]? = some (.list ys)) (h5 : (st2 q)[l]? = some (.list zs)) (hl : ys.length + zs.length ≤ LIM) : EV n env st (.meth o "extend" (.cons e .nil)) .none (st2.set r k (.list (ys ++ zs))) :=
  E.lm F.slot_list_extend F.type_list_extend h1 h2 (EE.one h3) h4 fun C φ s A E ws items m W hu q hl hs hn len => by
    obtain ⟨y, rfl, qv⟩ := one_inv q
    obtain ⟨rfl, hj⟩ := qv.ref_inv
    obtain ⟨items2, n2, hl2, hs2, hn2, l2⟩ := W.list h5
    have P := turn_list (f := fun xs => xs ++ items2) (ys := ys ++ zs) W h4 hl (by rw [Array.toList_append]; exact hs.append hs2) (by rw [List.length_append]; omega)
    have lim : items.size + items2.size ≤ sizeLine := limS (by omega)
    exact call_meets F.slot_list_extend ⟨_, hl, rfl⟩ F.entry_list_extend (F.args_list_extend_2 _ _) (AutoSeq1.list_extend_list_list_0 _ items m _ items2 n2 (by simp [Builtin.List.listTooLong]; intro _; exact lim) (by omega) (by omega)) ⟨hl, hl2, φ, P, .none⟩
theorem E.insEnd (h1 : EV n env st o (.ref r k) st1) (h2 : (st1 r)[k]? = some (.list xs)) (h3 : EV n env st1 e1 (.int i) st2) (h3' : EV n env st2 e2 v st3) (h4 : (st3 r)[k]? = some (.list ys)) (hi : i = ys.length) (hl : ys.length < LIM) : EV n env st (.meth o "insert" (.cons e1 (.cons e2 .nil))) .none (st3.set r k (.list (ys ++ [v]))) :=
  E.lm F.slot_list_insert F.type_list_insert h1 h2 (EE.cons h3 (EE.one h3')) h4 fun C φ s A E ws items m W hu q hl hs hn len => by
    cases q with
    | cons qi q =>
      obtain ⟨y, rfl, qv⟩ := one_inv q
      obtain ⟨u, rfl⟩ := qi.int_inv
      have e0 : ((if i < 0 then (i + ((items.size : Nat) : Int)).toNat else min i.toNat items.size)) = items.size := by
        have : ¬ i < 0 := by omega
        rw [if_neg this, hi, len, Int.toNat_natCast, Nat.min_self]
      have P := turn_list (f := fun xs => have j := if i < 0 then (i + ((xs.size : Nat) : Int)).toNat else min i.toNat xs.size; (xs.extract 0 j).push y ++ xs.extract j) (ys := ys ++ [v]) W h4 hl (by
        simp only [e0]
        rw [Array.toList_append, Array.toList_push, Array.toList_extract, Array.toList_extract]
        have := hs.append (.cons qv .nil)
        have z : items.toList.take items.size = items.toList := List.take_of_length_le (Nat.le_refl _)
        simpa [List.extract_eq_take_drop, z] using this) (by rw [List.length_append]; exact ‹ys.length < LIM›)
      have hz : ys.length ≤ 1000000 := hn
      exact call_meets F.slot_list_insert ⟨_, hl, rfl⟩ F.entry_list_insert (F.args_list_insert_3 _ _ _) (AutoListH.list_insert_list_int_val_1 _ items m i u y (by simp [Builtin.List.listFitsIndex]; omega) (by rw [sizeLine_eq]; omega)) ⟨hl, φ, P, .none⟩
theorem E.index {bs : List Bool} {j : Nat} (h1 : EV n env st o (.ref r k) st1) (h2 : (st1 r)[k]? = some (.list xs)) (h3 : EV n env st1 e a st2) (h4 : (st2 r)[k]? = some (.list ys)) (he : All2 (fun x c => Eqt x a c) ys bs) (hj : bs[j]? = some true) (hb : ∀ m, m < j → bs[m]? = some false) : EV n env st (.meth o "index" (.cons e .nil)) (.int j) st2 :=
  E.lm F.slot_list_index F.type_list_index h1 h2 (EE.one h3) h4 fun C φ s A E ws items m W hu q hl hs hn len => by
    obtain ⟨y, rfl, qv⟩ := one_inv q
    obtain ⟨f, f1, f2⟩ := any_at (A := A.in1) (by show A.units + 1 + 1 < cLine; omega) qv hs he
    have at_ : ∀ {m} (hm : m < items.size) {c}, bs[m]? = some c → f items[m] = c := fun {m} hm {c} hc => by
      rw [← f2, List.getElem?_map, toL hm] at hc
      exact Option.some.inj hc
    have hk : j < items.size := by
      have := (List.getElem?_eq_some_iff.mp hj).1
      rw [← f2, List.length_map] at this; exact this
    exact call_meets F.slot_list_index ⟨_, hl, rfl⟩ F.entry_list_index (F.args_list_index_2 _ _) (list_indexAt _ items m none #[] y f j hk (by unfold LIM at hn; omega) (at_ hk hj) fun m hm h => at_ hm (hb m h)) ⟨hl, fun y hy => f1 y (by simpa using hy), got_here W (.int _ _) _⟩
theorem E.get {fs : List (String × XVal)} {t : String} (h1 : EV n env st o (.ref r k) st1) (h2 : (st1 r)[k]? = some (.sdict fs)) (h3 : EV n env st1 e1 (.str t) st2) (h4 : EV n env st2 e2 a st3) (h5 : (st3 r)[k]? = some (.sdict fs)) : EV n env st (.meth o "get" (.cons e1 (.cons e2 .nil))) ((lookupS t fs).getD a) st3 :=
  E.bm h1 h2 (EE.cons h3 (EE.one h4)) (fun C φ s A E pl Q W hq => by
    obtain ⟨kvs, hd, hv⟩ := W.rel r k _ h2
    exact getMethod_builtin (T := "dict") hd.typeIs F.plainAttrs_dict F.slot_dict_get F.type_dict_get (by
      rintro a ⟨⟩
      obtain ⟨o, es', ep, ho, r⟩ := hd
      exact ⟨o, ho, by first | exact r.1.2.1 | exact r.2.1 | exact r.1.2⟩) hq) fun C φ s A E ws X W hu q => by
    cases q with
    | cons qk q =>
      obtain ⟨y, rfl, qv⟩ := one_inv q
      obtain ⟨u, rfl⟩ := qk.str_inv
      obtain ⟨kvs, hd, hkv⟩ := W.rel _ _ _ h5
      refine call_meetsIn F.slot_dict_get hd.typeIs F.entry_dict_get (F.args_dict_get_3 _ _ _) (meets_dict_get_default (PySem.strKind C.prog C.w) (φ.a r k) (k := S t) (by simp [PySem.strKind, Value.isStrOf]) (low_ne W X.big (List.getElem?_eq_some_iff.mp h5).1) y) ⟨valueAt kvs, hd.mapOf, ?_⟩
      refine got_here W ?_ _
      cases z : lookupS t fs with
      | none => rw [(valueAt_K S_in t hkv).2 z]; exact qv
      | some w => obtain ⟨v', h1, h2⟩ := (valueAt_K S_in t hkv).1 w z; rw [h1]; exact h2
end
end Mine
end

section
set_option maxRecDepth 100000
namespace Mine
open PySem PySem.W PySem.Calls PyProof.Rows PySem.SeqAt Builtin Builtin.ObjectAttr Builtin.Getset_descriptor
section
variable {s : Shared} {A : Around} {E : Value → Shared → Prop} {prog : Program} {w : World} {K : Frag}
theorem setItem_L {l : Addr} {items : Array Value} {n : Nat} {k : Int} {t : Tok} {v : Value} {Q : Unit → Shared → Prop} (hl : IsL s.heap l items n) (h0 : 0 ≤ k) (hfit : k < 2 ^ 63) (hk : k < items.size)
    (h : Q () { s with heap := s.heap.update l (Obj.mapSeq fun xs => xs.setIfInBounds k.toNat v) }) : wpAny (model prog w) A (setItem (.ref l) (.int k t) v) Q E s := by
  have hT : s.TypeIs (.ref l) "list" := ⟨_, hl, rfl⟩
  unfold setItem
  refine wpAny_holding (wpAny_bind (wpAny_sequenceKey hT (by decide) ?_))
  refine wpAny_bind (wpAny_callSpecial?_slot (name := Str.ofString "__setitem__") hT PySem.slot_list_setitem (wpAny_call_entry PySem.slot_list_setitem hT PySem.entry_list_setitem ?_ (PySem.args_list_setitem _ _ _)))
  show wpAny _ _ (Builtin.List.listSubscript? (.int k t) >>= _) _ _ s
  refine wpAny_bind (wpAny_listSubscript_int (fitsIndex_of h0 hfit) ?_)
  clear hfit
  obtain ⟨j, rfl⟩ := Int.eq_ofNat_of_zero_le h0
  have hj : j < items.size := by omega
  show wpAny _ _ ((seqItemAt l j >>= fun r => pure (r.map (j, ·))) >>= _) _ _ s
  refine wpAny_bind (wpAny_bind (wpAny_seqItemAt hl rfl (wpAny_pure ?_)))
  rw [Array.getElem?_eq_getElem hj]
  show wpAny _ _ (setSeqItemAt l j v >>= _) _ _ s
  refine wpAny_bind (wpAny_setSeqItemAt hl rfl ?_)
  first
    | exact wpAny_bind (wpAny_pure (wpAny_pure ⟨.none, rfl, wpAny_pure h⟩))
    | exact wpAny_pure ⟨.none, rfl, wpAny_pure h⟩
theorem putL_len (name : Str) (hsh : Int) (key v : Value) : ∀ es : List DictEntry, (putL name hsh key v es).length ≤ es.length + 1
  | [] => by simp [putL]
  | e :: r => by
    have := putL_len name hsh key v r
    unfold putL; split <;> simp <;> omega
theorem setAttr_raw {x k dx : Addr} {es : List DictEntry} {n : Nat} {name : Str} {v : Value} {Q : Unit → Shared → Prop} (X : K.In s.heap) (hx : s.heap.get? x = some (instObj k dx)) (hd : s.heap.get? dx = some (dictOf es n))
    (hs : findIn K (.ref k) "__setattr__" = some (some (.builtin "object.__setattr__"))) (hp : plainOver K k = true) (ht : takerIn K k name = some none) (hh : hasDictIn K k = true) (hstr : es.any (·.refKey) = false) (hz : es.length ≤ 1000)
    (h : ∀ tk t, Q () { s with heap := s.heap.update dx (Obj.putName name (PyData.keyHash w.params name) (.str name tk) v), toks := t }) : wpAny (model prog w) A (setAttr (.ref x) name v) Q E s := by
  have I : PySem.W.InstAt s.heap x (instObj k dx) k (some (dictOf es n)) := ⟨hx, rfl, rfl, hd⟩
  refine set_plain X I hs (osa_open (s := { s with toks := s.toks + 1 }) X I hp ht fun b => ?_)
  obtain ⟨cd, hc, hd'⟩ := any_some hh
  have e1 : (Obj.putName name (PyData.keyHash w.params name) (.str name (s.toks + 1)) v (dictOf es n)) = dictOf (putL name (PyData.keyHash w.params name) (.str name (s.toks + 1)) v es) (putN name es n) := putName_dict ..
  have D' : (s.heap.update dx (Obj.putName name (PyData.keyHash w.params name) (.str name (s.toks + 1)) v)).get? dx = some (dictOf (putL name (PyData.keyHash w.params name) (.str name (s.toks + 1)) v es) (putN name es n)) := by
    rw [← e1]; exact Heap.get?_update_self _ hd (by rw [e1]; rfl)
  have len := putL_len name (PyData.keyHash w.params name) (.str name (s.toks + 1)) v es
  unfold storeInOwnDict
  refine wpAny_bind (wpAny_pure (wpAny_bind ?_))
  show wpAny _ _ (instanceDict x true) _ _ _
  unfold instanceDict
  refine wpAny_bind (wpAny_loadPart hx ?_)
  dsimp only
  refine wpAny_bind (looks_clsIn X hc _ _ _ _ (fun _ _ e => e) ?_)
  rw [hd']
  refine wpAny_pure (a := some dx) (wpAny_bind (wpAny_pure (wpAny_bind ?_)))
  unfold nsSet
  refine wpAny_bind (wpAny_bind (wpAny_askSetting (wpAny_pure (wpAny_bind (wpAny_mkText (wpAny_bind (wpAny_loadPart hd ?_)))))))
  have c : (!es.any (·.key.isStr name) && es.any (·.refKey)) = false := by rw [hstr, Bool.and_false]
  dsimp only
  rw [aRefKeyMayBeTheName_at, ← Array.any_toList, ← Array.any_toList]
  dsimp only
  rw [c]
  refine wpAny_updatePart hd ?_
  refine wpAny_bind (wpAny_lookBehind D' (by exact pastItsLine_dict (by rw [List.size_toArray, sizeLine_eq]; omega)) ?_)
  exact wpAny_pure (h _ _)
end
theorem any_key {α : Type} [DecidableEq α] (kvs : List (α × Value)) (k : α) : (kvs.any fun kv => decide (kv.1 = k)) = true ↔ k ∈ kvs.map (·.1) := by
  rw [List.any_eq_true]
  constructor
  · rintro ⟨x, h1, h2⟩; exact List.mem_map.mpr ⟨x, h1, of_decide_eq_true h2⟩
  · intro h; obtain ⟨x, h1, h2⟩ := List.mem_map.mp h; exact ⟨x, h1, decide_eq_true h2⟩
theorem map_off {α : Type} [DecidableEq α] (kvs : List (α × Value)) (k : α) (v : Value) (h : k ∉ kvs.map (·.1)) : (kvs.map fun kv => if kv.1 = k then (kv.1, v) else kv) = kvs := by
  induction kvs with
  | nil => rfl
  | cons a l ih =>
    simp only [List.map_cons, List.mem_cons, not_or] at h
    rw [List.map_cons, ih h.2, if_neg (fun z => h.1 z.symm)]
theorem stored_cons {α : Type} [DecidableEq α] (a : α × Value) (l : List (α × Value)) (k : α) (v : Value) (h : (a :: l |>.map (·.1)).Nodup) : PySem.stored (a :: l) k v = if a.1 = k then (a.1, v) :: l else a :: PySem.stored l k v := by
  obtain ⟨k1, v1⟩ := a
  simp only [List.map_cons, List.nodup_cons] at h
  unfold PySem.stored
  by_cases q : k1 = k
  · subst q
    simp only [List.any_cons, decide_true, Bool.true_or, if_true, List.map_cons]
    rw [map_off _ _ _ h.1]
  · simp only [List.any_cons, decide_eq_false q, Bool.false_or, if_neg q, List.map_cons]
    split <;> simp
theorem stored_K {α β : Type} [DecidableEq α] [DecidableEq β] {g : α → β} (inj : ∀ a b, g a = g b → a = b) {P : Value → XVal → Prop} (k : α) {v : Value} {x : XVal} (hv : P v x) {kvs : List (β × Value)} {es : List (α × XVal)} (h : All2 (fun kv e => kv.1 = g e.1 ∧ P kv.2 e.2) kvs es) :
    (kvs.map (·.1)).Nodup → All2 (fun kv e => kv.1 = g e.1 ∧ P kv.2 e.2) (PySem.stored kvs (g k) v) (storeK k x es) := by
  induction h with
  | nil => intro _; exact .cons ⟨rfl, hv⟩ .nil
  | @cons kv e l m a b ih =>
    intro nd
    rw [stored_cons _ _ _ _ nd]
    show All2 _ _ (if e.1 = k then (e.1, x) :: m else e :: storeK k x m)
    by_cases q : e.1 = k
    · rw [if_pos q, if_pos (a.1.trans (congrArg g q))]; exact .cons ⟨a.1, hv⟩ b
    · rw [if_neg q, if_neg (fun z => q (inj _ _ (a.1.symm.trans z)))]; exact .cons a (ih (List.nodup_cons.mp nd).2)
noncomputable def setO (o : XObj) (i v : XVal) : Option XObj := o.casesOn (fun xs => (asI i).bind fun k => if 0 ≤ k ∧ k.toNat < xs.length then some (.list (xs.set k.toNat v)) else none) (fun es => (asS i).bind fun k => if es.length ≤ LIM then some (.sdict (storeS k v es)) else none) (fun es => (asI i).bind fun k => if es.length ≤ LIM then some (.idict (storeI k v es)) else none) fun _ _ => none
noncomputable def setF (o : XObj) (a : String) (v : XVal) : Option XObj := o.casesOn (fun _ => none) (fun _ => none) (fun _ => none) fun c fs => if fs.length ≤ 100 then some (.inst c (storeS a v fs)) else none
noncomputable def turnX (st : XSt) (v : XVal) (f : XObj → Option XObj) : Option XSt := v.casesOn none (fun _ => none) (fun _ => none) (fun _ => none) (fun _ => none) (fun r i => ((st r)[i]?).bind fun o => (f o).map fun o' => st.set r i o') (fun _ => none) fun _ => none
noncomputable def setX (st : XSt) (o i v : XVal) : Option XSt := turnX st o fun b => setO b i v
noncomputable def setAttrX (st : XSt) (o : XVal) (a : String) (v : XVal) : Option XSt := turnX st o fun b => setF b a v
theorem turnX_eq {st st' : XSt} {v : XVal} {f : XObj → Option XObj} (h : turnX st v f = some st') : ∃ r i o o', v = .ref r i ∧ (st r)[i]? = some o ∧ f o = some o' ∧ st' = st.set r i o' := by
  cases v with
  | ref r i =>
    obtain ⟨o, h1, h⟩ := bind_eq h
    obtain ⟨o', h2, h⟩ := Option.map_eq_some_iff.mp h
    exact ⟨r, i, o, o', rfl, h1, h2, h.symm⟩
  | _ => exact (Option.some_ne_none _ h.symm).elim
theorem if_some {α : Type} {p : Prop} [Decidable p] {a b : α} (h : (if p then some a else none) = some b) : p ∧ a = b := by
  split at h
  · exact ⟨‹p›, Option.some.inj h⟩
  · cases h
section
variable {C : XC} {φ φ' φ'' : Lay} {st st' st'' : XSt} {s s' s'' : Shared} {A : Around} {E : Value → Shared → Prop} {ex : List Addr}
theorem dict_nodup {K : Type} [DecidableEq K] {knd : PySem.KeyKind C.prog C.w K} {h : Heap} {a : Addr} {kvs : List (K × Value)} (x : h.DictOf knd a kvs) : (kvs.map (·.1)).Nodup := let ⟨_, _, _, _, _, _, _, _, n⟩ := x; n
theorem set_sound (W : Wd C φ st s.heap) {o i x : XVal} {a b c : Value} {Q : Unit → Shared → Prop} (e : setX st o i x = some st') (ha : VR C φ st s.heap a o) (hb : VR C φ st s.heap b i) (hc : VR C φ st s.heap c x)
    (h : ∀ s', Post C φ st s [] φ st' s' → Q () s') : wpAny (model C.prog C.w) A (setItem a b c) Q E s := by
  obtain ⟨r, j, ob, ob', rfl, q, e, rfl⟩ := turnX_eq e
  obtain ⟨rfl, hj⟩ := ha.ref_inv
  cases ob with
  | list xs =>
    obtain ⟨k, e1, e⟩ := bind_eq e
    cases asI_eq e1
    obtain ⟨hi, rfl⟩ := if_some e
    obtain ⟨u, rfl⟩ := hb.int_inv
    obtain ⟨items, n, hl, hs, hn, l1⟩ := W.list q
    have hn' : xs.length ≤ 1000000 := hn
    have P := turn_list (f := fun xs => xs.setIfInBounds k.toNat c) (ys := xs.set k.toNat x) W q hl (by
      rw [Array.toList_setIfInBounds]
      refine .of (by rw [List.length_set, List.length_set]; exact hs.length) fun m y z e1 e2 => ?_
      rw [List.getElem?_set] at e1 e2
      by_cases z : k.toNat = m
      · rw [if_pos z, if_pos (by show _ < items.size; omega)] at e1
        rw [if_pos z, if_pos (by omega)] at e2
        cases e1; cases e2; exact hc
      · rw [if_neg z] at e1 e2; exact hs.elem e1 e2) (by rw [List.length_set]; exact hn)
    exact setItem_L hl hi.1 (by omega) (by omega) (h _ P)
  | sdict es =>
    obtain ⟨k, e1, e⟩ := bind_eq e
    cases asS_eq e1
    obtain ⟨hn, rfl⟩ := if_some e
    obtain ⟨t, rfl⟩ := hb.str_inv
    obtain ⟨kvs, hd, hk⟩ := W.rel _ _ _ q
    refine wpAny_setItem_pairs (knd := PySem.strKind C.prog C.w) (k := S k) (by simp [PySem.strKind, Value.isStrOf]) hd (fun h' hd' hs' => ?_) (by rw [hk.length]; exact limS hn)
    obtain ⟨W', e⟩ := W.upd (o' := .sdict (storeS k x es)) q rfl (.inl rfl) hs' (fun e => ⟨_, hd', stored_K S_in k (VR.mono W ExOk.nil e hc) (hk.mono fun _ _ z => ⟨z.1, VR.mono W ExOk.nil e z.2⟩) (dict_nodup hd)⟩)
    exact h _ ⟨⟨_, _, rfl⟩, W', e⟩
  | idict es =>
    obtain ⟨k, e1, e⟩ := bind_eq e
    cases asI_eq e1
    obtain ⟨hn, rfl⟩ := if_some e
    obtain ⟨t, rfl⟩ := hb.int_inv
    obtain ⟨kvs, hd, hk⟩ := W.rel _ _ _ q
    refine wpAny_setItem_pairs (knd := PySem.intKind C.prog C.w) (k := k) (by simp [PySem.intKind, Value.isInt]) hd (fun h' hd' hs' => ?_) (by rw [hk.length]; exact limS hn)
    obtain ⟨W', e⟩ := W.upd (o' := .idict (storeI k x es)) q rfl (.inl rfl) hs' (fun e => ⟨_, hd', stored_K (g := fun (x : Int) => x) I_in k (VR.mono W ExOk.nil e hc) (hk.mono fun _ _ z => ⟨z.1, VR.mono W ExOk.nil e z.2⟩) (dict_nodup hd)⟩)
    exact h _ ⟨⟨_, _, rfl⟩, W', e⟩
  | inst => exact (Option.some_ne_none _ e.symm).elim
theorem fields_put {h : Heap} {es : List DictEntry} {fs : List (String × XVal)} (x : Fields C φ st h es fs) (a : String) {hsh : Int} {tk : Tok} {v : Value} {w : XVal} (hv : VR C φ st h v w) :
    Fields C φ st h (putL (S a) hsh (.str (S a) tk) v es) (storeS a w fs) := by
  induction x with
  | nil => exact .cons ⟨⟨tk, rfl⟩, hv⟩ .nil
  | cons p q ih =>
    rename_i e f l m
    obtain ⟨⟨t, ht⟩, hv'⟩ := p
    have := isStr_S (b := a) ht
    show Fields C φ st h _ (if f.1 = a then (f.1, w) :: m else f :: storeK a w m)
    unfold putL
    rw [this]
    by_cases z : f.1 = a
    · rw [if_pos z, decide_eq_true z, if_pos rfl]; exact .cons ⟨⟨t, ht⟩, hv⟩ q
    · rw [if_neg z, decide_eq_false z]; exact .cons ⟨⟨t, ht⟩, hv'⟩ ih
theorem setAttr_sound (W : Wd C φ st s.heap) (X : COk C) {a : String} (hin : asL.contains a = true) {o x : XVal} {v y : Value} {Q : Unit → Shared → Prop} (e : setAttrX st o a x = some st') (hv : VR C φ st s.heap v o) (hy : VR C φ st s.heap y x)
    (h : ∀ s', Post C φ st s [] φ st' s' → Q () s') : wpAny (model C.prog C.w) A (setAttr v (S a) y) Q E s := by
  obtain ⟨r, i, ob, ob', rfl, q, e, rfl⟩ := turnX_eq e
  obtain ⟨rfl, hi⟩ := hv.ref_inv
  cases ob with
  | inst c fs =>
    obtain ⟨hn, rfl⟩ := if_some e
    obtain ⟨k, es, n, hk, h1, h2, hf⟩ := inst_at W q
    have O := X.cls c k hk
    refine setAttr_raw (In_of X W) h1 h2 O.seta O.over (by unfold takerIn; rw [O.as a (List.contains_iff_mem.mp hin)]; rfl) O.dict (fields_noref hf) (by rw [hf.length]; omega) (fun tk t => ?_)
    obtain ⟨W', e⟩ := W.upd (o' := .inst c (storeS a x fs)) q rfl (.inr ⟨⟨c, fs, rfl⟩, rfl⟩) (Heap.SameBut.update s.heap (φ.d r i) (Obj.putName (S a) (PyData.keyHash C.w.params (S a)) (.str (S a) tk) y)) (fun e => by
      refine ⟨k, _, putN (S a) es n, hk, ?_, ?_, fields_put (hsh := PyData.keyHash C.w.params (S a)) (hf.mono fun _ _ z => ⟨z.1, VR.mono W ExOk.nil e z.2⟩) a (tk := tk) (VR.mono W ExOk.nil e hy)⟩
      · refine (Heap.get?_update_other _ _ fun z => ?_).trans h1
        have := W.inj (r, i, true) (r, i, false) ⟨c, fs, q⟩ hi z
        cases this
      · have e1 := Heap.get?_update_self (Obj.putName (S a) (PyData.keyHash C.w.params (S a)) (.str (S a) tk) y) h2 (by rw [putName_dict]; rfl)
        rw [putName_dict] at e1
        exact e1)
    exact h _ ⟨⟨_, _, rfl⟩, W', e⟩
  | _ => exact (Option.some_ne_none _ e.symm).elim
end
end Mine
end

section
set_option maxRecDepth 100000
namespace Mine
open PySem PySem.W PySem.Calls PyProof.Rows
open Sem (wp)
theorem runs_size {M : Model} {Γ : Ctx} {p : Pos} {t : Sem Fin} {fs : List Frame} {s s' : Shared} {e : End} (h : Runs M Γ p t fs s e s') : s.heap.objs.size ≤ s'.heap.objs.size := by
  induction h <;> (try simp only [Shared.setGen, Heap.size_push, Heap.size_after_update] at *) <;> omega
theorem wakes_size {M : Model} {Γ : Ctx} {p : Pos} {g : Nat} {r : Resume} {s s' : Shared} {res : GenResult} (h : Wakes M Γ p g r s res s') : s.heap.objs.size ≤ s'.heap.objs.size := by
  unfold Wakes at h
  split at h
  · exact h.elim
  · split at h
    · obtain ⟨e₁, s₁, hr, _, _, rfl⟩ := h; exact (runs_size hr : (s.setGen g .running).heap.objs.size ≤ s₁.heap.objs.size)
    · rw [h.2]; exact Nat.le_refl _
    · rw [h.2]; exact Nat.le_refl _
  · obtain ⟨e₁, s₁, hr, _, _, rfl⟩ := h; exact (runs_size hr : (s.setGen g .running).heap.objs.size ≤ s₁.heap.objs.size)
  · rw [h.2]; exact Nat.le_refl _
  · rw [h.2]; exact Nat.le_refl _
theorem wp_size {α : Type} (M : Model) (Γ : Ctx) (n : Nat) (t : Sem α) : ∀ (Q : α → Pos → Shared → Prop) (E : Value → Pos → Shared → Prop) (p : Pos) (s : Shared), n ≤ s.heap.objs.size → wp M Γ t Q E p s →
    wp M Γ t (fun a p' s' => n ≤ s'.heap.objs.size ∧ Q a p' s') E p s := by
  induction t with
  | pure a => intro Q E p s hn h; exact ⟨hn, h⟩
  | raise e => intro Q E p s hn h; exact h
  | unsupported _ => intro Q E p s _ h; exact h
  | finish _ => intro Q E p s _ h; exact h
  | rule _ k ih => intro Q E p s hn h; exact ih () Q E p s hn h
  | «at» p' k ih => intro Q E p s hn h; exact ih () Q E p' s hn h
  | load a _ k ih => intro Q E p s hn h; obtain ⟨o, ho, h⟩ := h; exact ⟨o, ho, ih o Q E p s hn h⟩
  | update a _ f k ih => intro Q E p s hn h; exact ⟨h.1, ih () Q E p _ (by rw [Heap.size_after_update]; exact hn) h.2⟩
  | loadIfAlive a k ih => intro Q E p s hn h; exact ih _ Q E p s hn h
  | point _ k ih => intro Q E p s hn h; exact ih () Q E p s hn h
  | register _ _ => intro Q E p s _ h; exact h
  | alloc o k ih => intro Q E p s hn h; exact ih _ Q E p _ (by rw [Heap.size_push]; exact Nat.le_succ_of_le hn) h
  | fresh k ih => intro Q E p s hn h; exact ih _ Q E p _ hn h
  | ask k ih => intro Q E p s hn h; exact ih _ Q E p s hn h
  | choose src m k ih => intro Q E p s hn h; exact ⟨h.1, ih _ Q E p _ hn h.2⟩
  | os q _ k ih => intro Q E p s hn h; exact ih _ Q E p _ hn h
  | call c hd _ _ k ih => intro Q E p s hn h; obtain ⟨r, s', hr, h⟩ := h; exact ⟨r, s', hr, ih r Q E p s' (Nat.le_trans hn (runs_size hr)) h⟩
  | handled own k ih => intro Q E p s hn h; exact ih _ Q E p s hn h
  | genState g k ih => intro Q E p s hn h; obtain ⟨st, hs, h⟩ := h; exact ⟨st, hs, ih _ Q E p s hn h⟩
  | newGen c k ih => intro Q E p s hn h; exact ih _ Q E p _ hn h
  | resume g r _ k ih => intro Q E p s hn h; obtain ⟨res, s', hw, h⟩ := h; exact ⟨res, s', hw, ih res Q E p s' (Nat.le_trans hn (wakes_size hw)) h⟩
  | yield _ _ _ _ => intro Q E p s _ h; exact h
  | stack k ih => intro Q E p s hn h; exact ih _ Q E p s hn h
  | fork _ _ => intro Q E p s _ h; exact h
  | thread k ih => intro Q E p s hn h; exact ih _ Q E p s hn h
  | await _ _ _ _ _ => intro Q E p s _ h; exact h
theorem wpAny_size {α : Type} {M : Model} {A : Around} {s : Shared} {t : Sem α} {Q : α → Shared → Prop} {E : Value → Shared → Prop} (h : wpAny M A t (fun a s' => s.heap.objs.size ≤ s'.heap.objs.size → Q a s') E s) : wpAny M A t Q E s :=
  fun Γ p hΓ => Sem.wp_mono M Γ t (fun _ _ _ x => x.2 x.1) (fun _ _ _ x => x) p s (wp_size M Γ _ t _ _ p s (Nat.le_refl _) (h Γ p hΓ))
end Mine
end

section
set_option maxRecDepth 100000
namespace Mine
open PySem PySem.W PySem.Calls PyProof.Rows PySem.SeqAt
section
variable {M : Model} {A : Around} {penv : Env} {E : Value → Shared → Prop} {s : Shared}
theorem execs_app (l m : List Stmt) : execs (l ++ m) penv = (do match ← execs l penv with | .next => execs m penv | f => pure f) := by
  induction l with
  | nil => exact (pure_bind _ _).symm
  | cons a l ih =>
    show execs (a :: (l ++ m)) penv = _
    rw [execs_cons, execs_cons, bind_assoc, ih]
    congr 1
    funext f
    cases f <;> first | rfl | exact (pure_bind _ _).symm
theorem If_app {test : Expr} {body orelse rest : List Stmt} {pos : Pos} {Q : Flow → Shared → Prop} (h : wpAny M A (isTrue test penv (PySem.eval test penv)) (fun b s₂ => wpAny M A (execs ((if b then body else orelse) ++ rest) penv) Q E s₂) E s) :
    wpAny M A (execs (.If test body orelse pos :: rest) penv) Q E s := fun Γ p hΓ => by
  rw [execs_cons]
  simp only [exec_If, Sem.wp_bind', Sem.wp_cmd_standAt]
  refine Sem.wp_mono M Γ _ (fun b p₂ s₂ h₂ => ?_) (fun _ _ _ h' => h') _ _ (h Γ _ hΓ)
  have := h₂ Γ p₂ hΓ
  rw [execs_app, Sem.wp_bind'] at this
  cases b <;> exact this
end
noncomputable def app (b : XS) : XS → XS := b.rec (fun _ _ _ c => c) (fun _ _ _ _ _ c => c) fun k s l x _ _ iy c => .b k s l x (iy c)
theorem app_chk {c : XS} {sc : Sc} {m : List Stmt} (hc : chkS c sc m = true) : ∀ (b : XS) (l : List Stmt), rowB b = true → chkS b sc l = true → chkS (app b c) sc (l ++ m) = true := by
  intro b
  induction b with
  | a k i s =>
    intro l h1 h2
    cases eq_of_beq (show (k == 8) = true from h1)
    cases List.isEmpty_iff.mp (show l.isEmpty = true from h2)
    exact hc
  | u => intro l h1; exact absurd h1 Bool.false_ne_true
  | b k s ks x y _ iy =>
    intro l h1 h2
    obtain ⟨h3, h4⟩ := an (show (k == 0 && rowB y) = true from h1)
    cases eq_of_beq h3
    obtain ⟨h5, h6, h7⟩ := an3 (show (!l.isEmpty && (chkS x sc [l.headD dS] && chkS y sc l.tail)) = true from h2)
    cases l with
    | nil => exact absurd h5 Bool.false_ne_true
    | cons a l =>
      show (chkS x sc [a] && chkS (app y c) sc (l ++ m)) = true
      rw [show chkS x sc [a] = true from h6, iy l h4 h7]; rfl
noncomputable def S1 (n : Nat) (s : XS) (env : XEnv) (st : XSt) (env' : XEnv) (st' : XSt) : Prop := ∀ C, COk C → ∀ A φ sh penv sc stm (E : Value → Shared → Prop), Cx C A n φ st sh penv sc env → chkS s sc [stm] = true →
  wpAny (model C.prog C.w) A (PySem.exec stm penv) (fun f s' => f = .next ∧ ∃ φ', Post C φ st sh [penv.locals] φ' st' s' ∧ FRel C φ' st' s'.heap penv env') E sh
section
variable {n : Nat} {env env1 : XEnv} {st st1 st2 st3 st4 : XSt} {e e1 e2 o t : XE} {a b c v w : XVal} {x y : String} {i j : Int} {s ss bd od : XS} {Q Q' : XFlow → XEnv → XSt → Prop}
theorem Bx.mono (h : Bx n ss env st Q) (k : ∀ fl env st, Q fl env st → Q' fl env st) : Bx n ss env st Q' := let ⟨a, b, c, e, q⟩ := h; ⟨a, b, c, e, k _ _ _ q⟩
section
variable {C : XC} {A : Around} {φ φ' : Lay} {sh s' s'' : Shared} {ex : List Addr} {penv : Env} {sc : Sc} {E : Value → Shared → Prop} {fl : XFlow} {f : Flow} {st' st'' : XSt} {env' : XEnv}
theorem Done.via (P : Post C φ st sh ex φ' st' s') (D : Done C φ' st' s' ex penv fl env' st'' f s'') : Done C φ st sh ex penv fl env' st'' f s'' :=
  let ⟨φ2, P2, h1, h2⟩ := D; ⟨φ2, P.trans P2, h1, h2⟩
theorem EOk.inter (K : EOk penv sc) : interactive penv = false := by unfold interactive; rw [K.kind]; rfl
theorem swaps_notComp {e : Expr} (h : notComp e = true) : ∀ (t : Option Expr) (n : Nat), swapsWith e t n penv = pure false :=
  bif_use h (by cases e <;> first | exact trivial | exact fun _ _ => rfl)
theorem row_cons2 {a b : XE} {l : List Stmt} (h : chkS (.cons a b) sc l = true) : ∃ x r, l = x :: r ∧ chkS a sc [x] = true ∧ chkS b sc r = true := by
  obtain ⟨h5, h6, h7⟩ := an3 (show (!l.isEmpty && (chkS a sc [l.headD dS] && chkS b sc l.tail)) = true from h)
  cases l with
  | nil => exact absurd h5 Bool.false_ne_true
  | cons x r => exact ⟨x, r, rfl, h6, h7⟩
theorem asg_inv {t : Stmt} (h : (sTag t 5 && sK t) = true) : ∃ y v p, t = .Assign [y] v p := by
  obtain ⟨h1, h2⟩ := an h
  obtain ⟨l, v, p, rfl⟩ := sinv5 h1
  cases l with
  | nil => exact absurd h2 Bool.false_ne_true
  | cons y l => cases l with
    | nil => exact ⟨y, v, p, rfl⟩
    | cons => exact absurd h2 Bool.false_ne_true
end
theorem G.next (h : S1 n s env st env1 st1) (k : Bx n ss env1 st1 Q) : Bx n (.cons s ss) env st Q := by
  obtain ⟨fl, env', st', k, q⟩ := k
  refine ⟨fl, env', st', fun C X A φ sh penv sc l E c hc => ?_, q⟩
  obtain ⟨x, r, rfl, h1, h2⟩ := row_cons2 hc
  refine wpAny_execs_cons (wpAny_mono (h C X A φ sh penv sc x E c h1) (fun f s' ⟨hf, φ', P, F⟩ => ?_) fun _ _ e => e)
  subst hf
  exact wpAny_mono (k C X A φ' s' penv sc r E ⟨c.room, P.wd, c.ok, F⟩ h2) (fun f s'' D => D.via P) fun _ _ e => e
theorem G.fin (k : Q .next env st) : Bx n .nil env st Q := ⟨_, _, _, fun C X A φ sh penv sc l E c hc => by
  cases List.isEmpty_iff.mp (show l.isEmpty = true from hc)
  exact wpAny_pure ⟨φ, .refl c.wd, .next, c.fr⟩, k⟩
theorem G.ret (h : EV n env st e v st1) (k : Q (.ret v) env st1) : Bx n (.cons (.ret e) ss) env st Q := ⟨_, _, _, fun C X A φ sh penv sc l E c hc => by
  obtain ⟨x, r, rfl, h1, _⟩ := row_cons2 hc
  obtain ⟨h2, h3, h4⟩ := an3 (show (sTag x 3 && (sK x && chk e sc (sE x))) = true from h1)
  obtain ⟨w, p, rfl⟩ := sinv3 h2
  obtain ⟨w, rfl⟩ := Option.isSome_iff_exists.mp (show w.isSome = true from h3)
  exact wpAny_execs_cons (wpAny_Return_some (h.use X c h4 fun φ' s' y P v c' => ⟨φ', P.weak0, .ret v, c'.fr⟩)), k⟩
theorem G.retN (k : Q (.ret .none) env st) : Bx n (.cons .retN ss) env st Q := ⟨_, _, _, fun C X A φ sh penv sc l E c hc => by
  obtain ⟨x, r, rfl, h1, _⟩ := row_cons2 hc
  obtain ⟨h2, h3⟩ := an (show (sTag x 3 && !sK x) = true from h1)
  obtain ⟨w, p, rfl⟩ := sinv3 h2
  cases w with
  | some => exact absurd h3 Bool.false_ne_true
  | none => exact wpAny_execs_cons (wpAny_Return_none ⟨φ, .refl c.wd, .ret .none, c.fr⟩), k⟩
theorem G.ite_ {q : Bool} (h : EV n env st t (.bool q) st1) (k : Bx n (app (bif q then bd else od) ss) env st1 Q) : Bx n (.cons (.ite t bd od) ss) env st Q := by
  obtain ⟨fl, env', st', k, z⟩ := k
  refine ⟨fl, env', st', fun C X A φ sh penv sc l E c hc => ?_, z⟩
  obtain ⟨x, r, rfl, h1, h2⟩ := row_cons2 hc
  obtain ⟨h3, h4, h5, h6, h7, h8⟩ : sTag x 12 = true ∧ rowB bd = true ∧ chkS bd sc (sB x) = true ∧ chk t sc (sE x) = true ∧ rowB od = true ∧ chkS od sc (sO x) = true :=
    let ⟨a, b, c, d⟩ := an4 (show (sTag x 12 && (rowB bd && (chkS bd sc (sB x) && (chk t sc (sE x) && (rowB od && chkS od sc (sO x)))))) = true from h1); ⟨a, b, c, an3 d⟩
  obtain ⟨t', b', o', p, rfl⟩ := sinv12 h3
  refine If_app (h.test X c h6 fun φ' s' P c' => ?_)
  refine wpAny_mono (k C X A φ' s' penv sc _ E c' ?_) (fun f s'' D => D.via P.weak0) fun _ _ e => e
  cases q with
  | true => exact app_chk h2 _ _ h4 h5
  | false => exact app_chk h2 _ _ h7 h8
theorem G.iteT (h : EV n env st t (.bool true) st1) (k : Bx n (app bd ss) env st1 Q) : Bx n (.cons (.ite t bd od) ss) env st Q := G.ite_ h k
theorem G.iteF (h : EV n env st t (.bool false) st1) (k : Bx n (app od ss) env st1 Q) : Bx n (.cons (.ite t bd od) ss) env st Q := G.ite_ h k
theorem G.expr (h : EV n env st e v st1) (k : Bx n ss env st1 Q) : Bx n (.cons (.expr e) ss) env st Q := G.next (fun C X A φ sh penv sc x E c hc => by
  obtain ⟨h1, h2, h3⟩ := an3 (show (sTag x 24 && (chk e sc (sE x) && notComp (sE x))) = true from hc)
  obtain ⟨e', p, rfl⟩ := sinv24 h1
  exact wpAny_Expr_any (h.use X c h2 fun φ' s' y P v c' => ⟨rfl, φ', P.weak0, c'.fr⟩) c.ok.inter (swaps_notComp h3 _ _)) k
theorem G.asg (h : EV n env st e v st1) (k : Bx n ss (upd env x v) st1 Q) : Bx n (.cons (.asg x e) ss) env st Q := G.next (fun C X A φ sh penv sc z E c hc => by
  obtain ⟨h0, h1, h2, h3, h4⟩ := an5 (show (sTag z 5 && (sK z && (nm (sT z) x && (sc1 sc x && (chk e sc (sE z) && notComp (sE z)))))) = true from hc)
  obtain ⟨y', e', p, rfl⟩ := asg_inv ((Bool.and_eq_true _ _).mpr ⟨h0, h1⟩)
  obtain ⟨np, e⟩ := nm_inv h2
  have e : y' = _ := e
  subst e
  exact wpAny_Assign_Name (h.use X c (an h4).1 fun φ' s' y P v c' => store_loc c.ok c'.wd c'.fr (eq_of_beq h3) v fun s2 P2 F2 => ⟨rfl, φ', P.weak0.trans P2, F2⟩) (swaps_notComp (an h4).2 _ _)) k
theorem G.asgA (h : EV n env st e v st1) (h2 : EV n env st1 o a st2) (h3 : setAttrX st2 a x v = some st3) (k : Bx n ss env st3 Q) : Bx n (.cons (.asgA o x e) ss) env st Q := G.next (fun C X A φ sh penv sc z E c hc => by
  obtain ⟨k0, k1, k2, k3, hc⟩ := an5 (show (sTag z 5 && (sK z && (tag (sT z) 20 && (isNm (eStr (sT z)) x && (asL.contains x && (chk o sc (eL (sT z)) && (chk e sc (sE z) && notComp (sE z)))))))) = true from hc)
  obtain ⟨k4, k5, k6, k7⟩ := an4 hc
  obtain ⟨y', e', p, rfl⟩ := asg_inv ((Bool.and_eq_true _ _).mpr ⟨k0, k1⟩)
  obtain ⟨o', a', ap, e⟩ := inv20 k2
  have e : y' = _ := e
  subst e
  cases isNm_eq k3
  exact plainObj_wpAny_Assign_Attribute (h.use X c k6 fun φ' s' y P v c' => h2.use X c' k5 fun φ2 s2 y2 P2 v2 c2 => setAttr_sound c2.wd X k4 h3 v2 (P2.vr0 c'.wd v) fun s3 P3 => ⟨rfl, φ2, (P.trans (P2.trans P3)).weak0, (c2.next P3).fr⟩) (swaps_notComp k7 _ _)) k
theorem two_inv {x y : Expr} {sc : Sc} (h : chk (.cons e1 (.cons e2 .nil)) sc (row [x, y]) = true) : chk e1 sc x = true ∧ chk e2 sc y = true := by
  obtain ⟨_, _, z, _, h1, h⟩ := row_cons h
  cases z
  obtain ⟨_, _, z, _, h2, _⟩ := row_cons h
  cases z
  exact ⟨h1, h2⟩
theorem G.asgS (h : EV n env st e v st1) (h2 : EV n env st1 e1 a st2) (h3 : EV n env st2 e2 b st3) (h4 : setX st3 a b v = some st4) (k : Bx n ss env st4 Q) : Bx n (.cons (.asgS e1 e2 e) ss) env st Q := G.next (fun C X A φ sh penv sc z E c hc => by
  obtain ⟨k0, k1, k2, k3, hc⟩ := an5 (show (sTag z 5 && (sK z && (tag (sT z) 21 && (notSlice (eM (sT z)) && (chk (.cons e1 (.cons e2 .nil)) sc (row [eL (sT z), eM (sT z)]) && (chk e sc (sE z) && notComp (sE z))))))) = true from hc)
  obtain ⟨k4, k5, k6⟩ := an3 hc
  obtain ⟨k4, k7⟩ := two_inv k4
  obtain ⟨y', e', p, rfl⟩ := asg_inv ((Bool.and_eq_true _ _).mpr ⟨k0, k1⟩)
  obtain ⟨o', a', ap, e⟩ := inv21 k2
  have e : y' = _ := e
  subst e
  exact wpAny_Assign_Subscript (h.use X c k5 fun φ' s' y P v c' => h2.use X c' k4 fun φ2 s2 y2 P2 v2 c2 => h3.use X c2 k7 fun φ3 s3 y3 P3 v3 c3 => set_sound c3.wd h4 (P3.vr0 c2.wd v2) v3 (P3.vr0 c2.wd (P2.vr0 c'.wd v)) fun s4 P4 => ⟨rfl, φ3, (P.trans (P2.trans (P3.trans P4))).weak0, (c3.next P4).fr⟩) (swaps_notComp k6 _ _)) k
section
variable {C : XC} {A : Around} {s : Shared} {penv : Env} {E : Value → Shared → Prop}
theorem assign_tuple2 {elts : List Expr} {x1} {pos : Pos} {t : Addr} {items : Array Value} {Q : Unit → Shared → Prop} (hh : A.handled = none) (ht : s.heap.IsTuple t items)
    (hn : (assignEach elts penv).length = items.size) (hstar : (assignEach elts penv).findIdx? (·.1) = none)
    (h : ∀ h', Heap.ExtBut s.heap.objs.size s.heap h' → s.heap.objs.size ≤ h'.objs.size → wpAny (model C.prog C.w) A (assignInOrder ((assignEach elts penv).map (·.2)) items.toList) Q E { s with heap := h' }) :
    wpAny (model C.prog C.w) A (assign (.Tuple elts x1 pos) penv (.ref t)) Q E s := by
  rw [arm_assign_Tuple]
  refine wpAny_bind (wpAny_standAt ?_)
  unfold unpack
  rw [hn, hstar]
  exact wpAny_bind (wpAny_holding (wpAny_size (wpAny_unpackItems_tuple hh ht fun h' he hz => h h' he hz)))
end
theorem names2 {z1 z2 : Expr} {l : List Expr} (h1 : (l.length == 2) = true) (h2 : nm (hdx l) x = true) (h3 : nm (hdx l.tail) y = true) : ∃ p1 p2, l = [.Name (S x) p1, .Name (S y) p2] := by
  match l, h1, h2, h3 with
  | [z1, z2], _, h2, h3 =>
    obtain ⟨p1, e⟩ := nm_inv (x := z1) h2
    obtain ⟨p2, e'⟩ := nm_inv (x := z2) h3
    exact ⟨p1, p2, by rw [e, e']⟩
theorem asgT_inv {sc : Sc} {z : Stmt} (hc : chkS (XS.asgT x y e) sc [z] = true) : ∃ p1 p2 kk tp e' p, z = .Assign [.Tuple [.Name (S x) p1, .Name (S y) p2] kk tp] e' p ∧ sc1 sc x = true ∧ sc1 sc y = true ∧ chk e sc e' = true ∧ (!tag e' 25) = true ∧ notComp e' = true := by
  have hc : (sTag z 5 && (sK z && (tag (sT z) 25 && (nm (hdx (eXs (sT z))) x && (nm (hdx (eXs (sT z)).tail) y && ((eXs (sT z)).length == 2 && (!(x == y) && (sc1 sc x && (sc1 sc y && (chk e sc (sE z) && (!tag (sE z) 25 && notComp (sE z)))))))))))) = true := hc
  have hc1 := (an (an hc).2).2
  obtain ⟨y', e', p, rfl⟩ := asg_inv ((Bool.and_eq_true _ _).mpr ⟨(an hc).1, (an (an hc).2).1⟩)
  clear hc
  obtain ⟨l, kk, tp, e2⟩ := inv25 (e := y') (an hc1).1
  subst e2
  have hc1 : (nm (hdx l) x && (nm (hdx l.tail) y && (l.length == 2 && (!(x == y) && (sc1 sc x && (sc1 sc y && (chk e sc e' && (!tag e' 25 && notComp e')))))))) = true := (an hc1).2
  have h2 := (an (an (an hc1).2).2).2
  obtain ⟨p1, p2, e3⟩ := names2 (z1 := e') (z2 := e') (an (an (an hc1).2).2).1 (an hc1).1 (an (an hc1).2).1
  clear hc1
  subst e3
  exact ⟨p1, p2, kk, tp, e', p, rfl, an5 (an h2).2⟩
theorem G.asgT (h : EV n env st e (.tup [a, b]) st1) (k : Bx n ss (upd (upd env x a) y b) st1 Q) : Bx n (.cons (.asgT x y e) ss) env st Q := G.next (fun C X A φ sh penv sc z E c hc => by
  obtain ⟨p1, p2, kk, tp, e', p, rfl, k7, k8, k9, k10, k11⟩ := asgT_inv (e := e) (x := x) (y := y) hc
  clear hc
  refine PyProof.Rows.Assign_Tuple (h.use X c k9 fun φ' s' v P vr c' => ?_) (by unfold swapsWithSole; exact swaps_notComp k11 _ _) (by unfold swappedStores; exact bif_use k10 (by cases e' <;> first | exact trivial | exact rfl))
  obtain ⟨t, items, n, rfl, ht, hv⟩ := vr.tup_inv
  have hlen : items.size = 2 := hv.length
  refine assign_tuple2 c.room.handled (isT_of ht) (by rw [hlen]; rfl) rfl fun h' he hz => ?_
  obtain ⟨v1, v2, hv0, a1, b1⟩ : ∃ v1 v2, items.toList = [v1, v2] ∧ VR C φ' st1 s'.heap v1 a ∧ VR C φ' st1 s'.heap v2 b := by
    generalize items.toList = l at hv
    cases hv with
    | cons a1 hv => obtain ⟨v2, rfl, b1⟩ := one_inv hv; exact ⟨_, v2, rfl, a1, b1⟩
  rw [hv0]
  obtain ⟨W1, e1⟩ := c'.wd.quiet (h' := h') (ex := [s'.heap.objs.size]) (fun b hb => by cases List.mem_singleton.mp hb; exact ⟨c'.wd.size, fun o ho => absurd (Heap.lt_size ho) (Nat.lt_irrefl _)⟩) (fun b hb => by cases List.mem_singleton.mp hb; exact c'.wd.fresh (Nat.le_refl _)) (fun b o nb hb => he b o (by simpa using nb) hb) hz
  have P1 : Post C φ' st1 s' [] φ' st1 { s' with heap := h' } := ⟨⟨_, _, rfl⟩, W1, e1.drop fun b hb => by cases List.mem_singleton.mp hb; exact .inr (Nat.le_refl _)⟩
  show wpAny _ _ (assignInOrder [assign (.Name (S x) p1) penv, assign (.Name (S y) p2) penv] [v1, v2]) _ _ _
  refine wpAny_bind (wpAny_holding (wpAny_assign_Name (store_loc c.ok P1.wd (P1.fr c'.wd c'.fr) (eq_of_beq k7) (P1.vr0 c'.wd a1) fun s2 P2 F2 => ?_)))
  refine wpAny_bind (wpAny_holding (wpAny_assign_Name (store_loc c.ok P2.wd F2 (eq_of_beq k8) (P2.vr P1.wd (P1.fr c'.wd c'.fr).exOk (P1.vr0 c'.wd b1)) fun s3 P3 F3 => ?_)))
  exact wpAny_pure ⟨rfl, φ', (P.trans P1).weak0.trans (P2.trans P3), F3⟩) k
theorem sub_get {C : XC} {φ : Lay} {A : Around} {s : Shared} {E : Value → Shared → Prop} (W : Wd C φ st s.heap) {x y : Value} {Q : Value → Shared → Prop} (e : subX st a b = some v) (ha : VR C φ st s.heap x a) (hb : VR C φ st s.heap y b) (h : ∀ y t, VR C φ st s.heap y v → Q y { s with toks := t }) : wpAny (model C.prog C.w) A (getItem x y) Q E s :=
  let ⟨_, _, _, _, g⟩ := sub_sound W e ha hb h; g
noncomputable def augI (op : XBin) (i j : Int) : Int := bif op == 0 then i + j else i - j
theorem aug_sound {C : XC} {φ : Lay} {h : Heap} {s : Shared} {A : Around} {E : Value → Shared → Prop} {op : XBin} (hop : op = 0 ∨ op = 1) {y z : Value} {Q : Value → Shared → Prop} (ha : VR C φ st h y (.int i)) (hb : VR C φ st2 h z (.int j))
    (k : ∀ u, Q (.int (augI op i j) u) { s with toks := s.toks + 1 }) : wpAny (model C.prog C.w) A (inplaceOp (binOf op) y z) Q E s := by
  obtain ⟨t, rfl⟩ := ha.int_inv; obtain ⟨u, rfl⟩ := hb.int_inv
  rcases hop with rfl | rfl
  · exact PyProof.Rows.iadd_int (k _)
  · exact PyProof.Rows.isub_int (k _)
theorem G.aug {op : XBin} (hop : op = 0 ∨ op = 1) (h0 : env x = some (.int i)) (h : EV n env st e (.int j) st1) (k : Bx n ss (upd env x (.int (augI op i j))) st1 Q) : Bx n (.cons (.aug x op e) ss) env st Q := G.next (fun C X A φ sh penv sc z E c hc => by
  have hc : (sTag z 7 && (sAo z (binOf op) && (nm (sT z) x && (sc1 sc x && chk e sc (sE z))))) = true := by rcases hop with rfl | rfl <;> exact hc
  obtain ⟨k0, k1, k2, k3, k4⟩ := an5 hc
  obtain ⟨t', o', e', p, rfl⟩ := sinv7 k0
  obtain ⟨np, e⟩ := nm_inv k2
  have e : t' = _ := e
  subst e
  cases eq_of_beq (show (o' == _) = true from k1)
  have hk : penv.kindOf (S x) = some .local := by unfold Env.kindOf; rw [c.ok.names]; exact eq_of_beq k3
  obtain ⟨m, hn, hm⟩ := c.fr.ns
  obtain ⟨y, hy1, hy2⟩ := hm x _ h0 hk
  refine wpAny_AugAssign_Name (wpAny_loadName_local c.ok.kind hk hn hy1 (h.use X c k4 fun φ' s' w P vr c' => aug_sound hop (P.vr0 c.wd hy2) vr fun u => ?_))
  have pt : Post C φ' st1 s' [] φ' st1 { s' with toks := s'.toks + 1 } := .toks c'.wd _
  exact store_loc c.ok pt.wd (pt.fr c'.wd c'.fr) (eq_of_beq k3) (.int _ u) fun s2 P2 F2 => ⟨rfl, φ', (P.trans pt).weak0.trans P2, F2⟩) k
theorem augS_inv {op : XBin} {sc : Sc} {z : Stmt} (hc : (sTag z 7 && (sAo z (binOf op) && (tag (sT z) 21 && (notSlice (eM (sT z)) && (chk (.cons e1 (.cons e2 .nil)) sc (row [eL (sT z), eM (sT z)]) && chk e sc (sE z)))))) = true) :
    ∃ o i ap e' p, z = .AugAssign (.Subscript o i ap) (binOf op) e' p ∧ notSlice i = true ∧ chk e1 sc o = true ∧ chk e2 sc i = true ∧ chk e sc e' = true := by
  have h2 := (an (an hc).2).2
  obtain ⟨t', o', e', p, rfl⟩ := sinv7 (an hc).1
  have h1 := eq_of_beq (show (o' == _) = true from (an (an hc).2).1)
  clear hc
  subst h1
  obtain ⟨o, i, ap, e3⟩ := inv21 (e := t') (an h2).1
  subst e3
  have h3 := (an (an h2).2).2
  exact ⟨o, i, ap, e', p, rfl, (an (an h2).2).1, (two_inv (an h3).1).1, (two_inv (an h3).1).2, (an h3).2⟩
theorem augSt {i2 : Expr} (h : notSlice i2 = true) : ∀ ov iv new, augStore i2 ov iv new = (do holding [new, ov, iv] (setItem ov iv new); release [new, ov, iv] []; pure Flow.next) :=
  bif_use h (by cases i2 <;> first | exact trivial | exact fun _ _ _ => rfl)
theorem G.augS {op : XBin} (hop : op = 0 ∨ op = 1) (h : EV n env st e1 a st1) (h2 : EV n env st1 e2 b st2) (h3 : subX st2 a b = some (.int i)) (h4 : EV n env st2 e (.int j) st3) (h6 : setX st3 a b (.int (augI op i j)) = some st4) (k : Bx n ss env st4 Q) : Bx n (.cons (.augS e1 e2 op e) ss) env st Q := G.next (fun C X A φ sh penv sc z E c hc => by
  have hc : (sTag z 7 && (sAo z (binOf op) && (tag (sT z) 21 && (notSlice (eM (sT z)) && (chk (.cons e1 (.cons e2 .nil)) sc (row [eL (sT z), eM (sT z)]) && chk e sc (sE z)))))) = true := by rcases hop with rfl | rfl <;> exact hc
  obtain ⟨o2, i2, ap, e', p, rfl, k3, k4, k6, k5⟩ := augS_inv (e := e) (e1 := e1) (e2 := e2) hc
  clear hc
  refine wpAny_AugAssign_SubscriptAny (h.use X c k4 fun φ1 s1 y1 P1 v1 c1 => h2.use X c1 k6 fun φ2 s2 y2 P2 v2 c2 => ?_) (bif_use (show notSlice i2 = true from k3) (by cases i2 <;> first | exact trivial | exact fun _ _ _ => rfl))
  refine sub_get c2.wd h3 (P2.vr0 c1.wd v1) v2 fun y3 t v3 => ?_
  have pt : Post C φ2 st2 s2 [] φ2 st2 { s2 with toks := t } := .toks c2.wd _
  have ct := c2.next pt
  refine h4.use X ct k5 fun φ4 s4 y4 P4 v4 c4 => aug_sound hop (P4.vr0 ct.wd v3) v4 fun u => ?_
  have pt4 : Post C φ4 st3 s4 [] φ4 st3 { s4 with toks := s4.toks + 1 } := .toks c4.wd _
  exact set_sound pt4.wd h6 (P4.vr0 ct.wd (P2.vr0 c1.wd v1)) (P4.vr0 ct.wd v2) (.int _ u) fun s6 P6 => ⟨rfl, φ4, (P1.trans (P2.trans (pt.trans (P4.trans (pt4.trans P6))))).weak0, ((c4.next pt4).next P6).fr⟩) k
end
end Mine
end

section
set_option maxRecDepth 100000
namespace Mine
open PySem PySem.W PySem.Calls PyProof.Rows PySem.SeqAt
section
variable {prog : Program} {w : World} {A : Around} {R : Result → Shared → Prop} {s : Shared}
theorem while_turn {test : Expr} {body orelse : List Stmt} {env : Env} (h : wpAny (model prog w) A (isTrue test env (PySem.eval test env)) (fun b s₂ =>
        if b then wpAny (model prog w) A (PySem.execs body env) (fun f s₃ => match f with
            | .next | .cont => codeAny (model prog w) A (.whileLoop test body orelse env) R s₃
            | .brk => R (.ok .next) s₃
            | .ret v => R (.ok (.ret v)) s₃) (notedBy (model prog w) A env fun e s' => R (.error e) s') s₂
        else wpAny (model prog w) A (PySem.execs orelse env) (fun f s₃ => R (.ok f) s₃) (notedBy (model prog w) A env fun e s' => R (.error e) s') s₂)
        (notedBy (model prog w) A env fun e s' => R (.error e) s') s) : codeAny (model prog w) A (.whileLoop test body orelse env) R s := by
  refine codeAny_of_tree ?_
  show wpAny _ A ((whileTurn test body orelse env).onRaise (fun x => do noteFrame x env; theTreesLotGoes x)) _ _ s
  refine wpAny_noted ?_
  simp only [whileTurn]
  refine wpAny_bind (wpAny_mono h (fun b s₂ h₂ => ?_) fun _ _ h' => h')
  cases b with
  | false =>
    simp only [Bool.false_eq_true, if_false] at h₂ ⊢
    exact wpAny_bind (wpAny_mono h₂ (fun f s₃ h₃ => wpAny_pure h₃) fun _ _ h' => h')
  | true =>
    simp only [if_true] at h₂ ⊢
    refine wpAny_bind (wpAny_mono h₂ (fun f s₃ h₃ => ?_) fun _ _ h' => h')
    cases f with
    | next => exact wpAny_pure ⟨rfl, h₃⟩
    | cont => exact wpAny_pure ⟨rfl, h₃⟩
    | brk => exact wpAny_pure h₃
    | ret v => exact wpAny_pure h₃
theorem for_turn {target : Expr} {it : Value} {body orelse : List Stmt} {env : Env} (h : wpAny (model prog w) A (pyNext it) (fun r s₁ => match r with
      | none => wpAny (model prog w) A (PySem.execs orelse env) (fun f s₃ => R (.ok f) s₃) (notedBy (model prog w) A env fun e s' => R (.error e) s') s₁
      | some v => wpAny (model prog w) A (assign target env v) (fun _ s₂ => wpAny (model prog w) A (PySem.execs body env) (fun f s₃ => match f with
          | .next | .cont => codeAny (model prog w) A (.forLoop target it body orelse env) R s₃
          | .brk => R (.ok .next) s₃
          | .ret v => R (.ok (.ret v)) s₃) (notedBy (model prog w) A env fun e s' => R (.error e) s') s₂) (notedBy (model prog w) A env fun e s' => R (.error e) s') s₁) (notedBy (model prog w) A env fun e s' => R (.error e) s') s)
    (ht : ∀ v, letOwnedTupleGo target it v = pure () := by intro _; rfl) : codeAny (model prog w) A (.forLoop target it body orelse env) R s := by
  refine codeAny_of_tree ?_
  show wpAny _ A ((forTurn target it body orelse env).onRaise (fun x => do noteFrame x env; theTreesLotGoes x)) _ _ s
  refine wpAny_noted ?_
  simp only [forTurn]
  refine wpAny_bind (wpAny_standAt (wpAny_bind (wpAny_onRaise (wpAny_mono h (fun r s₁ h₁ => ?_) fun _ _ h' => wpAny_standAt h'))))
  cases r with
  | none => exact wpAny_pure ⟨rfl, codeAny_block h₁⟩
  | some v =>
    refine wpAny_bind (wpAny_of_eq (ht v) ?_)
    refine wpAny_bind (wpAny_mono h₁ (fun _ s₂ h₂ => wpAny_bind (wpAny_mono h₂ (fun f s₃ h₃ => ?_) fun _ _ h' => h')) fun _ _ h' => h')
    cases f with
    | next => exact wpAny_pure ⟨rfl, h₃⟩
    | cont => exact wpAny_pure ⟨rfl, h₃⟩
    | brk => exact wpAny_pure h₃
    | ret v => exact wpAny_pure h₃
end
noncomputable def Aft (N : XEnv → XSt → Prop) (Q : XFlow → XEnv → XSt → Prop) (fl : XFlow) (env : XEnv) (st : XSt) : Prop := fl.casesOn (N env st) fun v => Q (.ret v) env st
section
variable {C : XC} {A : Around} {φ φ' : Lay} {st st' st'' : XSt} {s s' s'' : Shared} {penv : Env} {sc : Sc} {E : Value → Shared → Prop} {fl : XFlow} {f : Flow} {env env' : XEnv} {n : Nat}
theorem Post.one (W : Wd C φ st s.heap) {b : Addr} {o : Obj} (hb : s.heap.get? b = some o) (h1 : o.cls ≠ .type "tuple" ∨ ∀ items n, o.data ≠ .seq items n) (h2 : ∀ v, o.data ≠ .cell v) (hl : C.h₀.objs.size ≤ b) (hn : ¬ Own φ st b)
    (hs : ∃ h t, s' = { s with heap := h, toks := t }) (hk : ∀ a o, a ≠ b → s.heap.get? a = some o → s'.heap.get? a = some o) (hz : s.heap.objs.size ≤ s'.heap.objs.size) : ExOk C s.heap [b] ∧ Post C φ st s [b] φ st s' := by
  have X : ExOk C s.heap [b] := by
    intro c hc
    cases List.mem_singleton.mp hc
    exact ⟨hl, fun o' ho => by rw [hb] at ho; cases ho; exact ⟨h1, h2⟩⟩
  obtain ⟨W', e⟩ := W.quiet X (fun c hc => by cases List.mem_singleton.mp hc; exact hn) (fun c o nc ho => hk c o (by simpa using nc) ho) hz
  exact ⟨X, hs, W', e⟩
theorem Done.fresh {it : Addr} (h : s.heap.objs.size ≤ it) (P : Post C φ st s [] φ st s') (D : Done C φ st s' [penv.locals, it] penv fl env' st' f s'') : Done C φ st s [penv.locals] penv fl env' st' f s'' := by
  obtain ⟨φ2, P2, h1, h2⟩ := D
  have P3 := P.weak0.trans P2
  refine ⟨φ2, ⟨P3.same, P3.wd, P3.ev.drop fun b hb => ?_⟩, h1, h2⟩
  rcases List.mem_cons.mp hb with e | e
  · exact .inl (e ▸ .head _)
  · cases List.mem_singleton.mp e; exact .inr h
theorem locals_lt {h : Heap} (F : FRel C φ st h penv env) : penv.locals < h.objs.size := by
  obtain ⟨m, hn, _⟩ := F.ns
  obtain ⟨o, es, ep, ho, _⟩ := ns_obj hn
  exact Heap.lt_size ho
end
noncomputable def WX (n : Nat) (t : XE) (bd : XS) (env : XEnv) (st : XSt) (fl : XFlow) (env' : XEnv) (st' : XSt) : Prop := ∀ C, COk C → ∀ A φ s penv sc test body, Cx C A n φ st s penv sc env → chk t sc test = true → chkS bd sc body = true →
  codeAny (model C.prog C.w) A (.whileLoop test body [] penv) (fun q s' => ∃ f, q = .ok f ∧ Done C φ st s [penv.locals] penv fl env' st' f s') s
noncomputable def Bw (n : Nat) (t : XE) (bd : XS) (env : XEnv) (st : XSt) (Q : XFlow → XEnv → XSt → Prop) : Prop := ∃ fl env' st', WX n t bd env st fl env' st' ∧ Q fl env' st'
noncomputable abbrev ItP := XC → Lay → XSt → Heap → Addr → Prop
noncomputable def IL (q i k : Nat) : ItP := fun _ φ st h it => h.IsListIter it (φ.a q i) k ∧ i < (st q).length
noncomputable def IR (cur : Int) (m : Nat) : ItP := fun _ _ _ h it => IsRangeIter h it cur m 1
noncomputable def FX (n : Nat) (x : String) (z : ItP) (bd : XS) (env : XEnv) (st : XSt) (fl : XFlow) (env' : XEnv) (st' : XSt) : Prop := ∀ C, COk C → ∀ A φ s penv sc body it pos, Cx C A n φ st s penv sc env → sc1 sc x = true → chkS bd sc body = true → z C φ st s.heap it → it ≠ penv.locals → ¬ Own φ st it → C.h₀.objs.size ≤ it →
  codeAny (model C.prog C.w) A (.forLoop (.Name (S x) pos) (.ref it) body [] penv) (fun q s' => ∃ f, q = .ok f ∧ Done C φ st s [penv.locals, it] penv fl env' st' f s') s
noncomputable def Bf (n : Nat) (x : String) (z : ItP) (bd : XS) (env : XEnv) (st : XSt) (Q : XFlow → XEnv → XSt → Prop) : Prop := ∃ fl env' st', FX n x z bd env st fl env' st' ∧ Q fl env' st'
section
variable {n m : Nat} {env env1 : XEnv} {st st1 st2 st3 st4 : XSt} {e e1 e2 o t : XE} {a b c v w : XVal} {x y : String} {i j cur : Int} {s ss bd od : XS} {Q Q' : XFlow → XEnv → XSt → Prop} {q k l : Nat} {xs : List XVal} {z z' : ItP}
theorem W.stop (h : EV n env st t (.bool false) st1) (k : Q .next env st1) : Bw n t bd env st Q := ⟨_, _, _, fun C X A φ s penv sc test body c h1 h2 => while_turn (h.test X c h1 fun φ1 s1 P c1 => wpAny_pure ⟨_, rfl, φ1, P.weak0, .next, c1.fr⟩), k⟩
theorem W.turn (h : EV n env st t (.bool true) st1) (k : Bx n bd env st1 (Aft (fun env' st' => Bw n t bd env' st' Q) Q)) : Bw n t bd env st Q := by
  obtain ⟨fl, env1, st2, k, q⟩ := k
  cases fl with
  | next =>
    obtain ⟨fl, env2, st3, k2, q⟩ := q
    refine ⟨fl, env2, st3, fun C X A φ s penv sc test body c h1 h2 => while_turn (h.test X c h1 fun φ1 s1 P c1 => ?_), q⟩
    refine wpAny_mono (k C X A φ1 s1 penv sc body _ c1 h2) (fun f s2 ⟨φ2, P2, fr, F2⟩ => ?_) fun _ _ e => e
    cases fr
    exact codeAny_mono (k2 C X A φ2 s2 penv sc test body ⟨c.room, P2.wd, c.ok, F2⟩ h1 h2) fun q s' ⟨f', hq, D⟩ => ⟨f', hq, D.via (P.weak0.trans P2)⟩
  | ret v =>
    refine ⟨_, _, _, fun C X A φ s penv sc test body c h1 h2 => while_turn (h.test X c h1 fun φ1 s1 P c1 => ?_), q⟩
    refine wpAny_mono (k C X A φ1 s1 penv sc body _ c1 h2) (fun f s2 ⟨φ2, P2, fr, F2⟩ => ?_) fun _ _ e => e
    cases fr with
    | ret hv => exact ⟨_, rfl, φ2, P.weak0.trans P2, .ret hv, F2⟩
theorem G.of {s : XS} (h : ∃ fl env1 st1, (∀ C, COk C → ∀ A φ sh penv sc stm (E : Value → Shared → Prop), Cx C A n φ st sh penv sc env → chkS s sc [stm] = true → wpAny (model C.prog C.w) A (PySem.exec stm penv) (fun f s' => Done C φ st sh [penv.locals] penv fl env1 st1 f s') E sh) ∧ Aft (fun env' st' => Bx n ss env' st' Q) Q fl env1 st1) : Bx n (.cons s ss) env st Q := by
  obtain ⟨fl, env1, st1, h, k⟩ := h
  cases fl with
  | next =>
    obtain ⟨fl, env', st', k, q⟩ := k
    refine ⟨fl, env', st', fun C X A φ sh penv sc l E c hc => ?_, q⟩
    obtain ⟨x, r, rfl, h1, h2⟩ := row_cons2 hc
    refine wpAny_execs_cons (wpAny_mono (h C X A φ sh penv sc x E c h1) (fun f s' ⟨φ', P, fr, F⟩ => ?_) fun _ _ e => e)
    cases fr
    exact wpAny_mono (k C X A φ' s' penv sc r E ⟨c.room, P.wd, c.ok, F⟩ h2) (fun f s'' D => D.via P) fun _ _ e => e
  | ret v =>
    refine ⟨_, _, _, fun C X A φ sh penv sc l E c hc => ?_, k⟩
    obtain ⟨x, r, rfl, h1, h2⟩ := row_cons2 hc
    refine wpAny_execs_cons (wpAny_mono (h C X A φ sh penv sc x E c h1) (fun f s' ⟨φ', P, fr, F⟩ => ?_) fun _ _ e => e)
    cases fr with
    | ret hv => exact ⟨φ', P, .ret hv, F⟩
theorem G.whl (k : Bw n t bd env st (Aft (fun env' st' => Bx n ss env' st' Q) Q)) : Bx n (.cons (.whl t bd) ss) env st Q := by
  obtain ⟨fl, env1, st1, h, k⟩ := k
  refine G.of ⟨fl, env1, st1, fun C X A φ sh penv sc z E c hc => ?_, k⟩
  obtain ⟨h1, h2, h3, h4⟩ := an4 (show (sTag z 11 && ((sO z).isEmpty && (chk t sc (sE z) && chkS bd sc (sB z)))) = true from hc)
  obtain ⟨t', b', o', p, rfl⟩ := sinv11 h1
  cases List.isEmpty_iff.mp (show o'.isEmpty = true from h2)
  refine wpAny_While (codeAny_mono (h C X A φ sh penv sc _ _ c h3 h4) fun q s' ⟨f, hq, D⟩ => ?_)
  subst hq
  exact D
section
variable {C : XC} {A : Around} {φ φ' : Lay} {sh s1 s' s'' : Shared} {penv : Env} {sc : Sc} {E : Value → Shared → Prop} {it : Addr} {y : Value} {pos : Pos} {o1 : Obj} {body : List Stmt}
theorem for_go (X : COk C) (c : Cx C A n φ st sh penv sc env) (hx : sc1 sc x = true) (hb : chkS bd sc body = true) (P1 : Post C φ st sh [it] φ st s1) (X1 : ExOk C sh.heap [it]) (hy : VR C φ st s1.heap y v) (h1 : s1.heap.get? it = some o1) (hne : it ≠ penv.locals) (no : ¬ Own φ st it) {fl : XFlow} (k : XX n bd (upd env x v) st fl env1 st1) {R : Flow → Shared → Prop}
    (hR : ∀ φ3 s3 f, Post C φ st sh [penv.locals, it] φ3 st1 s3 → FlowR C φ3 st1 s3.heap f fl → FRel C φ3 st1 s3.heap penv env1 → s3.heap.get? it = some o1 → ¬ Own φ3 st1 it → Ev φ st s1.heap φ3 st1 s3.heap [penv.locals] → R f s3) :
    wpAny (model C.prog C.w) A (assign (.Name (S x) pos) penv y) (fun _ s2 => wpAny (model C.prog C.w) A (PySem.execs body penv) R E s2) E s1 := by
  have hne' : it ∉ [penv.locals] := fun z => hne (List.mem_singleton.mp z)
  have F1 := c.fr.mono c.wd X1 P1.ev (fun z => hne (List.mem_singleton.mp z).symm)
  refine wpAny_assign_Name (store_loc c.ok P1.wd F1 (eq_of_beq hx) hy fun s2 P2 F2 => ?_)
  have h2 := P2.ev.keep _ _ hne' no h1
  have no2 := P2.ev.own h1 no
  refine wpAny_mono (k C X A φ s2 penv sc body E ⟨c.room, P2.wd, c.ok, F2⟩ hb) (fun f s3 ⟨φ3, P3, fr, F3⟩ => ?_) fun _ _ e => e
  refine hR φ3 s3 f ((P1.weaken fun b hb => .tail _ hb).trans ((P2.weaken fun b hb => ?_).trans (P3.weaken fun b hb => ?_))) fr F3 (P3.ev.keep _ _ hne' no2 h2) (P3.ev.own h2 no2) (P2.ev.trans P3.ev) <;> (cases List.mem_singleton.mp hb; exact .head _)
end
noncomputable def Item (z : ItP) (st : XSt) (v : XVal) (z' : ItP) : Prop := ∀ C A φ (s : Shared) (E : Value → Shared → Prop) it (Q : Option Value → Shared → Prop), A.handled = none → Wd C φ st s.heap → z C φ st s.heap it → C.h₀.objs.size ≤ it → ¬ Own φ st it →
  (∀ y s1 o1, ExOk C s.heap [it] → Post C φ st s [it] φ st s1 → VR C φ st s1.heap y v → s1.heap.get? it = some o1 → (∀ φ' st' h' ex, Ev φ st s1.heap φ' st' h' ex → h'.get? it = some o1 → z' C φ' st' h' it) → Q (some y) s1) → wpAny (model C.prog C.w) A (pyNext (.ref it)) Q E s
noncomputable def End (z : ItP) (st : XSt) : Prop := ∀ C A φ (s : Shared) (E : Value → Shared → Prop) it (Q : Option Value → Shared → Prop), A.handled = none → Wd C φ st s.heap → z C φ st s.heap it → C.h₀.objs.size ≤ it → ¬ Own φ st it →
  (∀ s1, ExOk C s.heap [it] → Post C φ st s [it] φ st s1 → Q none s1) → wpAny (model C.prog C.w) A (pyNext (.ref it)) Q E s
theorem F.stop (h : End z st) (g : Q .next env st) : Bf n x z bd env st Q := ⟨_, _, _, fun C X A φ s penv sc body it pos c hx hb hit hne no hl => for_turn (h C A φ s _ it _ c.room.handled c.wd hit hl no fun s1 X1 P1 =>
  wpAny_pure ⟨_, rfl, φ, P1.weaken (fun b hb => .tail _ hb), .next, c.fr.mono c.wd X1 P1.ev (fun z => hne (List.mem_singleton.mp z).symm)⟩), g⟩
theorem F.turn (h : Item z st v z') (g : Bx n bd (upd env x v) st (Aft (fun env' st' => Bf n x z' bd env' st' Q) Q)) : Bf n x z bd env st Q := by
  obtain ⟨fl, env1, st1, g, k⟩ := g
  cases fl with
  | next =>
    obtain ⟨fl, env2, st2, k2, q⟩ := k
    refine ⟨fl, env2, st2, fun C X A φ s penv sc body it pos c hx hb hit hne no hl => for_turn (h C A φ s _ it _ c.room.handled c.wd hit hl no fun y s1 o1 X1 P1 hy h1 hz => ?_), q⟩
    refine for_go X c hx hb P1 X1 hy h1 hne no g fun φ3 s3 f P3 fr F3 h3 no3 e3 => ?_
    cases fr
    exact codeAny_mono (k2 C X A φ3 s3 penv sc body it pos ⟨c.room, P3.wd, c.ok, F3⟩ hx hb (hz _ _ _ _ e3 h3) hne no3 hl) fun q s' ⟨f', hq, D⟩ => ⟨f', hq, D.via P3⟩
  | ret v =>
    refine ⟨_, _, _, fun C X A φ s penv sc body it pos c hx hb hit hne no hl => for_turn (h C A φ s _ it _ c.room.handled c.wd hit hl no fun y s1 o1 X1 P1 hy h1 hz => ?_), k⟩
    refine for_go X c hx hb P1 X1 hy h1 hne no g fun φ3 s3 f P3 fr F3 h3 no3 e3 => ?_
    cases fr with
    | ret hv => exact ⟨_, rfl, φ3, P3, .ret hv, F3⟩
theorem list_obj {h : Heap} {it l : Addr} {k : Nat} (z : h.IsListIter it l k) : ∃ o, h.get? it = some o ∧ o.cls ≠ .type "tuple" ∧ ∀ v, o.data ≠ .cell v := by
  obtain ⟨o, ho, q1, q2⟩ := z
  exact ⟨o, ho, by rw [q1]; simp, fun v => by rw [q2]; simp⟩
theorem L.item (h : getL st q l = some xs) (hk : xs[k]? = some v) : Item (IL q l k) st v (IL q l (k + 1)) := fun C A φ s E it Q hh W hit hl no kk => by
  obtain ⟨hit, hi⟩ : s.heap.IsListIter it (φ.a q l) k ∧ l < (st q).length := hit
  obtain ⟨o, ho, h1, h2⟩ := list_obj hit
  obtain ⟨items, m, hl', hs, hn, len⟩ := W.list (getL_some h)
  obtain ⟨y, h4, h5⟩ := hs.get hk
  refine wpAny_pyNext_list_item hit (isL_of hl') (x := y) (by simpa using h4) fun h' a b => ?_
  obtain ⟨X1, P1⟩ := Post.one (s' := { s with heap := h' }) W ho (.inl h1) h2 hl no ⟨_, _, rfl⟩ (fun c o ne ho => (b.2 c ne).trans ho) (Nat.le_of_eq b.1.symm)
  obtain ⟨o1, ho1, q1⟩ := a
  exact kk y _ o1 X1 P1 (P1.vr W X1 h5) ho1 fun φ' st' h'' ex e he => ⟨⟨o1, he, by rw [show φ'.a q l = φ.a q l from e.ext (q, l, false) hi]; exact q1⟩, e.live (q, l, false) hi⟩
theorem L.end (h : getL st q l = some xs) (hk : xs[k]? = none) : End (IL q l k) st := fun C A φ s E it Q hh W hit hl no kk => by
  obtain ⟨hit, hi⟩ : s.heap.IsListIter it (φ.a q l) k ∧ l < (st q).length := hit
  obtain ⟨o, ho, h1, h2⟩ := list_obj hit
  obtain ⟨items, m, hl', hs, hn, len⟩ := W.list (getL_some h)
  refine wpAny_size (wpAny_pyNext_list_end hh hit (isL_of hl') (Array.getElem?_eq_none (by rw [len]; exact List.getElem?_eq_none_iff.mp hk)) fun h' e hz => ?_)
  obtain ⟨X1, P1⟩ := Post.one (s' := { s with heap := h' }) W ho (.inl h1) h2 hl no ⟨_, _, rfl⟩ (fun b o nb hb => e b o nb hb) hz
  exact kk _ X1 P1
theorem N.item : Item (IR cur (m + 1)) st (.int cur) (IR (cur + 1) m) := fun C A φ s E it Q hh W hit hl no kk => by
  have hit : IsRangeIter s.heap it cur ((m + 1 : Nat) : Int) 1 := hit
  refine wpAny_pyNext_range_item hit (by omega) fun h' hit1 hs => ?_
  obtain ⟨X1, P1⟩ := Post.one (s' := { s with heap := h', toks := s.toks + 1 }) W hit (.inl (by simp)) (fun v => by simp) hl no ⟨_, _, rfl⟩ (fun b o nb hb => (hs.2 b nb).trans hb) (Nat.le_of_eq hs.1.symm)
  refine kk _ _ _ X1 P1 (.int cur s.toks) hit1 fun φ' st' h'' ex e he => ?_
  have z : ((m + 1 : Nat) : Int) - 1 = (m : Int) := by omega
  rw [z] at he; exact he
theorem N.end : End (IR cur 0) st := fun C A φ s E it Q hh W hit hl no kk => by
  have hit : IsRangeIter s.heap it cur ((0 : Nat) : Int) 1 := hit
  refine wpAny_size (wpAny_pyNext_range_end hh hit (by simp) fun h' hkeep hz => ?_)
  obtain ⟨X1, P1⟩ := Post.one (s' := { s with heap := h' }) W hit (.inl (by simp)) (fun v => by simp) hl no ⟨_, _, rfl⟩ (fun b o nb hb => hkeep b o nb hb) hz
  exact kk _ X1 P1
theorem L.stop (h : getL st q l = some xs) (hk : xs[k]? = none) (g : Q .next env st) : Bf n x (IL q l k) bd env st Q := F.stop (L.end h hk) g
theorem L.turn (h : getL st q l = some xs) (hk : xs[k]? = some v) (g : Bx n bd (upd env x v) st (Aft (fun env' st' => Bf n x (IL q l (k + 1)) bd env' st' Q) Q)) : Bf n x (IL q l k) bd env st Q := F.turn (L.item h hk) g
theorem N.stop (g : Q .next env st) : Bf n x (IR cur 0) bd env st Q := F.stop N.end g
theorem N.turn (g : Bx n bd (upd env x (.int cur)) st (Aft (fun env' st' => Bf n x (IR (cur + 1) m) bd env' st' Q) Q)) : Bf n x (IR cur (m + 1)) bd env st Q := F.turn N.item g
theorem notSet_eq {iter : Expr} (h : notSet iter = true) {penv : Env} : ∀ x, foldedSetIterable iter penv x = pure x :=
  bif_use h (by cases iter <;> first | exact trivial | exact fun _ => rfl)
theorem for_inv {sc : Sc} {z : Stmt} {p : Bool} (h : (sTag z 9 && ((sO z).isEmpty && (nm (sT z) x && (sc1 sc x && p)))) = true) : ∃ np it bd fp, z = .For (.Name (S x) np) it bd [] fp ∧ sc1 sc x = true ∧ p = true := by
  obtain ⟨h1, h2, h3, h4, h5⟩ := an5 h
  obtain ⟨t, it, b', o', p, rfl⟩ := sinv9 h1
  cases List.isEmpty_iff.mp (show o'.isEmpty = true from h2)
  obtain ⟨np, e⟩ := nm_inv h3
  have e : t = _ := e
  subst e
  exact ⟨np, it, b', p, rfl, h4, h5⟩
theorem G.forL (h : EV n env st e (.ref q l) st1) (h2 : getL st1 q l = some xs) (k : Bf n x (IL q l 0) bd env st1 (Aft (fun env' st' => Bx n ss env' st' Q) Q)) : Bx n (.cons (.forL x e bd) ss) env st Q := by
  obtain ⟨fl, env1, st1, hk, k⟩ := k
  refine G.of ⟨fl, env1, st1, fun C X A φ sh penv sc z E c hc => ?_, k⟩
  have hc : (sTag z 9 && ((sO z).isEmpty && (nm (sT z) x && (sc1 sc x && (chk e sc (sE z) && (notSet (sE z) && chkS bd sc (sB z))))))) = true := hc
  obtain ⟨np, it, b', fp, rfl, n2, hc⟩ := for_inv hc
  obtain ⟨n3, n4, n5⟩ := an3 hc
  refine wpAny_For (h.use X c n3 fun φ1 s1 y P1 v1 c1 => ?_) (notSet_eq n4)
  obtain ⟨rfl, hi⟩ := v1.ref_inv
  obtain ⟨items, n, hl, hs, hn, _⟩ := c1.wd.list (getL_some h2)
  refine wpAny_pyIter_list (isL_of hl) ?_
  have Pp := Post.push c1.wd { cls := .type "list_iterator", data := .fields #[.ref (φ1.a q l), .int 0 0] }
  refine codeAny_mono (hk C X A φ1 _ penv sc _ s1.heap.objs.size _ (c1.next Pp) n2 n5 ⟨⟨_, Heap.get?_push_size _ rfl, rfl, rfl⟩, hi⟩ (Ne.symm (Nat.ne_of_lt (locals_lt c1.fr))) (c1.wd.fresh (Nat.le_refl _)) c1.wd.size) fun q' s' ⟨f, hq, D⟩ => ?_
  subst hq
  exact (D.fresh (Nat.le_refl _) Pp).via P1.weak0
theorem range_loop {C : XC} {A : Around} {φ : Lay} {sh : Shared} {penv : Env} {sc : Sc} {E : Value → Shared → Prop} {fl : XFlow} (X : COk C) (c : Cx C A n φ st sh penv sc env) {body : List Stmt} {xp : Pos} {P : Flow → Shared → Prop} (hk : FX n x (IR i (j - i).toNat) bd env st fl env1 st1) (h0 : 0 ≤ i ∧ i ≤ 1000000 ∧ 0 ≤ j ∧ j ≤ 1000000)
    (hx : sc1 sc x = true) (hb : chkS bd sc body = true) {ra : Addr} {t u v : Tok} (hr : IsRange sh.heap ra i j 1 t u v) (hq : ∀ f s', Done C φ st sh [penv.locals] penv fl env1 st1 f s' → P f s') :
    wpAny (model C.prog C.w) A (pyIter (.ref ra)) (fun it s₂ => codeAny (model C.prog C.w) A (.forLoop (.Name (S x) xp) it body [] penv) (fun r s' => match r with | .ok f => P f s' | .error e => cameBackBy (model C.prog C.w) A penv E e s') s₂) E sh := by
  refine wpAny_pyIter_range hr (small_one (by omega) (by omega) (by omega) (by omega)) ?_
  have Pp := Post.push c.wd { cls := .type "range_iterator", data := .fields #[rawInt i, rawInt (Builtin.Range.rangeSize i j 1), rawInt 1] }
  have hsz : Builtin.Range.rangeSize i j 1 = (((j - i).toNat : Nat) : Int) := by rw [rangeSize_one]; split <;> omega
  refine codeAny_mono (hk C X A φ _ penv sc _ sh.heap.objs.size xp (c.next Pp) hx hb (by show IsRangeIter _ _ _ _ _; rw [← hsz]; exact Heap.get?_push_size _ rfl) (Ne.symm (Nat.ne_of_lt (locals_lt c.fr))) (c.wd.fresh (Nat.le_refl _)) c.wd.size) fun q' s' ⟨f, hq', D⟩ => ?_
  subst hq'
  exact hq f s' (D.fresh (Nat.le_refl _) Pp)
theorem G.forR1 (h : EV n env st e (.int j) st1) (hj : 0 ≤ j ∧ j ≤ 1000000) (k : Bf n x (IR 0 j.toNat) bd env st1 (Aft (fun env' st' => Bx n ss env' st' Q) Q)) : Bx n (.cons (.forR1 x e bd) ss) env st Q := by
  obtain ⟨fl, env1, st1, hk, k⟩ := k
  refine G.of ⟨fl, env1, st1, fun C X A φ sh penv sc z E c hc => ?_, k⟩
  have hc : (sTag z 9 && ((sO z).isEmpty && (nm (sT z) x && (sc1 sc x && (chkCall (sE z) "range" && (chkGlob sc "range" && (chk (.cons e .nil) sc (row (eXs (sE z))) && chkS bd sc (sB z)))))))) = true := hc
  obtain ⟨np, it, b', fp, rfl, n2, hc⟩ := for_inv hc
  obtain ⟨n3, n4, n5, n6⟩ := an4 hc
  obtain ⟨p, xs, q, rfl⟩ := call_inv n3
  obtain ⟨mg, mb, g1, g2, _, _, _, ⟨g3, g4⟩, _⟩ := X.glob
  have hE := EE.one h
  refine wpAny_For (Call_ (name_builtin c.ok c.wd n4 g1 g3 g2 g4 (callWith_any (P := C.K.In) (keep_plain (fun a z => nomatch z)) (hE.length n5).2 (hE.args X c n5 fun φ' s' ys P v c' => ⟨In_of X c'.wd, ?_⟩)))) (fun _ => rfl)
  obtain ⟨y, rfl, vy⟩ := one_inv v
  obtain ⟨t, rfl⟩ := vy.int_inv
  refine call_range_1 ?_
  have P2 := (Post.push c'.wd { cls := .type "range", data := .fields #[.int 0 s'.toks, .int j t, .int 1 (s'.toks + 1)] })
  have P3 := P2.trans (.toks P2.wd (s'.toks + 1 + 1))
  refine range_loop X (c'.next P3) (by rw [Int.sub_zero]; exact hk) ⟨Int.le_refl _, by decide, hj⟩ n2 n6 (Heap.get?_push_size _ rfl) fun f s'' D => (D.via P3.weak0).via P.weak0
theorem G.forR2 (h : EV n env st e1 (.int i) st1) (h2 : EV n env st1 e2 (.int j) st2) (hj : 0 ≤ i ∧ i ≤ 1000000 ∧ 0 ≤ j ∧ j ≤ 1000000) (k : Bf n x (IR i (j - i).toNat) bd env st2 (Aft (fun env' st' => Bx n ss env' st' Q) Q)) : Bx n (.cons (.forR2 x e1 e2 bd) ss) env st Q := by
  obtain ⟨fl, env1, st1, hk, k⟩ := k
  refine G.of ⟨fl, env1, st1, fun C X A φ sh penv sc z E c hc => ?_, k⟩
  have hc : (sTag z 9 && ((sO z).isEmpty && (nm (sT z) x && (sc1 sc x && (chkCall (sE z) "range" && (chkGlob sc "range" && (chk (.cons e1 (.cons e2 .nil)) sc (row (eXs (sE z))) && chkS bd sc (sB z)))))))) = true := hc
  obtain ⟨np, it, b', fp, rfl, n2, hc⟩ := for_inv hc
  obtain ⟨n3, n4, n5, n6⟩ := an4 hc
  obtain ⟨p, xs, q, rfl⟩ := call_inv n3
  obtain ⟨mg, mb, g1, g2, _, _, _, ⟨g3, g4⟩, _⟩ := X.glob
  have hE := EE.cons h (EE.one h2)
  refine wpAny_For (Call_ (name_builtin c.ok c.wd n4 g1 g3 g2 g4 (callWith_any (P := C.K.In) (keep_plain (fun a z => nomatch z)) (hE.length n5).2 (hE.args X c n5 fun φ' s' ys P v c' => ⟨In_of X c'.wd, ?_⟩)))) (fun _ => rfl)
  cases v with
  | cons v1 v =>
    obtain ⟨y, rfl, vy⟩ := one_inv v
    obtain ⟨t, rfl⟩ := vy.int_inv
    obtain ⟨u, rfl⟩ := v1.int_inv
    refine call_range_2 ?_
    have P2 := (Post.push c'.wd { cls := .type "range", data := .fields #[.int i u, .int j t, .int 1 s'.toks] })
    have P3 := P2.trans (.toks P2.wd (s'.toks + 1))
    refine range_loop X (c'.next P3) hk hj n2 n6 (Heap.get?_push_size _ rfl) fun f s'' D => (D.via P3.weak0).via P.weak0
end
end Mine
end

section
set_option maxRecDepth 100000
namespace Mine
open PySem PySem.W PySem.Calls PyProof.Rows PySem.SeqAt
theorem relab_lookup (sc : Sc) (n : Str) (inner : Sc) : (relab sc inner).lookup n = (inner.lookup n).map fun k => bif k == .free && sc.lookup n == some .cell then .cell else k := by
  induction inner with
  | nil => rfl
  | cons p r ih =>
    obtain ⟨m, k⟩ := p
    show List.lookup n ((bif k == .free && sc.lookup m == some .cell then (m, .cell) else (m, k)) :: relab sc r) = _
    by_cases q : n = m
    · subst q
      rw [List.lookup_cons_self, Option.map_some]
      cases (k == .free && sc.lookup n == some .cell) <;> exact List.lookup_cons_self
    · have q' : (n == m) = false := beq_eq_false_iff_ne.mpr q
      cases (k == .free && sc.lookup m == some .cell) <;> (simp only [cond_true, cond_false, List.lookup_cons, q']; exact ih)
theorem relabel_names {scope : Scope} {penv : Env} {sc : Sc} (K : EOk penv sc) : (relabel scope penv).names = relab sc scope.names := by
  unfold relabel relab
  refine List.map_congr_left ?_
  rintro ⟨n, k⟩ _
  have h1 : (penv.scope.kind == ScopeKind.function) = true := by rw [K.kind]; rfl
  have h2 : penv.kindOf n = sc.lookup n := by unfold Env.kindOf; rw [K.names]
  simp only [h1, h2, Bool.and_true]
  cases (k == .free && sc.lookup n == some .cell) <;> rfl
theorem closure_at {penv : Env} : ∀ (l : Sc) (acc : List (Str × Addr)), (∀ p ∈ l, p.2 = .free → ∃ c, penv.cells.lookup p.1 = some c) →
    ∃ cl : List (Str × Addr), (forIn l acc fun x r => (do
      let cs := r
      match x with
      | (name, kind) => if (kind == NameKind.free) = true then do let c ← cellOf penv name; pure (ForInStep.yield ((name, c) :: cs)) else pure (ForInStep.yield cs) : Sem (ForInStep (List (Str × Addr))))) = pure cl ∧
      (∀ n c, (n, .free) ∈ l → penv.cells.lookup n = some c → cl.lookup n = some c) ∧ (∀ n, (n, NameKind.free) ∉ l → cl.lookup n = acc.lookup n)
  | [], acc, _ => ⟨acc, by rw [List.forIn_nil], fun _ _ h => absurd h List.not_mem_nil, fun _ _ => rfl⟩
  | (m, k) :: r, acc, h => by
    by_cases hk : k = .free
    · subst hk
      obtain ⟨c, hc⟩ := h _ (.head _) rfl
      obtain ⟨cl, h1, h2, h3⟩ := closure_at r ((m, c) :: acc) fun p hp => h p (.tail _ hp)
      refine ⟨cl, ?_, fun n c' hn hc' => ?_, fun n hn => ?_⟩
      · rw [List.forIn_cons]
        have e : cellOf penv m = pure c := by unfold cellOf; rw [hc]
        simp only [beq_self_eq_true, if_true, e, pure_bind]
        exact h1
      · by_cases q : (n, NameKind.free) ∈ r
        · exact h2 n c' q hc'
        · rw [h3 n q]
          rcases List.mem_cons.mp hn with z | z
          · cases z; rw [hc] at hc'; cases hc'; simp
          · exact (q z).elim
      · have q : (n, NameKind.free) ∉ r := fun z => hn (.tail _ z)
        rw [h3 n q]
        have : (n == m) = false := by
          have : n ≠ m := fun z => hn (by rw [z]; exact .head _)
          simpa using this
        simp [List.lookup_cons, this]
    · obtain ⟨cl, h1, h2, h3⟩ := closure_at r acc fun p hp => h p (.tail _ hp)
      refine ⟨cl, ?_, fun n c' hn hc' => ?_, fun n hn => ?_⟩
      · rw [List.forIn_cons]
        have : (k == NameKind.free) = false := by simpa using hk
        simp only [this, Bool.false_eq_true, if_false, pure_bind]
        exact h1
      · rcases List.mem_cons.mp hn with z | z
        · cases z; exact (hk rfl).elim
        · exact h2 n c' z hc'
      · exact h3 n fun z => hn (.tail _ z)
theorem closure_of {penv : Env} {scope : Scope} (h : ∀ p ∈ scope.names, p.2 = .free → ∃ c, penv.cells.lookup p.1 = some c) :
    ∃ cl, closureFor scope penv = pure cl ∧ (∀ n c, (n, .free) ∈ scope.names → penv.cells.lookup n = some c → cl.lookup n = some c) := by
  obtain ⟨cl, h1, h2, _⟩ := closure_at scope.names [] h
  refine ⟨cl, ?_, h2⟩
  unfold closureFor
  have := h1
  first
    | (simp only [h1]; done)
    | (simp only [bind_pure]; exact h1)
    | (show (forIn scope.names ([] : List (Str × Addr)) _ >>= fun r => pure r) = _
       rw [bind_pure]; exact h1)
theorem S_cps (t : String) : (S t).cps.toList = t.toList.map Char.toNat := by
  unfold S; rw [Str.ofString_eq_toList]
theorem S_single (c : Char) : S (String.singleton c) = ⟨#[c.toNat]⟩ := by
  unfold S; rw [Str.ofString_eq_toList]
  simp [String.toList_singleton]
noncomputable def charsX (s : String) : List XVal := s.toList.map fun c => .str (String.singleton c)
noncomputable def IS (t : String) (k : Nat) : ItP := fun C _ _ h it => ∃ ty u, Value.type ty ≠ .type "tuple" ∧ (∀ A' : Around, A'.handled = none → Walks C.prog C.w A' it [it] [it] (S t).cps.size (SignAt (S t)) (fun i h => h.IsStrIter it ty (S t) u i)) ∧ h.IsStrIter it ty (S t) u k ∧ k ≤ (S t).cps.size
structure ItOk (z : ItP) : Prop where
  frame : ∀ {C φ st h h' it}, z C φ st h it → h'.get? it = h.get? it → z C φ st h' it
  self : ∀ {C A φ st} {s : Shared} {E : Value → Shared → Prop} {it} {Q : Value → Shared → Prop}, A.handled = none → z C φ st s.heap it → Q (.ref it) s → wpAny (model C.prog C.w) A (pyIter (.ref it)) Q E s
theorem L.ok {q i k : Nat} : ItOk (IL q i k) := ⟨fun ⟨⟨o, ho, q⟩, hi⟩ e => ⟨⟨o, e.trans ho, q⟩, hi⟩, fun _ h hq => wpAny_pyIter_listiter h.1 hq⟩
theorem str_obj {h : Heap} {it : Addr} {ty : String} {t : Str} {u : Tok} {k : Nat} (z : h.IsStrIter it ty t u k) (hty : Value.type ty ≠ .type "tuple") : ∃ o, h.get? it = some o ∧ o.cls ≠ .type "tuple" ∧ ∀ v, o.data ≠ .cell v := by
  obtain ⟨o, ho, q1, q2⟩ := z
  exact ⟨o, ho, by rw [q1]; exact hty, fun v => by rw [q2]; simp⟩
theorem IS.ok {t : String} {k : Nat} : ItOk (IS t k) := ⟨fun ⟨ty, u, h1, h2, h3, h4⟩ e => ⟨ty, u, h1, h2, (h2 { handled := none } rfl).frame _ _ _ h3 fun b hb o q => by cases List.mem_singleton.mp hb; exact e.trans q, h4⟩, fun hh ⟨ty, u, h1, h2, h3, h4⟩ hq => (h2 _ hh).self _ _ _ _ h3 hq⟩
theorem S_size (t : String) : (S t).cps.size = t.toList.length := by rw [← Array.length_toList, S_cps, List.length_map]
theorem IS.item {t : String} {k : Nat} {c : Char} {st : XSt} (hc : t.toList[k]? = some c) : Item (IS t k) st (.str (String.singleton c)) (IS t (k + 1)) := fun C A φ s E it Q hh W ⟨ty, u, h1, h2, h3, h4⟩ hl no kk => by
  have hk : k < (S t).cps.size := by rw [S_size]; exact (List.getElem?_eq_some_iff.mp hc).1
  obtain ⟨o, ho, q1, q2⟩ := str_obj h3 h1
  refine wpAny_size ((h2 A hh).item k s _ E hk h3 fun v h' tk hv hst hkeep hz => ?_)
  obtain ⟨d, w, e, rfl⟩ := hv
  have : d = c.toNat := by
    have : (S t).cps.toList[k]? = some d := by simpa using e
    rw [S_cps, List.getElem?_map, hc] at this
    exact (Option.some.inj this).symm
  subst this
  obtain ⟨X1, P1⟩ := Post.one (s' := { s with heap := h', toks := tk }) W ho (.inl q1) q2 hl no ⟨_, _, rfl⟩ (fun b o nb hb => hkeep b o (by simpa using nb) hb) hz
  obtain ⟨o1, ho1, _⟩ := str_obj hst h1
  refine kk _ _ o1 X1 P1 ?_ ho1 fun φ' st' h'' ex e he => ⟨ty, u, h1, h2, (h2 A hh).frame _ _ _ hst fun b hb o q => by cases List.mem_singleton.mp hb; rw [he]; exact ho1.symm.trans q, hk⟩
  rw [← S_single]
  exact .str _ _
theorem IS.end {t : String} {st : XSt} : End (IS t t.toList.length) st := fun C A φ s E it Q hh W ⟨ty, u, h1, h2, h3, h4⟩ hl no kk => by
  obtain ⟨o, ho, q1, q2⟩ := str_obj h3 h1
  rw [← S_size] at h3
  refine wpAny_size ((h2 A hh).done s _ E h3 fun h' tk hkeep hz => ?_)
  obtain ⟨X1, P1⟩ := Post.one (s' := { s with heap := h', toks := tk }) W ho (.inl q1) q2 hl no ⟨_, _, rfl⟩ (fun b o nb hb => hkeep b o (by simpa using nb) hb) hz
  exact kk _ X1 P1
inductive CS (n : Nat) (env : XEnv) (x : String) (elt : XE) : ItP → XSt → List XVal → XSt → Prop
  | done {z st} : End z st → CS n env x elt z st [] st
  | item {z z' st v w st1 vs st2} : Item z st v z' → EV n (upd env x v) st elt w st1 → CS n env x elt z' st1 vs st2 → CS n env x elt z st (w :: vs) st2
noncomputable abbrev emptyL : Obj := { cls := .type "list", dict := none, data := .seq ([] : List Value).toArray }
theorem in3 {a b c : Addr} : ∀ x ∈ [a, b], x ∈ [a, b, c] := fun _ h => (List.mem_cons.mp h).elim (fun e => e ▸ .head _) fun h => .tail _ ((List.mem_cons.mp h).elim (fun e => e ▸ .head _) fun h => nomatch h)
section
variable {C : XC} {A : Around} {φ φ0 : Lay} {s s0 : Shared} {penv : Env} {sc : Sc} {n : Nat} {env envN : XEnv} {x : String} {elt : XE} {st st0 st1 stF : XSt} {z : ItP} {vs full : List XVal} {E : Value → Shared → Prop} {D I : Addr}
theorem FRel.weaken {h : Heap} {env env' : XEnv} (F : FRel C φ st h penv env) (w : ∀ y v, env' y = some v → env y = some v) : FRel C φ st h penv env' := by
  obtain ⟨m, hn, hm⟩ := F.ns
  exact ⟨⟨m, hn, fun x v hx => hm x v (w x v hx)⟩, fun x v hx => F.cell x v (w x v hx), F.off, F.low⟩
noncomputable def Mid (C : XC) (φ0 : Lay) (st0 : XSt) (s0 : Shared) (penv : Env) (D I : Addr) (n : Nat) (envN : XEnv) (x : String) (elt : XE) (stF : XSt) (full : List XVal) (m : Nat) (s : Shared) : Prop := ∃ z φ st don rest items n0, Post C φ0 st0 s0 [D, I, penv.locals] φ st s ∧ FRel C φ st s.heap penv envN ∧ z C φ st s.heap I ∧ ¬ Own φ st D ∧ ¬ Own φ st I ∧ IsL s.heap D items n0 ∧
  All2 (VR C φ st s.heap) items.toList don ∧ CS n envN x elt z st rest stF ∧ full = don ++ rest ∧ rest.length = m
theorem comp_loop (X : COk C) (room : Room A n) (K : EOk penv sc) (hx : sc1 sc x = true) (hxn : envN x = none) (hDI : D ≠ I) (hDL : D ≠ penv.locals) (hIL : I ≠ penv.locals) (lD : C.h₀.objs.size ≤ D) (lI : C.h₀.objs.size ≤ I)
    {elt' iter : Expr} {scope : Scope} {pos xp : Pos} {R : Result → Shared → Prop} (hc : chk elt sc elt' = true) (hfull : full.length ≤ LIM)
    (hR : ∀ φ' s' items n, Post C φ0 st0 s0 [D, I, penv.locals] φ' stF s' → FRel C φ' stF s'.heap penv envN → ¬ Own φ' stF D → IsL s'.heap D items n → All2 (VR C φ' stF s'.heap) items.toList full → R (.ok .next) s')
    (m : Nat) (h : Mid C φ0 st0 s0 penv D I n envN x elt stF full m s) : codeAny (model C.prog C.w) A (.compLoop (.ListComp elt' [⟨.Name (S x) xp, iter, [], 0⟩] scope pos) 0 (.ref I) (.ref D) penv) R s := by
  refine codeAny_compLoop_list (Mid C φ0 st0 s0 penv D I n envN x elt stF full) ?_ m h
  rintro m s ⟨z, φ, st, don, rest, items, n0, P, F, hit, nD, nI, hD, hV, hcmp, hf, rfl⟩
  have W := P.wd
  have iD : ∀ {l : List Addr}, D ∉ [I] := fun {l} e => hDI (List.mem_singleton.mp e)
  have lL : penv.locals ∉ [I] := fun e => hIL (List.mem_singleton.mp e).symm
  have iL : I ∉ [penv.locals] := fun e => hIL (List.mem_singleton.mp e)
  have dL : D ∉ [penv.locals] := fun e => hDL (List.mem_singleton.mp e)
  have inI : ∀ b ∈ [I], b ∈ [D, I, penv.locals] := fun b e => List.mem_singleton.mp e ▸ .tail _ (.head _)
  have inL : ∀ b ∈ [penv.locals], b ∈ [D, I, penv.locals] := fun b e => List.mem_singleton.mp e ▸ .tail _ (.tail _ (.head _))
  have inD : ∀ b ∈ [D], b ∈ [D, I, penv.locals] := fun b e => List.mem_singleton.mp e ▸ .head _
  cases hcmp with
  | done hn =>
    refine hn C A φ s _ I _ room.handled W hit lI nI fun s1 X1 P1 => ?_
    refine hR φ s1 items n0 (P.trans (P1.weaken inI)) (F.mono W X1 P1.ev lL) nD (P1.ev.keep _ _ (iD (l := [])) nD hD) ?_
    rw [hf, List.append_nil]
    exact hV.mono fun _ _ q => P1.vr W X1 q
  | @item z z' st v w st1 zs st2 hi h1 h2 =>
    refine hi C A φ s _ I _ room.handled W hit lI nI fun y s1 oI X1 P1 v1 hI1 hz => ?_
    have F1 := F.mono W X1 P1.ev lL
    refine wpAny_assign_Name (store_loc K P1.wd F1 (eq_of_beq hx) v1 fun s2 P2 F2 => ?_)
    have hD2 : IsL s2.heap D items n0 := P2.ev.keep _ _ dL nD (P1.ev.keep _ _ (iD (l := [])) nD hD)
    have hI2 := P2.ev.keep _ _ iL nI hI1
    refine h1.use X ⟨room, P2.wd, K, F2⟩ hc fun φ3 s3 y P3 v3 c3 => ?_
    have nD3 : ¬ Own φ3 st1 D := P3.ev.own hD2 nD
    have hD3 : IsL s3.heap D items n0 := P3.ev.keep _ _ (fun e => nomatch e) nD hD2
    have hI3 := P3.ev.keep _ _ (fun e => nomatch e) nI hI2
    have hV3 := P3.vrs0 P2.wd (hV.mono fun _ _ q => P2.vr P1.wd F1.exOk (P1.vr W X1 q))
    have len : items.size = don.length := hV3.length
    have hdl : don.length + (w :: zs).length ≤ LIM := by rw [hf, List.length_append] at hfull; exact hfull
    refine call_meets PySem.F.slot_list_append ⟨_, hD3, rfl⟩ PySem.F.entry_list_append (PySem.F.args_list_append_2 _ _) (list_append _ items n0 y (limS (by rw [List.length_cons] at hdl; omega))) ⟨hD3, ?_⟩
    obtain ⟨X4, P4⟩ := Post.one (s' := { s3 with heap := s3.heap.update D (Obj.mapSeq fun xs => xs.push y) }) P3.wd hD3 (.inl (by simp)) (fun v => by simp) lD nD3 ⟨_, _, rfl⟩ (fun a o ne ha => (Heap.get?_update_other _ _ (Ne.symm ne)).trans ha) (by simp)
    refine ⟨zs.length, Nat.lt_succ_self _, z', φ3, st1, don ++ [w], zs, items.push y, _, P.trans ((P1.weaken inI).trans ((P2.weaken inL).trans (P3.weak0.trans (P4.weaken inD)))), ?_, ?_, nD3, P3.ev.own hI2 nI, hD3.update (fun xs => xs.push y), ?_, h2, by rw [hf, List.append_assoc]; rfl, rfl⟩
    · exact (c3.fr.mono P3.wd X4 P4.ev (fun e => hDL (List.mem_singleton.mp e).symm)).weaken fun y v hy => by
        unfold upd
        rw [if_neg fun q => by rw [q, hxn] at hy; cases hy]; exact hy
    · exact hz _ _ _ [penv.locals, D] ((P2.ev.trans (P3.weak0 (ex' := [penv.locals])).ev).weaken (fun b e => List.mem_singleton.mp e ▸ .head _) |>.trans (P4.ev.weaken fun b e => List.mem_singleton.mp e ▸ .tail _ (.head _))) ((Heap.get?_update_other _ _ hDI).trans hI3)
    · rw [Array.toList_push]
      exact (hV3.mono fun _ _ q => P4.vr P3.wd X4 q).append (.cons (P4.vr P3.wd X4 v3) .nil)
end
end Mine
end

section
set_option maxRecDepth 100000
namespace Mine
open PySem PySem.W PySem.Calls PyProof.Rows PySem.SeqAt
section
variable {C : XC} {A : Around} {φ : Lay} {s : Shared} {penv : Env} {sc : Sc} {n : Nat} {env : XEnv} {x : String} {elt : XE} {st st1 stF : XSt} {z : ItP} {full : List XVal} {E : Value → Shared → Prop} {I : Addr} {caps : List String}
theorem cell_at {inner : Sc} (h : chkCells sc inner = true) {p : Str × NameKind} (hp : p ∈ inner) : (p.2 = .local ∧ inner.lookup p.1 = some .local) ∨ (p.2 = .free ∧ sc.lookup p.1 = some .cell) ∨ p.2 = .globalImplicit := by
  have h := List.all_eq_true.mp h p hp
  by_cases q : p.2 = .local
  · rw [beq_iff_eq.mpr q] at h; exact .inl ⟨q, eq_of_beq h⟩
  · rw [beq_eq_false_iff_ne.mpr q] at h
    by_cases q2 : p.2 = .free
    · rw [beq_iff_eq.mpr q2] at h; exact .inr (.inl ⟨q2, eq_of_beq h⟩)
    · rw [beq_eq_false_iff_ne.mpr q2] at h; exact .inr (.inr (eq_of_beq h))
theorem no_cell {inner : Sc} (h : chkCells sc inner = true) : ∀ y ∈ inner, y.2 ≠ .cell := fun y hy q => by
  rcases cell_at h hy with z | z | z
  · rw [z.1] at q; cases q
  · rw [z.1] at q; cases q
  · rw [z] at q; cases q
theorem mem_of_lookup' {α β : Type} [BEq α] [LawfulBEq α] {l : List (α × β)} {a : α} {b : β} (h : l.lookup a = some b) : (a, b) ∈ l := by
  obtain ⟨l1, l2, e, _⟩ := List.lookup_eq_some_iff.mp h
  rw [e]; exact List.mem_append_right _ (.head _)
theorem relab_cell {inner : Sc} (h : chkCells sc inner = true) {y : Str} (hy : (relab sc inner).lookup y = some .cell) : (y, .free) ∈ inner ∧ sc.lookup y = some .cell := by
  rw [relab_lookup] at hy
  obtain ⟨k, h1, h2⟩ := Option.map_eq_some_iff.mp hy
  have hm := mem_of_lookup' h1
  cases q : (k == .free && sc.lookup y == some .cell) with
  | true =>
    obtain ⟨q1, q2⟩ := an q
    cases eq_of_beq q1
    exact ⟨hm, eq_of_beq q2⟩
  | false =>
    rw [q, cond_false] at h2
    exact (no_cell h _ hm h2).elim
theorem comp_env (c : Cx C A n φ st s penv sc env) {scope : Scope} {cl : List (Str × Addr)} {h₁ : Heap} {L : Addr} {m : Str → Option Value} (hkind : scope.kind = .function) (hcells : chkCells sc scope.names = true) (hcaps : ∀ y ∈ caps, kindIn (relab sc scope.names) y = some .cell)
    (hcl : ∀ n c, (n, .free) ∈ scope.names → penv.cells.lookup n = some c → cl.lookup n = some c) (FO : FRel C φ st h₁ penv env) (hns : h₁.Ns L m) (off : ¬ Own φ st L) (low : C.h₀.objs.size ≤ L) :
    EOk (compEnvC scope cl L penv) (relab sc scope.names) ∧ FRel C φ st h₁ (compEnvC scope cl L penv) (narrow env caps) := by
  have K' : EOk (compEnvC scope cl L penv) (relab sc scope.names) := ⟨hkind, relabel_names c.ok, c.ok.globals, c.ok.builtins, fun n hn => by
    obtain ⟨h1, h2⟩ := relab_cell hcells hn
    obtain ⟨cc, hcc⟩ := c.ok.cells n h2
    exact ⟨cc, hcl n cc h1 hcc⟩⟩
  have key : ∀ y v, narrow env caps y = some v → env y = some v ∧ kindIn (relab sc scope.names) y = some .cell := fun y v hy => by
    unfold narrow at hy
    split at hy
    · rename_i hm; exact ⟨hy, hcaps y hm⟩
    · cases hy
  have kin : ∀ y, Env.kindOf (compEnvC scope cl L penv) (S y) = kindIn (relab sc scope.names) y := fun y => by unfold Env.kindOf kindIn; rw [K'.names]
  refine ⟨K', ⟨m, hns, fun y v hy hk => ?_⟩, fun y v hy hk => ?_, off, low⟩
  · rw [kin, (key y v hy).2] at hk; cases hk
  · obtain ⟨h1, h2⟩ := key y v hy
    obtain ⟨h3, h4⟩ := relab_cell hcells h2
    obtain ⟨cc, yv, e1, e2, e3, e4⟩ := FO.cell y v h1 (.inl (by unfold Env.kindOf; rw [c.ok.names]; exact h4))
    exact ⟨cc, yv, hcl _ _ h3 e1, e2, e3, e4⟩
structure CompOk (sc : Sc) (x : String) (caps : List String) (src elt : XE) (scope : Scope) (iter elt' : Expr) : Prop where
  kind : scope.kind = .function
  x : kindIn scope.names x = some .local
  src : chk src sc iter = true
  elt : chk elt (relab sc scope.names) elt' = true
  set : notSet iter = true
  cells : chkCells sc scope.names = true
  caps : ∀ y ∈ caps, kindIn (relab sc scope.names) y = some .cell
theorem comp_inv {src : XE} {e : Expr} (h : chk (.comp x caps src elt) sc e = true) : ∃ elt' iter scope pos xp, e = .ListComp elt' [⟨.Name (S x) xp, iter, [], 0⟩] scope pos ∧ CompOk sc x caps src elt scope iter elt' := by
  have h : (tag e 8 && (eOp e 0 && (isNm (eStr (eGen e).1) x && (eKind e && (kindIn (eScope e) x == some .local && (chk src sc (eGen e).2 && (chk elt (relab sc (eScope e)) (eL e) && (notSet (eGen e).2 && (chkCells sc (eScope e) && caps.all fun c => kindIn (relab sc (eScope e)) c == some .cell))))))))) = true := h
  have h2 := (an h).2
  obtain ⟨elt', g, scope, pos, rfl⟩ := inv8 (an h).1
  clear h
  match g, h2 with
  | [⟨t, it, ifs, asy⟩], h2 =>
    have h3 : (isNm (eStr t) x && (scope.kind == .function && (kindIn scope.names x == some .local && (chk src sc it && (chk elt (relab sc scope.names) elt' && (notSet it && (chkCells sc scope.names && caps.all fun c => kindIn (relab sc scope.names) c == some .cell))))))) = true := (an h2).2
    have h1 : (tag t 23 && ifs.isEmpty && asy == 0) = true := (an (show ((tag t 23 && ifs.isEmpty && asy == 0) && true) = true from (an h2).1)).1
    clear h2
    obtain ⟨i, xp, e1⟩ := inv23 (e := t) (an (an h1).1).1
    have e2 := List.isEmpty_iff.mp (an (an h1).1).2
    have e3 := eq_of_beq (an h1).2
    clear h1
    subst e1 e2 e3
    have e1 := isNm_eq (n := i) (an h3).1
    have h4 := (an h3).2
    clear h3
    subst e1
    have h5 := (an (an h4).2).2
    have h6 := (an (an (an h5).2).2).2
    exact ⟨elt', it, scope, pos, xp, rfl, eq_of_beq (an h4).1, eq_of_beq (an (an h4).2).1, (an h5).1, (an (an h5).2).1, (an (an (an h5).2).2).1, (an h6).1, fun y hy => eq_of_beq (List.all_eq_true.mp (an h6).2 y hy)⟩
theorem comp_block (X : COk C) (use : Option (Value → Sem Unit)) (r : Nat) (zo : ItOk z) (hit : z C φ st s.heap I) (hIo : ∃ o, s.heap.get? I = some o) (nI : ¬ Own φ st I) (lI : C.h₀.objs.size ≤ I) (c : Cx C A n φ st s penv sc env)
    {src : XE} {elt' iter : Expr} {scope : Scope} (K : CompOk sc x caps src elt scope iter elt') {pos xp : Pos} {cl : List (Str × Addr)} {Q : Value → Shared → Prop} (hs : CS n (narrow env caps) x elt z st full stF) (hfull : full.length ≤ LIM)
    (hcl : ∀ n c, (n, .free) ∈ scope.names → penv.cells.lookup n = some c → cl.lookup n = some c)
    (hQ : ∀ φ' s' D L m, Post C φ st s [I] φ' (stF.push r (.list full)) s' → VR C φ' (stF.push r (.list full)) s'.heap (.ref D) (.ref r (stF r).length) → s.heap.objs.size ≤ L → ¬ Own φ' (stF.push r (.list full)) L → s'.heap.Ns L m → compPost (model C.prog C.w) A E use Q (.ref D) L (.ok .next) s') :
    wpAny (model C.prog C.w) A (newList []) (fun acc s₃ => wpAny (model C.prog C.w) A (newFunctionEnv scope penv.globals cl [] penv.qual none .none (some penv)) (fun cenv s₄ =>
        codeAny (model C.prog C.w) A (.compStart (.ListComp elt' [⟨.Name (S x) xp, iter, [], 0⟩] scope pos) 0 (.ref I) acc { cenv with scope := relabel scope penv }) (compPost (model C.prog C.w) A E use Q acc cenv.locals) s₄) E s₃) E s := by
  refine wpAny_newObj_type (wpAny_newFunctionEnv (no_cell K.cells) (fun y hy => nomatch hy) (fun h₁ hns₁ hsb₁ => ?_) K.kind)
  have P2 := Post.push c.wd emptyL
  have z2 : (s.heap.push emptyL).objs.size = s.heap.objs.size + 1 := Heap.size_push _ _
  have P3 := Post.push P2.wd { cls := .type (if (some penv).isSome then "dict" else "frame"), data := .dict #[] }
  generalize hL : (s.heap.push emptyL).objs.size = L at z2 hns₁ hsb₁
  have zle : s.heap.objs.size ≤ L := z2 ▸ Nat.le_succ _
  have zne : s.heap.objs.size ≠ L := z2 ▸ Nat.ne_of_lt (Nat.lt_succ_self _)
  obtain ⟨oI, hI⟩ := hIo
  have zI' : I ≠ s.heap.objs.size := Nat.ne_of_lt (Heap.lt_size hI)
  have zI : I ≠ L := z2 ▸ Nat.ne_of_lt (Nat.lt_succ_of_lt (Heap.lt_size hI))
  have hlow : C.h₀.objs.size ≤ s.heap.objs.size := c.wd.size
  have hL2 : ((s.heap.push emptyL).push { cls := .type (if (some penv).isSome then "dict" else "frame"), data := .dict #[] }).get? L = some { cls := .type (if (some penv).isSome then "dict" else "frame"), data := .dict #[] } := hL ▸ Heap.get?_push_size _ rfl
  obtain ⟨X4, P4⟩ := Post.one (s := { s with heap := (s.heap.push emptyL).push { cls := .type (if (some penv).isSome then "dict" else "frame"), data := .dict #[] } }) (s' := { s with heap := h₁, toks := s.toks + ([] : List (Str × Value)).length }) P3.wd hL2 (.inr fun _ _ z => nomatch z) (fun _ z => nomatch z) (Nat.le_trans hlow zle) (c.wd.fresh zle) ⟨_, _, rfl⟩
    (fun a o ne ha => (hsb₁.2 a ne).trans ha) (Nat.le_of_eq hsb₁.1.symm)
  have Pall : Post C φ st s [L] φ st { s with heap := h₁, toks := s.toks + ([] : List (Str × Value)).length } := P2.weak0.trans (P3.weak0.trans P4)
  have kept : ∀ b o, b ≠ L → (s.heap.push emptyL).get? b = some o → h₁.get? b = some o := fun b o ne hb => (hsb₁.2 b ne).trans (Heap.get?_push_of_some _ hb)
  have hit1 : z C φ st h₁ I := zo.frame hit ((kept I oI zI (Heap.get?_push_of_some _ hI)).trans hI.symm)
  have hD1 : IsL h₁ s.heap.objs.size #[] 0 := kept _ _ zne (Heap.get?_push_size _ rfl)
  have FO : FRel C φ st h₁ penv env := by
    have X0 : ExOk C s.heap [L] := fun b hb => by
      cases List.mem_singleton.mp hb
      exact ⟨Nat.le_trans hlow zle, fun o ho => absurd (Heap.lt_size ho) (Nat.not_lt.mpr zle)⟩
    exact c.fr.mono (s' := { s with heap := h₁, toks := s.toks + ([] : List (Str × Value)).length }) c.wd X0 Pall.ev (fun e => Nat.ne_of_lt (Nat.lt_of_lt_of_le (locals_lt c.fr) zle) (List.mem_singleton.mp e))
  obtain ⟨K', F'⟩ := comp_env c K.kind K.cells K.caps hcl FO hns₁ (c.wd.fresh zle) (Nat.le_trans hlow zle)
  have hxr : kindIn (relab sc scope.names) x = some .local := by
    have := K.x
    unfold kindIn at this ⊢
    rw [relab_lookup, this]; rfl
  have hxn : narrow env caps x = none := if_neg fun hm => by have := K.caps x hm; rw [hxr] at this; cases this
  have loop := comp_loop (s := { s with heap := h₁, toks := s.toks + ([] : List (Str × Value)).length }) (iter := iter) (scope := scope) (pos := pos) (xp := xp) (R := compPost (model C.prog C.w) A E use Q (.ref s.heap.objs.size) L) X c.room K' (beq_iff_eq.mpr hxr) hxn zI'.symm zne zI hlow lI K.elt hfull (fun φ' s' items m P F nD hD hV => ?_) full.length
    ⟨z, φ, st, [], full, #[], 0, .refl Pall.wd, F', hit1, c.wd.fresh (Nat.le_refl _), nI, hD1, .nil, hs, rfl, rfl⟩
  · exact codeAny_compStart_list loop (zo.self c.room.handled hit1 loop)
  · obtain ⟨ml, hml, _⟩ := F.ns
    have Pt := (Pall.weaken (ex' := [s.heap.objs.size, I, L]) fun b e => List.mem_singleton.mp e ▸ .tail _ (.tail _ (.head _))).trans P
    obtain ⟨W5, e5, o5⟩ := P.wd.adopt (r := r) (o := .list full) (a := s.heap.objs.size) (d := s.heap.objs.size) hlow nD (fun z => nomatch z) (fun f => ⟨items, m, hD, hV.mono f, hfull⟩)
    have e6 : Ev φ st s.heap φ' stF s'.heap [I] := Pt.ev.drop fun b hb => by
      rcases List.mem_cons.mp hb with e | hb
      · exact .inr (Nat.le_of_eq e.symm)
      · rcases List.mem_cons.mp hb with e | hb
        · exact .inl (e ▸ .head _)
        · exact .inr (List.mem_singleton.mp hb ▸ zle)
    refine hQ _ s' s.heap.objs.size L ml ⟨Pt.same, W5, e5 (Nat.le_refl _) (fun z => nomatch z) e6⟩ ?_ zle (o5 _ zne.symm (fun z => nomatch z) F.off) hml
    have := VR.ref (C := C) (φ := φ'.put r (stF r).length s.heap.objs.size s.heap.objs.size) (h := s'.heap) (push_len (st := stF) (r := r) (o := .list full))
    rwa [Lay.put_a] at this
noncomputable def SrcIt (st : XSt) (a : XVal) (z : ItP) : Prop := (∃ q l xs, a = .ref q l ∧ getL st q l = some xs ∧ z = IL q l 0) ∨ ∃ t, a = .str t ∧ z = IS t 0
theorem comp_any (X : COk C) (use : Option (Value → Sem Unit)) (r : Nat) {src : XE} {a : XVal} (h1 : EV n env st src a st1) (hz : SrcIt st1 a z) (hs : CS n (narrow env caps) x elt z st1 full stF) (hfull : full.length ≤ LIM) (c : Cx C A n φ st s penv sc env)
    {elt' iter : Expr} {scope : Scope} (K : CompOk sc x caps src elt scope iter elt') {pos xp p : Pos} {Q : Value → Shared → Prop}
    (hQ : ∀ φ' s' D L m, Post C φ st s [] φ' (stF.push r (.list full)) s' → VR C φ' (stF.push r (.list full)) s'.heap (.ref D) (.ref r (stF r).length) → s.heap.objs.size ≤ L → ¬ Own φ' (stF.push r (.list full)) L → s'.heap.Ns L m → compPost (model C.prog C.w) A E use Q (.ref D) L (.ok .next) s') :
    wpAny (model C.prog C.w) A (comprehension (.ListComp elt' [⟨.Name (S x) xp, iter, [], 0⟩] scope pos) scope penv p (newList []) false (PySem.eval iter penv) use) Q E s := by
  obtain ⟨cl, hcl, hcl2⟩ := closure_of (penv := penv) (scope := scope) fun q hq hk => by
    rcases cell_at K.cells hq with z | z | z
    · rw [z.1] at hk; cases hk
    · exact c.ok.cells _ z.2
    · rw [z] at hk; cases hk
  refine wpAny_comprehension_free (g := ⟨.Name (S x) xp, iter, [], 0⟩) (gs := []) rfl (notSet_eq K.set) hcl K.kind (fun q hq hk => by
    rcases cell_at K.cells hq with z | z | z
    · exact z.2
    · rw [z.1] at hk; cases hk
    · rw [z] at hk; cases hk) ?_
  refine h1.use X c K.src fun φ1 s1 v P1 v1 c1 => ?_
  have go : ∀ o : Obj, o.cls ≠ .type "tuple" ∨ True → z C φ1 st1 (s1.heap.push o) s1.heap.objs.size → ItOk z → (s1.heap.push o).get? s1.heap.objs.size = some o → wpAny (model C.prog C.w) A (newList []) (fun acc s₃ => wpAny (model C.prog C.w) A (newFunctionEnv scope penv.globals cl [] penv.qual none .none (some penv)) (fun cenv s₄ =>
        codeAny (model C.prog C.w) A (.compStart (.ListComp elt' [⟨.Name (S x) xp, iter, [], 0⟩] scope pos) 0 (.ref s1.heap.objs.size) acc { cenv with scope := relabel scope penv }) (compPost (model C.prog C.w) A E use Q acc cenv.locals) s₄) E s₃) E { s1 with heap := s1.heap.push o } := fun o _ hit zo hg => by
    have Pp := Post.push c1.wd o
    refine comp_block X use r zo hit ⟨o, hg⟩ (c1.wd.fresh (Nat.le_refl _)) c1.wd.size (c1.next Pp) K hs hfull hcl2 fun φ' s' D L m P v hL nO hn => ?_
    have P2 := Pp.weak0.trans P
    have P3 : Post C φ1 st1 s1 [] φ' (stF.push r (.list full)) s' := ⟨P2.same, P2.wd, P2.ev.drop fun b hb => by cases List.mem_singleton.mp hb; exact .inr (Nat.le_refl _)⟩
    exact hQ φ' s' D L m (P1.trans P3) v (Nat.le_trans P1.ev.size (Nat.le_trans (by rw [Heap.size_push]; exact Nat.le_succ _) hL)) nO hn
  rcases hz with ⟨q, l, xs, rfl, hx, rfl⟩ | ⟨t, rfl, rfl⟩
  · obtain ⟨rfl, hi⟩ := v1.ref_inv
    obtain ⟨items, m, hl, _⟩ := c1.wd.list (getL_some hx)
    exact wpAny_pyIter_list (isL_of hl) (go _ (.inr trivial) ⟨⟨_, Heap.get?_push_size _ rfl, rfl, rfl⟩, hi⟩ L.ok (Heap.get?_push_size _ rfl))
  · obtain ⟨u, rfl⟩ := v1.str_inv
    cases ha : (S t).cps.all (· < 128)
    · exact wpAny_pyIter_wide ha (go _ (.inr trivial) ⟨"str_iterator", u, by simp, fun A' hA => Walks.strWide hA _ _ _, ⟨_, Heap.get?_push_size _ rfl, rfl, rfl⟩, Nat.zero_le _⟩ IS.ok (Heap.get?_push_size _ rfl))
    · exact wpAny_pyIter_ascii ha (go _ (.inr trivial) ⟨"str_ascii_iterator", u, by simp, fun A' hA => Walks.strAscii hA _ _ _, ⟨_, Heap.get?_push_size _ rfl, rfl, rfl⟩, Nat.zero_le _⟩ IS.ok (Heap.get?_push_size _ rfl))
end
section
variable {n : Nat} {env : XEnv} {x y : String} {elt src : XE} {st st1 stF : XSt} {z : ItP} {full : List XVal} {caps : List String} {a : XVal} {ss : XS} {Q : XFlow → XEnv → XSt → Prop}
theorem E.comp (r : Nat) (h1 : EV n env st src a st1) (hz : SrcIt st1 a z) (hs : CS n (narrow env caps) x elt z st1 full stF) (hfull : full.length ≤ LIM) : EV n env st (.comp x caps src elt) (.ref r (stF r).length) (stF.push r (.list full)) := .mk (k := 8) rfl (fun h => (an h).1) fun C X A φ s penv sc e E c hc => by
  obtain ⟨elt', iter, scope, pos, xp, rfl, K⟩ := comp_inv hc
  rw [eval_ListComp]
  refine comp_any X none r h1 hz hs hfull c K fun φ' s' D L m P v hL nO hn => ⟨m, hn, fun h' hs => ?_⟩
  obtain ⟨o, es, ep', ho, hd⟩ := ns_obj hn
  obtain ⟨X, P2⟩ := Post.one (s' := { s' with heap := h' }) P.wd ho (.inr fun _ _ z => by rw [hd] at z; cases z) (fun _ z => by rw [hd] at z; cases z) (Nat.le_trans c.wd.size hL) nO ⟨_, _, rfl⟩ (fun a o ne ha => (hs.2 a ne).trans ha) (Nat.le_of_eq hs.1.symm)
  have P3 := P.weak0.trans P2
  exact ⟨φ', ⟨P3.same, P3.wd, P3.ev.drop fun b hb => by cases List.mem_singleton.mp hb; exact .inr hL⟩, P2.vr P.wd X v⟩
theorem G.asgC (r : Nat) (h1 : EV n env st src a st1) (hz : SrcIt st1 a z) (hs : CS n (narrow env caps) x elt z st1 full stF) (hfull : full.length ≤ LIM) (k : Bx n ss (upd env y (.ref r (stF r).length)) (stF.push r (.list full)) Q) : Bx n (.cons (.asgC y x caps src elt) ss) env st Q := G.next (fun C X A φ sh penv sc t E c hc => by
  obtain ⟨h0, h2, h3, h4, hc⟩ := an5 (show (sTag t 5 && (sK t && (nm (sT t) y && (sc1 sc y && (chk (.comp x caps src elt) sc (sE t) && (tag (sE t) 8 && ((ePos (sT t)).line == (ePos (sE t)).line && !((eScope (sE t)).any fun q => q.1 == S y && (q.2 == .local || q.2 == .cell))))))))) = true from hc)
  obtain ⟨h5, _, h6, h7⟩ := an4 hc
  obtain ⟨y', e', p, rfl⟩ := asg_inv ((Bool.and_eq_true _ _).mpr ⟨h0, h2⟩)
  obtain ⟨np, e⟩ := nm_inv h3
  have e : y' = _ := e
  subst e
  obtain ⟨elt', iter, scope, pos, xp, e, K⟩ := comp_inv h5
  have e : e' = _ := e
  subst e
  have hky : penv.kindOf (S y) = some .local := by unfold Env.kindOf; rw [c.ok.names]; exact eq_of_beq h4
  have hsw : swapsWith (.ListComp elt' [⟨.Name (S x) xp, iter, [], 0⟩] scope pos) (some (.Name (S y) np)) p.line penv = pure true := by
    show (pure (penv.blockKind == .function && penv.kindOf (S y) == some .local && np.line == pos.line && !(scope.names.any fun (n, k) => n == S y && (k == .local || k == .cell))) : Sem Bool) = _
    have h6 : (np.line == pos.line) = true := h6
    have h7 : (!(scope.names.any fun q => q.1 == S y && (q.2 == .local || q.2 == .cell))) = true := h7
    rw [h6, h7, hky, show penv.blockKind = ScopeKind.function from by unfold Env.blockKind; rw [c.ok.kind]; rfl]
    rfl
  rw [exec_Assign_Name_used _ _ _ _ hsw]
  refine wpAny_bind (wpAny_standAt (wpAny_bind ?_))
  show wpAny _ A (do let _ ← comprehension (.ListComp elt' [⟨.Name (S x) xp, iter, [], 0⟩] scope pos) scope penv _ (newList []) false (PySem.eval iter penv) (some (assign (.Name (S y) np) penv))) _ _ sh
  refine wpAny_bind (wpAny_mono (comp_any X (some (assign (.Name (S y) np) penv)) r (Q := fun _ s' => _ = _ ∧ _) h1 hz hs hfull c K ?_) (fun _ s' hq => wpAny_pure (wpAny_pure hq)) fun _ _ e => e)
  intro φ' s' D L m P v hL nO hn
  have F1 := P.fr c.wd c.fr
  refine wpAny_assign_Name (store_loc c.ok P.wd F1 (eq_of_beq h4) v fun s2 P2 F2 => ?_)
  have hneL : L ≠ penv.locals := Ne.symm (Nat.ne_of_lt (Nat.lt_of_lt_of_le (locals_lt c.fr) hL))
  have hneL' : L ∉ [penv.locals] := fun e => hneL (List.mem_singleton.mp e)
  obtain ⟨o, es, ep', ho, hd⟩ := ns_obj hn
  have ho2 : s2.heap.get? L = some o := P2.ev.keep _ _ hneL' nO ho
  refine ⟨m, hn.at fun o' ho' => P2.ev.keep _ _ hneL' nO ho', fun h' hs => ?_⟩
  obtain ⟨X, P3⟩ := Post.one (s' := { s2 with heap := h' }) P2.wd ho2 (.inr fun _ _ z => by rw [hd] at z; cases z) (fun _ z => by rw [hd] at z; cases z) (Nat.le_trans c.wd.size hL) nO ⟨_, _, rfl⟩ (fun a o ne ha => (hs.2 a ne).trans ha) (Nat.le_of_eq hs.1.symm)
  have P4 := (P.weak0 (ex' := [penv.locals, L])).trans ((P2.weaken (ex' := [penv.locals, L]) (fun b e => List.mem_singleton.mp e ▸ .head _)).trans (P3.weaken fun b e => List.mem_singleton.mp e ▸ .tail _ (.head _)))
  refine ⟨rfl, φ', ⟨P4.same, P4.wd, P4.ev.drop fun b hb => ?_⟩, F2.mono P2.wd X P3.ev (fun e => hneL (List.mem_singleton.mp e).symm)⟩
  rcases List.mem_cons.mp hb with e | hb
  · exact .inl (e ▸ .head _)
  · exact .inr (List.mem_singleton.mp hb ▸ hL)) k
end
end Mine
end

section
set_option maxRecDepth 100000
namespace Mine
open PySem PySem.W PySem.Calls PyProof.Rows PySem.SeqAt
noncomputable def slotP (l : List (Str × Value)) (b : List (Str × Value)) : List (Str × Value) := l.foldl (fun slots nd => if (slots.lookup nd.1).isNone then slots ++ [(nd.1, nd.2)] else slots) b
theorem forIn_slot : ∀ (l b : List (Str × Value)), (forIn l b fun x __s => if (List.lookup x.fst __s).isNone = true then pure (ForInStep.yield (__s ++ [(x.fst, x.snd)])) else pure (ForInStep.yield __s) : Sem (List (Str × Value))) = pure (slotP l b)
  | [], b => by simp [slotP]
  | a :: l, b => by
    rw [List.forIn_cons]
    unfold slotP
    rw [List.foldl_cons]
    by_cases h : (List.lookup a.fst b).isNone = true
    · rw [if_pos h, if_pos h, pure_bind]; exact forIn_slot l _
    · rw [if_neg h, if_neg h, pure_bind]; exact forIn_slot l _
theorem lookup_some_iff {n : Str} : ∀ {l : List (Str × Value)}, (l.lookup n).isSome = true ↔ n ∈ l.map (·.1)
  | [] => by simp
  | (m, v) :: l => by
    rw [List.lookup_cons]
    by_cases q : n = m
    · subst q; simp
    · have : (n == m) = false := by simpa using q
      simp only [this]
      rw [lookup_some_iff (l := l)]
      simp [q]
theorem slot_skip : ∀ {l b : List (Str × Value)}, (∀ x ∈ l, x.1 ∈ b.map (·.1)) → slotP l b = b
  | [], b, _ => rfl
  | a :: l, b, h => by
    unfold slotP
    rw [List.foldl_cons, if_neg]
    · exact slot_skip fun x hx => h x (.tail _ hx)
    · have := lookup_some_iff.mpr (h a (.head _))
      simp [Option.isNone_iff_eq_none, Option.isSome_iff_ne_none.mp this]
theorem slot_add : ∀ {l b : List (Str × Value)}, (l.map (·.1)).Nodup → (∀ x ∈ l, x.1 ∉ b.map (·.1)) → slotP l b = b ++ l
  | [], b, _, _ => by simp [slotP]
  | a :: l, b, nd, h => by
    unfold slotP
    simp only [List.map_cons, List.nodup_cons] at nd
    rw [List.foldl_cons, if_pos]
    · have := slot_add (l := l) (b := b ++ [(a.1, a.2)]) nd.2 (fun x hx => by
        simp only [List.map_append, List.map_cons, List.map_nil, List.mem_append, List.mem_singleton, not_or]
        exact ⟨h x (.tail _ hx), fun e => nd.1 (by rw [← e]; exact List.mem_map.mpr ⟨x, hx, rfl⟩)⟩)
      unfold slotP at this
      rw [this]; simp
    · have := h a (.head _)
      rw [← lookup_some_iff] at this
      cases q : List.lookup a.1 b with
      | none => rfl
      | some v => rw [q] at this; exact absurd rfl this
theorem filterMap_same {α β : Type} {f g : α → Option β} : ∀ {l : List α}, (∀ x ∈ l, f x = g x) → l.filterMap f = l.filterMap g
  | [], _ => rfl
  | a :: l, h => by rw [List.filterMap_cons, List.filterMap_cons, h a (.head _), filterMap_same fun x hx => h x (.tail _ hx)]
theorem zip_cut {ps : List Str} {vals : List Value} (h1 : vals.length ≤ ps.length) : ps.zip vals = (ps.take vals.length).zip vals := by
  conv => lhs; rw [← List.take_append_drop vals.length ps, ← List.append_nil vals]
  rw [List.zip_append (by simp; omega)]
  simp
theorem pick_zip : ∀ {ps : List Str} {vs : List Value}, ps.Nodup → ps.length ≤ vs.length → (ps.filterMap fun n => ((ps.zip vs).lookup n).map (n, ·)) = ps.zip vs
  | [], vs, _, _ => by simp
  | p :: ps, [], _, h => by simp at h
  | p :: ps, v :: vs, nd, h => by
    simp only [List.nodup_cons] at nd
    rw [List.zip_cons_cons, List.filterMap_cons]
    simp only [List.lookup_cons, beq_self_eq_true, Option.map_some]
    congr 1
    have ih := pick_zip (vs := vs) nd.2 (by simpa using h)
    conv => rhs; rw [← ih]
    apply filterMap_same
    intro n hn
    have : (n == p) = false := by
      have : n ≠ p := fun e => nd.1 (e ▸ hn)
      simpa using this
    simp only [this]
theorem bind_slots {ps : List Str} {vals dl : List Value} (nd : ps.Nodup) (h1 : vals.length ≤ ps.length) (h2 : dl.length ≤ ps.length) (h3 : ps.length ≤ vals.length + dl.length) :
    (ps.filterMap fun n => ((slotP ((ps.drop (ps.length - dl.length)).zip dl) (ps.zip vals)).lookup n).map (n, ·)) = ps.zip (vals ++ dl.drop (vals.length + dl.length - ps.length)) := by
  have e0 : ps.zip vals = (ps.take vals.length).zip vals := zip_cut h1
  have e1 : (ps.drop (ps.length - dl.length)).zip dl = ((ps.drop (ps.length - dl.length)).take (vals.length + dl.length - ps.length)).zip (dl.take (vals.length + dl.length - ps.length)) ++ (ps.drop vals.length).zip (dl.drop (vals.length + dl.length - ps.length)) := by
    have : ps.drop vals.length = (ps.drop (ps.length - dl.length)).drop (vals.length + dl.length - ps.length) := by rw [List.drop_drop]; congr 1; omega
    rw [this, ← List.zip_append (by simp; omega), List.take_append_drop, List.take_append_drop]
  have split : ps.take vals.length ++ ps.drop vals.length = ps := List.take_append_drop _ _
  have key0 : ((ps.take vals.length).zip vals).map (·.1) = ps.take vals.length := by rw [List.map_fst_zip]; simp; omega
  have nd' : (ps.take vals.length ++ ps.drop vals.length).Nodup := by rw [split]; exact nd
  rw [List.nodup_append] at nd'
  have all : slotP ((ps.drop (ps.length - dl.length)).zip dl) (ps.zip vals) = ps.zip (vals ++ dl.drop (vals.length + dl.length - ps.length)) := by
    rw [e0, e1]
    have : ∀ a b c, slotP (a ++ b) c = slotP b (slotP a c) := fun a b c => List.foldl_append
    rw [this]
    have s1 : slotP (((ps.drop (ps.length - dl.length)).take (vals.length + dl.length - ps.length)).zip (dl.take (vals.length + dl.length - ps.length))) ((ps.take vals.length).zip vals) = (ps.take vals.length).zip vals := by
      refine slot_skip fun x hx => ?_
      rw [key0]
      have hx1 := (List.of_mem_zip hx).1
      have : (ps.drop (ps.length - dl.length)).take (vals.length + dl.length - ps.length) = (ps.take vals.length).drop (ps.length - dl.length) := by
        rw [List.drop_take]; congr 1; omega
      rw [this] at hx1
      exact List.mem_of_mem_drop hx1
    rw [s1, slot_add]
    · rw [← List.zip_append (by simp; omega), split]
    · rw [List.map_fst_zip (by simp; omega)]; exact nd'.2.1
    · intro x hx
      rw [key0]
      have hx1 : x.1 ∈ ps.drop vals.length := (List.of_mem_zip hx).1
      exact fun q => nd'.2.2 _ q _ hx1 rfl
  rw [all, pick_zip nd (by simp; omega)]
theorem binds_rest {fd : FuncData} {vals : List Value} (h1 : fd.params.posonlyargs = []) (h2 : fd.params.kwonlyargs = []) (h3 : fd.params.vararg = none) (h4 : fd.params.kwarg = none)
    {ps : List Str} (hps : fd.params.args.map (·.arg) = ps) (nd : ps.Nodup) (l1 : vals.length ≤ ps.length) :
    ∃ G : Option (Array Value) → Sem (List (Str × Value)), bindArgs fd ⟨vals, []⟩ = seqItems? fd.defaults >>= G ∧ ∀ (od : Option (Array Value)) (dl : List Value), (od.getD #[]).toList = dl → dl.length ≤ ps.length → ps.length ≤ vals.length + dl.length →
      G od = pure (ps.zip (vals ++ dl.drop (vals.length + dl.length - ps.length))) := by
  unfold bindArgs
  simp only [h1, h2, h3, h4, hps, List.map_nil, List.nil_append, List.append_nil, List.forIn_nil, pure_bind, Option.isNone_none, Bool.and_true]
  refine ⟨_, rfl, fun od dl hdl l2 l3 => ?_⟩
  simp only [hdl]
  have d0 : dl.drop (dl.length - ps.length) = dl := by rw [Nat.sub_eq_zero_of_le l2, List.drop_zero]
  have miss : (List.filter (fun n => (List.lookup n (ps.zip vals)).isNone) (List.take (ps.length - dl.length) ps)) = [] := by
    rw [List.filter_eq_nil_iff]
    intro n hn
    have : (List.lookup n (ps.zip vals)).isSome = true := by
      rw [lookup_some_iff]
      have e0 : ps.zip vals = (ps.take vals.length).zip vals := zip_cut l1
      rw [e0, List.map_fst_zip (by simp; omega)]
      exact (List.take_subset_take_left ps (by omega)) hn
    simp [Option.isNone_iff_eq_none, Option.isSome_iff_ne_none.mp this]
  rw [if_neg (by simpa using l1)]
  simp only [d0, miss, List.isEmpty_nil, Bool.not_true, Bool.false_eq_true, if_false]
  rw [forIn_slot, pure_bind, bind_slots nd l1 l2 l3]
theorem binds_plain {s : Shared} {fd : FuncData} {vals : List Value} {od : Option (Array Value)} (h1 : fd.params.posonlyargs = []) (h2 : fd.params.kwonlyargs = []) (h3 : fd.params.vararg = none) (h4 : fd.params.kwarg = none)
    {ps : List Str} (hps : fd.params.args.map (·.arg) = ps) {dl : List Value} (hdl : (od.getD #[]).toList = dl)
    (hseq : ∀ (M : Model) (A : Around) (E : Value → Shared → Prop) (Q : Option (Array Value) → Shared → Prop), Q od s → wpAny M A (seqItems? fd.defaults) Q E s)
    (nd : ps.Nodup) (l1 : vals.length ≤ ps.length) (l2 : dl.length ≤ ps.length) (l3 : ps.length ≤ vals.length + dl.length) :
    BindsTo s fd ⟨vals, []⟩ (ps.zip (vals ++ dl.drop (vals.length + dl.length - ps.length))) := by
  intro M A E Q hq
  obtain ⟨G, e, k⟩ := binds_rest h1 h2 h3 h4 hps nd l1
  rw [e]
  exact wpAny_bind (hseq _ _ _ _ (by rw [k od dl hdl l2 l3]; exact wpAny_pure hq))
theorem binds_eq {fd : FuncData} {vals : List Value} (h1 : fd.params.posonlyargs = []) (h2 : fd.params.kwonlyargs = []) (h3 : fd.params.vararg = none) (h4 : fd.params.kwarg = none)
    {ps : List Str} (hps : fd.params.args.map (·.arg) = ps) (hd : fd.defaults = .none) (nd : ps.Nodup) (l1 : vals.length = ps.length) : bindArgs fd ⟨vals, []⟩ = pure (ps.zip vals) := by
  obtain ⟨G, e, k⟩ := binds_rest h1 h2 h3 h4 hps nd (Nat.le_of_eq l1)
  rw [e, hd, show seqItems? Value.none = pure none from rfl, pure_bind, k none [] rfl (Nat.zero_le _) (Nat.le_of_eq l1.symm), List.drop_nil, List.append_nil]
end Mine
end

section
set_option maxRecDepth 100000
namespace Mine
open PySem PySem.W PySem.Calls PyProof.Rows PySem.SeqAt
noncomputable def chkV (K : Frag) : XVal → Value → Bool
  | .none, .none => true
  | .bool b, .bool c => b == c
  | .int i, .int j _ => i == j
  | .str s, .str t _ => isNm t s
  | .tup [], .ref a => match K.lookup a with
    | some ⟨.type T, none, .seq items _, sl⟩ => T == "tuple" && items.isEmpty && sl.isEmpty
    | _ => false
  | _, _ => false
noncomputable def chkVs (K : Frag) : List XVal → List Value → Bool
  | [], [] => true
  | x :: xs, v :: vs => chkV K x v && chkVs K xs vs
  | _, _ => false
noncomputable def chkD (K : Frag) (ds : List XVal) : Value → Bool
  | .none => ds.isEmpty
  | .ref T => match K.lookup T with
    | some ⟨_, _, .seq items _, _⟩ => chkVs K ds items.toList
    | _ => false
  | _ => false
noncomputable def chkCode (K : Frag) (q : Str) : Value → Bool
  | .ref c => match K.lookup c with
    | some ⟨_, _, .fields vs, _⟩ => match (vs[1]? : Option Value) with
      | some (Value.str t _) => t == q
      | _ => false
    | _ => false
  | _ => false
noncomputable def namesOk (l : List Str) : Bool := match l with
  | [] => true
  | a :: r => !(r.contains a) && namesOk r
noncomputable def chkFd (K : Frag) (fn : XFn) (fd : FuncData) : Bool :=
  fd.params.posonlyargs.isEmpty && fd.params.kwonlyargs.isEmpty && fd.params.vararg.isNone && fd.params.kwarg.isNone && (fd.params.args.map (·.arg) == fn.params.map S) && namesOk (fn.params.map S)
  && Nat.ble fn.dflts.length fn.params.length && chkD K fn.dflts fd.defaults && chkCode K fd.qualname fd.code && !fd.scope.isCoroutine && !fd.scope.isGenerator && (fd.scope.kind == .function)
  && (fd.globals == mainGlobals) && (fd.builtins == builtinsNs) && fd.closure.isEmpty
  && (match fd.body with | .stmts body => chkS fn.body fd.scope.names body | _ => false)
  && ((fd.scope.names.all fun p => p.2 != .cell) && (fn.params.all fun p => fd.scope.names.lookup (S p) == some .local)
    || fn.dflts.isEmpty && (fd.defaults == .none) && (fd.scope.names.all fun p => p.2 != .cell || (fn.params.map S).contains p.1) && (fn.params.all fun p => fd.scope.names.lookup (S p) == some .local || (fd.scope.names.lookup (S p) == some .cell && ((cellsFrom 0 fd.scope.names []).lookup (S p)).isSome)))
noncomputable def chkFn (K : Frag) (fn : XFn) (a : Addr) : Bool := match K.lookup a with
  | some ⟨_, _, .func fd, _⟩ => chkFd K fn fd
  | _ => false
theorem namesOk_nodup : ∀ {l : List Str}, namesOk l = true → l.Nodup
  | [], _ => .nil
  | a :: r, h => by
    simp only [namesOk, Bool.and_eq_true, Bool.not_eq_true', List.contains_eq_mem, decide_eq_false_iff_not] at h
    exact List.nodup_cons.mpr ⟨h.1, namesOk_nodup h.2⟩
section
variable {C : XC} {φ : Lay} {st : XSt} {s : Shared}
theorem chkV_sound {h : Heap} (X : C.K.In h) {x : XVal} {v : Value} (e : chkV C.K x v = true) : VR C φ st h v x := by
  unfold chkV at e
  split at e
  · exact .none
  · cases eq_of_beq e; exact .bool _
  · cases eq_of_beq e; exact .int _ _
  · cases isNm_eq e; exact .str _ _
  · split at e
    · rename_i a T items n sl hl
      simp only [Bool.and_eq_true, beq_iff_eq, Array.isEmpty_iff] at e
      obtain ⟨⟨rfl, rfl⟩, rfl⟩ := e
      exact .tup (items := #[]) (X _ _ hl) .nil
    · cases e
  · cases e
theorem chkVs_sound {h : Heap} (X : C.K.In h) : ∀ {xs : List XVal} {vs : List Value}, chkVs C.K xs vs = true → All2 (VR C φ st h) vs xs
  | [], [], _ => .nil
  | x :: xs, v :: vs, e => by
    simp only [chkVs, Bool.and_eq_true] at e
    exact .cons (chkV_sound X e.1) (chkVs_sound X e.2)
  | [], _ :: _, e => by simp [chkVs] at e
  | _ :: _, [], e => by simp [chkVs] at e
theorem zip_all2 {P : Value → XVal → Prop} : ∀ {ps : List String} {vs : List Value} {xs : List XVal}, All2 P vs xs → All2 (fun (kv : Str × Value) (e : String × XVal) => kv.1 = S e.1 ∧ P kv.2 e.2) ((ps.map S).zip vs) (ps.zip xs)
  | [], _, _, _ => .nil
  | p :: ps, _, _, .nil => .nil
  | p :: ps, _, _, .cons a b => .cons ⟨rfl, a⟩ (zip_all2 b)
theorem look_all2 {P : Value → XVal → Prop} {x : String} {v : XVal} : ∀ {kvs : List (Str × Value)} {es : List (String × XVal)}, All2 (fun kv e => kv.1 = S e.1 ∧ P kv.2 e.2) kvs es → lookupS x es = some v → ∃ y, kvs.lookup (S x) = some y ∧ P y v
  | _, _, .nil, h => nomatch h
  | _, _, .cons (a := kv) (b := e) (l := l) (m := m) ⟨a1, a2⟩ r, h => by
    obtain ⟨k1, y1⟩ := kv
    obtain ⟨k2, x2⟩ := e
    dsimp only at a1 a2
    subst a1
    have h : (if k2 = x then some x2 else lookupS x m) = some v := h
    by_cases q : k2 = x
    · subst q
      rw [if_pos rfl] at h
      cases h
      exact ⟨y1, by simp, a2⟩
    · rw [if_neg q] at h
      have : (S x == S k2) = false := by
        have : S x ≠ S k2 := fun z => q (S_inj z).symm
        simpa using this
      rw [List.lookup_cons, this]
      exact look_all2 r h
theorem lookup_mem {n : Str} {v : Value} : ∀ {l : List (Str × Value)}, l.lookup n = some v → (n, v) ∈ l
  | [], h => nomatch h
  | (m, w) :: l, h => by
    rw [List.lookup_cons] at h
    by_cases q : n = m
    · subst q; simp at h; subst h; exact .head _
    · have : (n == m) = false := by simpa using q
      rw [this] at h
      exact .tail _ (lookup_mem h)
theorem lookup_of_mem {n : Str} {v : Value} : ∀ {l : List (Str × Value)}, (l.map (·.1)).Nodup → (n, v) ∈ l → l.lookup n = some v
  | (m, w) :: l, nd, h => by
    simp only [List.map_cons, List.nodup_cons] at nd
    rw [List.lookup_cons]
    rcases List.mem_cons.mp h with z | z
    · cases z; simp
    · have : (n == m) = false := by
        have : n ≠ m := fun e => nd.1 (e ▸ List.mem_map.mpr ⟨_, z, rfl⟩)
        simpa using this
      rw [this]
      exact lookup_of_mem nd.2 z
theorem lookup_rev {n : Str} {v : Value} {l : List (Str × Value)} (nd : (l.map (·.1)).Nodup) (h : l.lookup n = some v) : l.reverse.lookup n = some v :=
  lookup_of_mem (by rw [List.map_reverse]; exact (List.reverse_perm _).nodup_iff.mpr nd) (List.mem_reverse.mpr (lookup_mem h))
structure Base (C : XC) : Prop where
  kin : C.K.In C.h₀
  lim : C.h₀.NoLimit
theorem In_of0 (X : Base C) (W : Wd C φ st s.heap) : C.K.In s.heap := fun b o z => W.base b o (X.kin b o z)
theorem enter_plain (X : Base C) {a : Addr} {fn : XFn} {fd : FuncData} {oc : Value} {od : Option Addr} {sl : Array (Option Value)} (hk : C.K.lookup a = some ⟨oc, od, .func fd, sl⟩) {body : List Stmt} (hbody : fd.body = .stmts body)
    (h1 : fd.params.posonlyargs = []) (h2 : fd.params.kwonlyargs = []) (h3 : fd.params.vararg = none) (h4 : fd.params.kwarg = none) (hps : fd.params.args.map (·.arg) = fn.params.map S) (nd : (fn.params.map S).Nodup)
    (hdl : fn.dflts.length ≤ fn.params.length) (hd : chkD C.K fn.dflts fd.defaults = true) (hcode : chkCode C.K fd.qualname fd.code = true) (hco : fd.scope.isCoroutine = false) (hgen : fd.scope.isGenerator = false) (hkind : fd.scope.kind = .function)
    (hg : fd.globals = mainGlobals) (hb : fd.builtins = builtinsNs) (hcell : ∀ p ∈ fd.scope.names, p.2 ≠ .cell) (hloc : ∀ p ∈ fn.params, fd.scope.names.lookup (S p) = some .local) : Enter C a fn fd.scope.names body := by
  intro A R φ st s argv args bs hroom W hargs hbs hcont
  have XI := In_of0 X W
  have ho := XI _ _ hk
  have hlen := hargs.length
  unfold bindX at hbs
  split at hbs
  · rename_i hl
    cases hbs
    have ⟨od', dl, hdl', hseq, hdv⟩ : ∃ od' dl, (Option.getD od' #[]).toList = dl ∧ (∀ (M : Model) (A : Around) (E : Value → Shared → Prop) (Q : Option (Array Value) → Shared → Prop), Q od' s → wpAny M A (seqItems? fd.defaults) Q E s) ∧ All2 (VR C φ st s.heap) dl fn.dflts := by
      unfold chkD at hd
      split at hd
      · have hn : fn.dflts = [] := by simpa using hd
        refine ⟨none, [], rfl, fun M A E Q hq => ?_, by rw [hn]; exact .nil⟩
        rename_i e
        rw [e]
        exact wpAny_pure hq
      · rename_i T e
        split at hd
        · rename_i items n _ hT
          refine ⟨some items, items.toList, rfl, fun M A E Q hq => ?_, chkVs_sound XI hd⟩
          rw [e]
          exact wpAny_seqItems (XI _ _ hT) rfl hq
        · cases hd
      · cases hd
    have dlen := hdv.length
    have l1 : argv.length ≤ (fn.params.map S).length := by rw [List.length_map, hlen]; exact hl.1
    have l2 : dl.length ≤ (fn.params.map S).length := by rw [List.length_map, dlen]; exact hdl
    have l3 : (fn.params.map S).length ≤ argv.length + dl.length := by rw [List.length_map, hlen, dlen]; exact hl.2
    have B := binds_plain (s := s) h1 h2 h3 h4 hps hdl' hseq nd l1 l2 l3
    have eq1 : argv.length + dl.length - (fn.params.map S).length = args.length + fn.dflts.length - fn.params.length := by rw [List.length_map, hlen, dlen]
    rw [eq1] at B
    have vals : All2 (VR C φ st s.heap) (argv ++ dl.drop (args.length + fn.dflts.length - fn.params.length)) (args ++ fn.dflts.drop (args.length + fn.dflts.length - fn.params.length)) := hargs.append (hdv.drop _)
    have zips := zip_all2 (ps := fn.params) vals
    have keys : (((fn.params.map S).zip (argv ++ dl.drop (args.length + fn.dflts.length - fn.params.length))).map (·.1)) = fn.params.map S := by
      rw [List.map_fst_zip]
      rw [List.length_append, List.length_drop, List.length_map]
      omega
    obtain ⟨c, oc', vs, t, e1, e2, e3, e4⟩ : s.heap.CodeRec fd.code fd.qualname := by
      unfold chkCode at hcode
      split at hcode
      · rename_i c e
        split at hcode
        · rename_i vs _ hc
          split at hcode
          · rename_i t u hv
            cases eq_of_beq hcode
            exact ⟨c, _, vs, u, e, XI _ _ hc, rfl, hv⟩
          · cases hcode
        · cases hcode
      · cases hcode
    have hlim : s.heap.NoLimit := by
      obtain ⟨mc, q1, q2⟩ := X.lim
      exact ⟨mc, q1.keeps W.base, q2⟩
    refine codeAny_call_def hroom ho rfl hlim ⟨c, oc', vs, t, e1, e2, e3, e4⟩ hbody B hcell (fun x hx => ?_) (fun h₀ hns hkeep => ?_) hco hgen hkind
    · have := (List.of_mem_zip hx).1
      obtain ⟨p, hp, hpe⟩ := List.mem_map.mp this
      rw [← hpe]; exact hloc p hp
    · obtain ⟨oL, esL, epL, hL, _⟩ := ns_obj hns
      have hsz : s.heap.objs.size ≤ h₀.objs.size := Nat.le_of_lt (Heap.lt_size hL)
      obtain ⟨W', ev'⟩ := W.more hkeep hsz
      have P : Post C φ st s [] φ st { s with heap := h₀, toks := s.toks + ((fn.params.map S).zip (argv ++ dl.drop (args.length + fn.dflts.length - fn.params.length))).length } := ⟨⟨_, _, rfl⟩, W', ev'⟩
      refine wpAny_mono (hcont _ (callEnv fd s.heap.objs.size a) ⟨hkind, rfl, hg, hb, fun n hn => ?_⟩ ⟨⟨_, hns, fun x v hx _ => ?_⟩, fun x v hx hkx => ?_, W.fresh (Nat.le_refl _), W.size⟩ P (Nat.le_refl _)) (fun _ _ h => h) fun _ _ h => h.elim
      · exfalso
        obtain ⟨l1, l2, e, _⟩ := List.lookup_eq_some_iff.mp hn
        exact hcell (n, .cell) (by rw [e]; simp) rfl
      · obtain ⟨y, hy, hv⟩ := look_all2 zips hx
        exact ⟨y, lookup_rev (by rw [keys]; exact nd) hy, VR.mono W ExOk.nil ev' hv⟩
      · exfalso
        obtain ⟨y, hy, hv⟩ := look_all2 zips hx
        have hm := (List.of_mem_zip (lookup_mem hy)).1
        obtain ⟨p, hp, hpe⟩ := List.mem_map.mp hm
        have := hloc p hp
        rw [hpe] at this
        have e : (callEnv fd s.heap.objs.size a).kindOf (S x) = some .local := this
        rw [e] at hkx
        rcases hkx with hkx | hkx <;> cases hkx
  · cases hbs
end
end Mine
end

section
set_option maxRecDepth 100000
namespace Mine
open PySem PySem.W PySem.Calls PyProof.Rows PySem.SeqAt
theorem bindL_off {k : Str → Option NameKind} {n : Str} : ∀ {l : List (Str × Value)} {m : Str → Option Value}, n ∉ l.map (·.1) → bindL k l m n = m n ∧ bindC k l m n = m n
  | [], m, _ => ⟨rfl, rfl⟩
  | (a, v) :: l, m, h => by
    simp only [List.map_cons, List.mem_cons, not_or] at h
    unfold bindL bindC
    rw [(bindL_off h.2).1, (bindL_off h.2).2]
    constructor <;> split <;> simp [h.1]
theorem bindL_at {k : Str → Option NameKind} {n : Str} {y : Value} : ∀ {l : List (Str × Value)} {m m' : Str → Option Value}, (l.map (·.1)).Nodup → l.lookup n = some y → (k n = some .local → bindL k l m n = some y) ∧ (k n ≠ some .local → bindC k l m' n = some y)
  | (a, v) :: l, m, m', nd, h => by
    simp only [List.map_cons, List.nodup_cons] at nd
    rw [List.lookup_cons] at h
    unfold bindL bindC
    by_cases q : n = a
    · subst q
      simp only [beq_self_eq_true] at h
      cases h
      rw [(bindL_off nd.1).1, (bindL_off nd.1).2]
      exact ⟨fun e => by rw [if_pos e]; simp, fun e => by rw [if_neg e]; simp⟩
    · have : (n == a) = false := by simpa using q
      rw [this] at h
      exact bindL_at nd.2 h
theorem cells_keys : ∀ (names : List (Str × NameKind)) (n m : Nat) (a b : List (Str × Addr)), a.map (·.1) = b.map (·.1) → (cellsFrom n names a).map (·.1) = (cellsFrom m names b).map (·.1)
  | [], n, m, a, b, h => h
  | (x, k) :: r, n, m, a, b, h => by
    unfold cellsFrom
    split
    · exact cells_keys r _ _ _ _ (by simp [h])
    · exact cells_keys r _ _ _ _ h
theorem lookupA_some_iff {n : Str} : ∀ {l : List (Str × Addr)}, (l.lookup n).isSome = true ↔ n ∈ l.map (·.1)
  | [] => by simp
  | (m, v) :: l => by
    rw [List.lookup_cons]
    by_cases q : n = m
    · subst q; simp
    · have : (n == m) = false := by simpa using q
      simp only [this]
      rw [lookupA_some_iff (l := l)]
      simp [q]
section
variable {C : XC} {φ : Lay} {st : XSt} {s : Shared}
theorem code_rec {h : Heap} (XI : C.K.In h) {fd : FuncData} (hcode : chkCode C.K fd.qualname fd.code = true) : h.CodeRec fd.code fd.qualname := by
  unfold chkCode at hcode
  split at hcode
  · rename_i c e
    split at hcode
    · rename_i vs _ hc
      split at hcode
      · rename_i t u hv
        cases eq_of_beq hcode
        exact ⟨c, _, vs, u, e, XI _ _ hc, rfl, hv⟩
      · cases hcode
    · cases hcode
  · cases hcode
theorem enter_cells (X : Base C) {a : Addr} {fn : XFn} {fd : FuncData} {oc : Value} {od : Option Addr} {sl : Array (Option Value)} (hk : C.K.lookup a = some ⟨oc, od, .func fd, sl⟩) {body : List Stmt} (hbody : fd.body = .stmts body)
    (h1 : fd.params.posonlyargs = []) (h2 : fd.params.kwonlyargs = []) (h3 : fd.params.vararg = none) (h4 : fd.params.kwarg = none) (hps : fd.params.args.map (·.arg) = fn.params.map S) (nd : (fn.params.map S).Nodup)
    (hdl : fn.dflts = []) (hd : fd.defaults = .none) (hcode : chkCode C.K fd.qualname fd.code = true) (hco : fd.scope.isCoroutine = false) (hgen : fd.scope.isGenerator = false) (hkind : fd.scope.kind = .function)
    (hg : fd.globals = mainGlobals) (hb : fd.builtins = builtinsNs) (hclo : fd.closure = []) (hcell : ∀ p ∈ fd.scope.names, p.2 = .cell → p.1 ∈ fn.params.map S)
    (hloc : ∀ p ∈ fn.params, fd.scope.names.lookup (S p) = some .local ∨ (fd.scope.names.lookup (S p) = some .cell ∧ ((cellsFrom 0 fd.scope.names []).lookup (S p)).isSome = true)) : Enter C a fn fd.scope.names body := by
  intro A R φ st s argv args bs hroom W hargs hbs hcont
  have XI := In_of0 X W
  have ho := XI _ _ hk
  have hlen := hargs.length
  unfold bindX at hbs
  split at hbs
  · rename_i hl
    cases hbs
    rw [hdl] at hl hcont
    simp only [List.drop_nil, List.append_nil, List.length_nil, Nat.add_zero] at hl hcont
    have B := binds_eq (vals := argv) h1 h2 h3 h4 hps hd nd (by rw [List.length_map, hlen]; omega)
    have zips := zip_all2 (ps := fn.params) hargs
    have keys : (((fn.params.map S).zip argv).map (·.1)) = fn.params.map S := by
      rw [List.map_fst_zip]; rw [List.length_map]; omega
    have hlim : s.heap.NoLimit := by
      obtain ⟨mc, q1, q2⟩ := X.lim
      exact ⟨mc, q1.keeps W.base, q2⟩
    have some_iff : ∀ n, ((cellsFrom (s.heap.objs.size + 1) fd.scope.names []).lookup n).isSome = true ↔ ((cellsFrom 0 fd.scope.names []).lookup n).isSome = true := by
      intro n; rw [lookupA_some_iff, lookupA_some_iff, cells_keys fd.scope.names _ 0 [] [] rfl]
    refine codeAny_call_cells hroom ho rfl hlim (code_rec XI hcode) hbody B hclo (fun x hx => ?_) (fun s₁ ic => ?_) hco hgen hkind
    · have := (List.of_mem_zip hx).1
      obtain ⟨p, hp, hpe⟩ := List.mem_map.mp this
      rw [← hpe]
      rcases hloc p hp with q | ⟨q1, q2⟩
      · exact .inl q
      · exact .inr ⟨q1, (some_iff _).mpr q2⟩
    · obtain ⟨h₀, t₀, rfl⟩ := ic.toInCall.same
      have hns := ic.toInCall.ns
      have hkeep := ic.toInCall.keep
      obtain ⟨oL, esL, epL, hL, _⟩ := ns_obj hns
      have hsz : s.heap.objs.size ≤ h₀.objs.size := Nat.le_of_lt (Heap.lt_size hL)
      obtain ⟨W', ev'⟩ := W.more hkeep hsz
      have P : Post C φ st s [] φ st { s with heap := h₀, toks := t₀ } := ⟨⟨_, _, rfl⟩, W', ev'⟩
      have kof : ∀ n, (callEnvC fd s.heap.objs.size a).kindOf n = fd.scope.names.lookup n := fun _ => rfl
      refine wpAny_mono (hcont _ (callEnvC fd s.heap.objs.size a) ⟨hkind, rfl, hg, hb, fun n hn => ?_⟩ ⟨⟨_, hns, fun x v hx hkx => ?_⟩, fun x v hx hkx => ?_, W.fresh (Nat.le_refl _), W.size⟩ P (Nat.le_refl _)) (fun _ _ h => h) fun _ _ h => h.elim
      · obtain ⟨l1, l2, e, _⟩ := List.lookup_eq_some_iff.mp hn
        obtain ⟨p, hp, hpe⟩ := List.mem_map.mp (hcell (n, .cell) (by rw [e]; simp) rfl)
        dsimp only at hpe
        rcases hloc p hp with q | ⟨q1, q2⟩
        · rw [hpe, hn] at q; cases q
        · rw [hpe] at q2
          exact Option.isSome_iff_exists.mp ((some_iff n).mpr q2)
      · obtain ⟨y, hy, hv⟩ := look_all2 zips hx
        exact ⟨y, (bindL_at (m' := fun _ => none) (by rw [keys]; exact nd) hy).1 hkx, VR.mono W ExOk.nil ev' hv⟩
      · obtain ⟨y, hy, hv⟩ := look_all2 zips hx
        have hm := (List.of_mem_zip (lookup_mem hy)).1
        obtain ⟨p, hp, hpe⟩ := List.mem_map.mp hm
        have hp' := hloc p hp
        rw [hpe] at hp'
        rcases hp' with q | ⟨q1, q2⟩
        · have : (callEnvC fd s.heap.objs.size a).kindOf (S x) = some .local := q
          rw [this] at hkx
          rcases hkx with hkx | hkx <;> cases hkx
        · obtain ⟨c, hc⟩ := Option.isSome_iff_exists.mp ((some_iff (S x)).mpr q2)
          have hcm := (bindL_at (k := (callEnvC fd s.heap.objs.size a).kindOf) (m := fun _ => none) (m' := fun _ => none) (by rw [keys]; exact nd) hy).2 (by rw [kof, q1]; simp)
          refine ⟨c, y, hc, ?_, VR.mono W ExOk.nil ev' hv, ?_⟩
          · have := ic.cell (S x) c hc
            rw [hcm] at this; exact this
          · have hab := ic.above _ _ (mem_of_lookup hc)
            exact W.fresh (Nat.le_of_lt hab)
  · cases hbs
theorem enter_of (X : Base C) {a : Addr} {fn : XFn} (e : chkFn C.K fn a = true) : ∃ sc body, chkS fn.body sc body = true ∧ Enter C a fn sc body := by
  unfold chkFn at e
  split at e
  · rename_i oc od fd sl hk
    unfold chkFd at e
    simp only [Bool.and_eq_true, List.isEmpty_iff, Option.isNone_iff_eq_none, beq_iff_eq, Bool.not_eq_true'] at e
    obtain ⟨⟨⟨⟨⟨⟨⟨⟨⟨⟨⟨⟨⟨⟨⟨⟨h1, h2⟩, h3⟩, h4⟩, h5⟩, h6⟩, h7⟩, h8⟩, h9⟩, h10⟩, h11⟩, h12⟩, h13⟩, h14⟩, h15⟩, h16⟩, h17⟩ := e
    split at h16
    · rename_i body hbody
      refine ⟨fd.scope.names, body, h16, ?_⟩
      rcases Bool.or_eq_true _ _ ▸ h17 with q | q
      · simp only [Bool.and_eq_true, List.all_eq_true, beq_iff_eq, bne_iff_ne] at q
        exact enter_plain X hk hbody h1 h2 h3 h4 h5 (namesOk_nodup h6) (Nat.le_of_ble_eq_true h7) h8 h9 h10 h11 h12 h13 h14 q.1 q.2
      · simp only [Bool.and_eq_true, List.all_eq_true, beq_iff_eq, bne_iff_ne, Bool.or_eq_true, List.isEmpty_iff, List.contains_iff_mem] at q
        obtain ⟨⟨⟨q1, q2⟩, q3⟩, q4⟩ := q
        exact enter_cells X hk hbody h1 h2 h3 h4 h5 (namesOk_nodup h6) q1 q2 h9 h10 h11 h12 h13 h14 h15 (fun p hp hc => (q3 p hp).elim (fun z => (z hc).elim) id) (fun p hp => q4 p hp)
    · cases h16
  · cases e
end
end Mine
end

section
set_option maxRecDepth 100000
namespace Mine
open PySem PySem.W PySem.Calls PyProof.Rows PySem.SeqAt
noncomputable def globAt (K : Frag) (x : String) : Option Addr := match nsIn K mainGlobals (S x) with
  | some (some (.ref a)) => some a
  | _ => none
noncomputable def methAt (K : Frag) (c m : String) : Option Addr := match globAt K c with
  | some k => match findIn K (.ref k) (S m) with
    | some (some (.ref f)) => some f
    | _ => none
  | none => none
noncomputable def spotOf (K : Frag) (f : String) : Option Addr := match progM.lookup f with
  | some (c, m) => methAt K c m
  | none => globAt K f
noncomputable def spots (K : Frag) : List (String × Addr) := (gsL ++ progM.map (·.1)).filterMap fun f => (spotOf K f).map (f, ·)
noncomputable def clsSpots (K : Frag) : List (String × Addr) := csL.filterMap fun c => (globAt K c).map (c, ·)
noncomputable def chkCls (K : Frag) (fa : List (String × Addr)) (c : String) (k : Addr) : Bool :=
  plainGet K k Str.empty && hasDictIn K k && (asL.all fun a => findIn K (.ref k) (S a) == some none) && (findIn K (.ref k) "__setattr__" == some (some (.builtin "object.__setattr__"))) && plainOver K k
  && (msL.all fun n => match fa.lookup (c ++ "." ++ n) with
    | none => true
    | some f => (findIn K (.ref k) (S n) == some (some (.ref f))) && isFn K (.ref f) && keepIn K (.ref f))
  && makesIn K k
  && (match fa.lookup (c ++ ".__init__") with
    | none => true
    | some f => (findIn K (.ref k) "__init__" == some (some (.ref f))) && (typeIn K (.ref f) == some (.type "function")))
  && keepIn K (.ref k)
noncomputable def chkAll (K : Frag) : Bool :=
  (K.any fun p => Nat.ble 4 p.1)
  && (gsL.all fun f => match globAt K f with | some a => ((spots K).lookup f == some a) && keepIn K (.ref a) | none => false)
  && (csL.all fun c => match globAt K c with | some a => (clsSpots K).lookup c == some a | none => false)
  && (nsIn K mainGlobals (S "len") == some none) && (nsIn K mainGlobals (S "range") == some none) && (nsIn K mainGlobals (S "list") == some none)
  && ((clsSpots K).all fun p => chkCls K (spots K) p.1 p.2)
  && ((spots K).all fun p => keepIn K (.ref p.2))
  && (progT.all fun p => match (spots K).lookup p.1 with | some a => chkFn K p.2 a | none => false)
noncomputable def progX (prog : Program) (w : World) (K : Frag) (h₀ : Heap) : XC := { prog := prog, w := w, K := K, h₀ := h₀, fa := fun f => (spots K).lookup f, ca := fun c => (clsSpots K).lookup c }
theorem lookup_memG {α β : Type} [BEq α] [LawfulBEq α] {a : α} {b : β} : ∀ {l : List (α × β)}, l.lookup a = some b → (a, b) ∈ l
  | [], h => nomatch h
  | (m, w) :: l, h => by
    rw [List.lookup_cons] at h
    cases q : a == m with
    | true => rw [q] at h; cases h; cases eq_of_beq q; exact .head _
    | false => rw [q] at h; exact .tail _ (lookup_memG h)
theorem cok_of {prog : Program} {w : World} {K : Frag} {h₀ : Heap} {mg mb : Str → Option Value} (hk : K.In h₀) (g : h₀.Ns mainGlobals mg) (b : h₀.Ns builtinsNs mb) (nl : h₀.NoLimit)
    (b1 : mb (S "len") = some (.builtin "len")) (b2 : mb (S "range") = some (.type "range")) (b3 : mb (S "list") = some (.type "list")) (e : chkAll K = true) : COk (progX prog w K h₀) := by
  unfold chkAll at e
  simp only [Bool.and_eq_true, List.all_eq_true, beq_iff_eq, List.any_eq_true] at e
  obtain ⟨⟨⟨⟨⟨⟨⟨⟨⟨p0, hp0, e0⟩, e1⟩, e2⟩, e3⟩, e4⟩, e5⟩, e6⟩, e7⟩, e8⟩ := e
  have glob_mg : ∀ x a, globAt K x = some a → mg (S x) = some (.ref a) := by
    intro x a h
    unfold globAt at h
    split at h
    · rename_i q; cases h; exact mg_of hk g q
    · cases h
  refine ⟨hk, nl, ?_, ⟨mg, mb, g, b, fun f hf => ?_, fun c hc => ?_, ⟨mg_none_of hk g e3, b1⟩, ⟨mg_none_of hk g e4, b2⟩, ⟨mg_none_of hk g e5, b3⟩⟩, fun c k h => ?_, fun f a h => ?_, fun f fn h => ?_⟩
  · -- the heap is big
    show 4 ≤ h₀.objs.size
    have : ∃ o, K.lookup p0.1 = some o := by
      have : (K.lookup p0.1).isSome = true := by
        rw [List.lookup_isSome_iff]
        exact ⟨p0, hp0, by simp⟩
      exact Option.isSome_iff_exists.mp this
    obtain ⟨o, ho⟩ := this
    exact Nat.le_trans (Nat.le_of_ble_eq_true e0) (Nat.le_of_lt (Heap.lt_size (hk _ _ ho)))
  · have := e1 f hf
    split at this
    · rename_i a q
      simp only [Bool.and_eq_true, beq_iff_eq] at this
      exact ⟨a, this.1, glob_mg f a q⟩
    · cases this
  · have := e2 c hc
    split at this
    · rename_i a q
      exact ⟨a, eq_of_beq this, glob_mg c a q⟩
    · cases this
  · have := e6 (c, k) (lookup_memG h)
    unfold chkCls at this
    simp only [Bool.and_eq_true, List.all_eq_true, beq_iff_eq] at this
    obtain ⟨⟨⟨⟨⟨⟨⟨⟨q1, q2⟩, q3⟩, q4⟩, q5⟩, q6⟩, q7⟩, q8⟩, q9⟩ := this
    refine ⟨fun n => q1, q2, q3, q4, q5, fun n hn f hf => ?_, q7, fun f hf => ?_, q9⟩
    · have := q6 n hn
      rw [show (spots K).lookup (c ++ "." ++ n) = some f from hf] at this
      simp only [Bool.and_eq_true, beq_iff_eq] at this
      exact ⟨this.1.1, this.1.2, this.2⟩
    · rw [show (spots K).lookup (c ++ ".__init__") = some f from hf] at q8
      simp only [Bool.and_eq_true, beq_iff_eq] at q8
      exact q8
  · exact e7 (f, a) (lookup_memG h)
  · have := e8 (f, fn) (lookup_memG h)
    dsimp only at this
    split at this
    · rename_i a q
      obtain ⟨sc, body, h1, h2⟩ := enter_of (C := progX prog w K h₀) ⟨hk, nl⟩ this
      exact ⟨a, sc, body, q, h1, h2⟩
    · cases this
theorem law_call {prog : Program} {w : World} {K : Frag} {s : Shared} {A : Around} {mg mb : Str → Option Value} (hk : K.In s.heap) (g : s.heap.Ns mainGlobals mg) (b : s.heap.Ns builtinsNs mb) (nl : s.heap.NoLimit)
    (b1 : mb (S "len") = some (.builtin "len")) (b2 : mb (S "range") = some (.type "range")) (b3 : mb (S "list") = some (.type "list")) (e : chkAll K = true)
    {fa l : Addr} {vs : List Value} {ns : List Int} (hf : mg (S "law") = some (.ref fa)) (hl : s.heap.IsList l vs.toArray) (hi : IntsAre vs ns) (hn : ns.length ≤ 63) (h1 : A.handled = none) (h2 : A.depth ≤ 309) (h3 : A.units ≤ 90)
    (hlaw : (spots K).lookup "law" = globAt K "law")
    {st' : XSt} {x : XVal} (hrun : CV 300 "law" [.scr ns] XSt.nil x st') {R : Result → Shared → Prop}
    (hR : ∀ y s' φ', VR (progX prog w K s.heap) φ' st' s'.heap y x → (∀ b o, s.heap.get? b = some o → s'.heap.get? b = some o) → (∃ h t, s' = { s with heap := h, toks := t }) → R (.ok (.ret y)) s') :
    codeAny (model prog w) A (.call (.ref fa) ⟨[.ref l], []⟩) R s := by
  have X := cok_of (prog := prog) (w := w) hk g b nl b1 b2 b3 e
  obtain ⟨a, ha, k⟩ := hrun _ X
  have ha' : a = fa := by
    have h0 : (spots K).lookup "law" = some a := ha
    rw [hlaw] at h0
    unfold globAt at h0
    split at h0
    · rename_i q
      cases h0
      have := mg_of hk g q
      rw [hf] at this
      cases this
      rfl
    · cases h0
  subst ha'
  have no : ∀ k : Place, ¬ Live XSt.nil k := by
    rintro ⟨r, i, b⟩ h
    cases b with
    | true => obtain ⟨c, fs, q⟩ := h; cases q
    | false => exact Nat.not_lt_zero _ h
  have W : Wd (progX prog w K s.heap) ⟨fun _ _ => 0, fun _ _ => 0⟩ XSt.nil s.heap := ⟨fun r i o q => (by cases q), fun k _ a => (no k a).elim, fun k a => (no k a).elim, fun _ _ q => q, Nat.le_refl _⟩
  refine codeAny_mono (k A _ s [.ref l] ⟨h1, by omega, by omega⟩ W (.cons (.scr hl hi (by unfold LIM; omega)) .nil)) fun r s' ⟨y, hr, φ', P, v⟩ => ?_
  subst hr
  exact hR y s' φ' v P.wd.base P.same
theorem G.enter {n : Nat} {f : String} {args : List XVal} {fn : XFn} {bs : List (String × XVal)} {st : XSt} {Q : XVal → XSt → Prop} (h1 : progT.lookup f = some fn) (h2 : bindX fn.params fn.dflts args = some bs) (k : Bx n fn.body (envOf bs) st fun fl _ st' => Q fl.val st') : Cl n f args st Q := by
  obtain ⟨fl, env', st', k, q⟩ := k
  refine ⟨fl.val, st', fun C X => ?_, q⟩
  obtain ⟨a, sc, body, ha, hchk, ent⟩ := X.fn f fn h1
  refine ⟨a, ha, fun A φ s argv room W hargs => ent A _ φ st s argv args bs (by show A.depth < 1000; have := room.depth; omega) W hargs h2 fun s₁ penv K F P hlt => ?_⟩
  have room' : Room (A.deeper penv) n := ⟨room.handled, by have := room.depth; show A.depth + 1 + n ≤ _; omega, by have := room.units; show A.units + 3 + 10 * n ≤ _; omega⟩
  refine wpAny_mono (k C X _ _ _ penv sc body (fun _ _ => False) ⟨room', P.wd, K, F⟩ hchk) (fun fv s' ⟨φ2, P2, fr, F2⟩ => ?_) fun _ _ e => e
  have P3 := (P.weak0 (ex' := [penv.locals])).trans P2
  refine ⟨_, rfl, φ2, ⟨P3.same, P3.wd, P3.ev.drop fun b hb => by cases List.mem_singleton.mp hb; exact .inr hlt⟩, ?_⟩
  cases fr with
  | next => exact .none
  | ret h => exact h
end Mine
end

section
set_option maxRecDepth 100000
namespace Mine
open PySem PySem.W PySem.Calls PyProof.Rows PySem.SeqAt
section
variable {n : Nat} {env : XEnv} {st st1 st2 : XSt} {e1 e2 : XE} {xs : List XVal} {r k : Nat}
theorem E.notL (h : EV n env st (.sub e1 e2) (.ref r k) st1) (hx : (st1 r)[k]? = some (.list xs)) : EV n env st (.not (.sub e1 e2)) (.bool (!!xs.isEmpty)) st1 := by
  intro C X A φ s penv sc x E cx hc
  obtain ⟨h1, h2, h3⟩ := an3 hc
  obtain ⟨o, y, _, rfl⟩ := inv3 h1
  have : o = .Not := by cases o <;> first | rfl | exact absurd h2 Bool.false_ne_true
  cases this
  have tr : ∀ {Q : Bool → Shared → Prop} {φ' : Lay} {s' : Shared} {v : Value}, Wd C φ' st1 s'.heap → VR C φ' st1 s'.heap v (.ref r k) → (∀ t, Q (!xs.isEmpty) { s' with toks := t }) → wpAny (model C.prog C.w) A (truthy v) Q E s' := fun W v h => by
    rw [v.ref_inv.1]
    obtain ⟨items, n, hl, hs, hn, l1⟩ := W.list hx
    refine wpAny_truthy_list (isL_of hl) (by rw [l1]; unfold LIM at hn; omega) ?_
    have : items.isEmpty = xs.isEmpty := by
      unfold Array.isEmpty; rw [l1]; cases xs <;> rfl
    rw [this]; exact h _
  refine ⟨UnaryOp_ (h.use X cx h3 fun φ' s' y p v c' => not_of (tr c'.wd v fun t => ⟨φ', p.trans (.toks c'.wd t), .bool _⟩)), fun b hb => ?_⟩
  cases hb
  refine isTrue_not (isTrue_plain (h.use X cx h3 fun φ' s' y p v c' => tr c'.wd v fun t => ⟨?_, φ', p.trans (.toks c'.wd t)⟩) (isTrue_eq (tag_knot (k := 21) (an h3).1 rfl) _ _))
  rfl
theorem E.neL {ys : List XVal} {q l : Nat} (h1 : EV n env st e1 (.ref r k) st1) (h2 : EV n env st1 e2 (.ref q l) st2) (h3 : (st2 r)[k]? = some (.list xs)) (h4 : (st2 q)[l]? = some (.list ys)) (hn : (xs.length != ys.length) = true) : EV n env st (.cmp .ne e1 e2) (.bool true) st2 :=
  E.cmp_ h1 h2 fun C φ s A E x y Q X W hu ha hb h => by
    rw [ha.ref_inv.1, hb.ref_inv.1]
    obtain ⟨items, m, hl1, hs, _, l1⟩ := W.list h3
    obtain ⟨items2, m2, hl2, hs2, _, l2⟩ := W.list h4
    exact RcNeAt.lists_lengths (isL_of hl1) (isL_of hl2) (by rw [l1, l2]; exact hn) (Nat.lt_of_le_of_lt (Nat.le_add_right _ 500) hu) _ _ _ _ (h s.toks)
end
end Mine
end

section
set_option maxRecDepth 100000
set_option genInjectivity false
namespace Mine
structure Nd where
  kind : String
  space : String
  name : String
  attrs : List (String × String)
  text : String
  up : Int
structure AB where
  nodes : List Nd
  tm : List Int
  items : List Int
  fitems : List Int
  modes : List String
  errors : List (String × String)
  mode : String
  original : String
  head : Int
  frameOk : Bool
  scripting : Bool
  wish : String
  ack : Bool
  done : Bool
noncomputable def pairV (p : String × String) : XVal := .tup [.str p.1, .str p.2]
noncomputable def attrsV (l : List (String × String)) : XVal := .tup (l.map pairV)
noncomputable def kidsFrom (l : List Nd) (k : Nat) (i : Int) : List Int := l.rec (fun _ => []) (fun n _ ih k => if n.up = i then (k : Int) :: ih (k + 1) else ih (k + 1)) k
noncomputable def bF (A : AB) : List (String × XVal) := [("rules", .ref 21 0), ("tree", .ref 2 0), ("stack", .ref 3 0), ("formatting", .ref 4 0), ("mode", .str A.mode), ("original", .str A.original), ("modes", .ref 17 0),
  ("head", .int A.head), ("form", .int (-1)), ("owners", .ref 18 0), ("is_frameset_ok", .bool A.frameOk), ("is_scripting", .bool A.scripting), ("is_foster", .bool false), ("context", .int (-1)), ("quirks", .str "no-quirks"),
  ("errors", .ref 19 0), ("pending", .ref 20 0), ("wish", .str A.wish), ("is_skipping", .bool false), ("is_acknowledged", .bool A.ack), ("is_done", .bool A.done)]
noncomputable def tF : List (String × XVal) := [("kinds", .ref 5 0), ("spaces", .ref 6 0), ("names", .ref 7 0), ("attrs", .ref 8 0), ("texts", .ref 9 0), ("parents", .ref 10 0), ("children", .ref 11 0), ("contents", .ref 12 0)]
noncomputable def rulesD : List (String × XVal) := [("in head", .fn "in_head"), ("in head noscript", .fn "in_head_noscript"), ("text", .fn "text_mode"), ("after head", .fn "_law_after_head"), ("in template", .fn "_law_in_template"), ("in body", .fn "_law_in_body")]
noncomputable def errV (p : String × String) : XVal := .tup [.str p.1, .str p.2]
noncomputable def refs (q n : Nat) : List XVal := (List.range n).map fun i => .ref q i
noncomputable def kidsO (f : Int → XVal) (l : List Nd) : List XObj := (List.range l.length).map fun (i : Nat) => .list ((kidsFrom l 0 (i : Int)).map f)
noncomputable def tmD (l : List Int) : List (Int × XVal) := l.map fun t => (t, .int (t + 1))
noncomputable def bL (A : AB) : List (List XObj) := [[], [.inst "Builder" (bF A)], [.inst "Tree" tF], [.inst "OpenStack" [("tree", .ref 2 0), ("items", .ref 15 0)]], [.inst "Formatting" [("tree", .ref 2 0), ("items", .ref 16 0)]],
  [.list (A.nodes.map fun n => .str n.kind)], [.list (A.nodes.map fun n => .str n.space)], [.list (A.nodes.map fun n => .str n.name)], [.list (refs 13 A.nodes.length)], [.list (A.nodes.map fun n => .str n.text)], [.list (A.nodes.map fun n => .int n.up)],
  [.list (refs 14 A.nodes.length)], [.idict (tmD A.tm)], A.nodes.map fun n => .list (n.attrs.map pairV), kidsO .int A.nodes, [.list (A.items.map .int)], [.list (A.fitems.map .int)], [.list (A.modes.map .str)], [.idict []], [.list (A.errors.map errV)], [.list []], [.sdict rulesD]]
noncomputable def over (b : List (List XObj)) (r : XSt) : XSt := fun q => (b[q]?).getD (r q)
noncomputable def BSt (A : AB) (r : XSt) : XSt := over (bL A) r
section
variable {b b' : List (List XObj)} {r : XSt} {k i : Nat} {o : XObj} {l : List XObj} {A A' : AB}
theorem over_put {st : XSt} (hk : k < b.length) (h : ∀ q, st q = if q = k then l else over b r q) : st = over (b.set k l) r := by
  funext q
  rw [h]
  unfold over
  rw [List.getElem?_set]
  by_cases e : q = k
  · subst e; rw [if_pos rfl, if_pos rfl, if_pos hk]; rfl
  · rw [if_neg e, if_neg (Ne.symm e)]
theorem over_set (h : b[k]? = some l) : (over b r).set k i o = over (b.set k (l.set i o)) r := over_put (List.getElem?_eq_some_iff.mp h).1 fun q => by
  unfold XSt.set
  by_cases e : q = k
  · subst e; rw [if_pos rfl, if_pos rfl]; unfold over; rw [h]; rfl
  · rw [if_neg e, if_neg e]
theorem over_push (h : b[k]? = some l) : (over b r).push k o = over (b.set k (l ++ [o])) r := over_put (List.getElem?_eq_some_iff.mp h).1 fun q => by
  unfold XSt.push
  by_cases e : q = k
  · subst e; rw [if_pos rfl, if_pos rfl]; unfold over; rw [h]; rfl
  · rw [if_neg e, if_neg e]
theorem BSt_set (h : (bL A)[k]? = some l) (e : (bL A).set k (l.set i o) = bL A') : (BSt A r).set k i o = BSt A' r := (over_set h).trans (by rw [e]; rfl)
theorem BSt_push (h : (bL A)[k]? = some l) (e : (bL A).set k (l ++ [o]) = bL A') : (BSt A r).push k o = BSt A' r := (over_push h).trans (by rw [e]; rfl)
end
theorem map_snoc {α β : Type} (f : α → β) (l : List α) (a : α) : l.map f ++ [f a] = (l ++ [a]).map f := by rw [List.map_append]; rfl
section
variable {A : AB} {r : XSt}
theorem st_items {l : List XVal} {is : List Int} (e : l = is.map .int) : (BSt A r).set 15 0 (.list l) = BSt { A with items := is } r := by subst e; exact BSt_set rfl rfl
theorem st_fitems {l : List XVal} {is : List Int} (e : l = is.map .int) : (BSt A r).set 16 0 (.list l) = BSt { A with fitems := is } r := by subst e; exact BSt_set rfl rfl
theorem st_modes {l : List XVal} {is : List String} (e : l = is.map .str) : (BSt A r).set 17 0 (.list l) = BSt { A with modes := is } r := by subst e; exact BSt_set rfl rfl
theorem st_errors {l : List XVal} {is : List (String × String)} (e : l = is.map errV) : (BSt A r).set 19 0 (.list l) = BSt { A with errors := is } r := by subst e; exact BSt_set rfl rfl
theorem st_tm {l : List (Int × XVal)} {is : List Int} (e : l = tmD is) : (BSt A r).set 12 0 (.idict l) = BSt { A with tm := is } r := by subst e; exact BSt_set rfl rfl
theorem sa {A' : AB} {a : String} {v : XVal} (h : storeS a v (bF A) = bF A') (e : (bL A).set 1 [.inst "Builder" (bF A')] = bL A') : setAttrX (BSt A r) (.ref 1 0) a v = some (BSt A' r) := by
  show (if (bF A).length ≤ 100 then some (XObj.inst "Builder" (storeS a v (bF A))) else none).map (fun o => (BSt A r).set 1 0 o) = _
  rw [if_pos (show (bF A).length ≤ 100 from Nat.le_of_ble_eq_true rfl), h]
  exact congrArg some (BSt_set (l := [.inst "Builder" (bF A)]) rfl e)
theorem sa_mode (x : String) : setAttrX (BSt A r) (.ref 1 0) "mode" (.str x) = some (BSt { A with mode := x } r) := sa rfl rfl
theorem sa_original (x : String) : setAttrX (BSt A r) (.ref 1 0) "original" (.str x) = some (BSt { A with original := x } r) := sa rfl rfl
theorem sa_is_frameset_ok (x : Bool) : setAttrX (BSt A r) (.ref 1 0) "is_frameset_ok" (.bool x) = some (BSt { A with frameOk := x } r) := sa rfl rfl
theorem sa_wish (x : String) : setAttrX (BSt A r) (.ref 1 0) "wish" (.str x) = some (BSt { A with wish := x } r) := sa rfl rfl
theorem sa_is_acknowledged (x : Bool) : setAttrX (BSt A r) (.ref 1 0) "is_acknowledged" (.bool x) = some (BSt { A with ack := x } r) := sa rfl rfl
theorem sa_is_done (x : Bool) : setAttrX (BSt A r) (.ref 1 0) "is_done" (.bool x) = some (BSt { A with done := x } r) := sa rfl rfl
theorem sa_head (x : Int) : setAttrX (BSt A r) (.ref 1 0) "head" (.int x) = some (BSt { A with head := x } r) := sa rfl rfl
end
end Mine
end

section
set_option maxRecDepth 100000
namespace Mine
section
variable {A : AB} {r st : XSt} {n q i : Nat} {env : XEnv} {xs : List XVal} {v w : XVal} {k j : Int}
theorem E.to {e : XE} {st1 st2 : XSt} (h : EV n env st e v st1) (q : st1 = st2) : EV n env st e v st2 := q ▸ h
theorem sub_at {k : Nat} (h : getL st q i = some xs) (hk : xs[k]? = some w) : subX st (.ref q i) (.int k) = some w := by
  show ((st q)[i]?).bind _ = _
  rw [getL_some h]
  show seqX xs (k : Int) = _
  unfold seqX
  rw [if_pos (Int.natCast_nonneg k)]; exact hk
theorem sub_last (h : getL st q i = some (xs ++ [w])) : subX st (.ref q i) (.int (-1)) = some w := by
  show ((st q)[i]?).bind _ = _
  rw [getL_some h]
  show (xs ++ [w]).getLast? = _
  rw [List.getLast?_append]; rfl
theorem len_L (h : getL st q i = some xs) : lenX st (.ref q i) = some (xs.length : Int) := by
  show (getL st q i).map _ = _
  rw [h]; rfl
theorem len_I {l : List Int} (h : getL st q i = some (l.map .int)) : lenX st (.ref q i) = some (l.length : Int) := (len_L h).trans (by rw [List.length_map])
theorem sub_I {l : List Int} {m : Nat} (h : getL st q i = some (l.map .int)) (hk : l[m]? = some k) : subX st (.ref q i) (.int m) = some (.int k) := sub_at h (by rw [List.getElem?_map, hk]; rfl)
noncomputable def AB.at (A : AB) (n : Int) (nd : Nd) : Prop := ∃ k : Nat, n = k ∧ A.nodes[k]? = some nd
theorem s_n {α : Type} {l : List α} {nd : α} {f : α → XVal} (g : getL st q i = some (l.map f)) {m : Nat} (h : l[m]? = some nd) : subX st (.ref q i) (.int m) = some (f nd) := sub_at g (by rw [List.getElem?_map, h]; rfl)
theorem s_5 {nd : Nd} (h : A.at k nd) : subX (BSt A r) (.ref 5 0) (.int k) = some (.str nd.kind) := by obtain ⟨m, rfl, h⟩ := h; exact s_n (st := BSt A r) (q := 5) (i := 0) (f := fun n => .str n.kind) rfl h
theorem s_6 {nd : Nd} (h : A.at k nd) : subX (BSt A r) (.ref 6 0) (.int k) = some (.str nd.space) := by obtain ⟨m, rfl, h⟩ := h; exact s_n (st := BSt A r) (q := 6) (i := 0) (f := fun n => .str n.space) rfl h
theorem s_7 {nd : Nd} (h : A.at k nd) : subX (BSt A r) (.ref 7 0) (.int k) = some (.str nd.name) := by obtain ⟨m, rfl, h⟩ := h; exact s_n (st := BSt A r) (q := 7) (i := 0) (f := fun n => .str n.name) rfl h
theorem s_9 {nd : Nd} (h : A.at k nd) : subX (BSt A r) (.ref 9 0) (.int k) = some (.str nd.text) := by obtain ⟨m, rfl, h⟩ := h; exact s_n (st := BSt A r) (q := 9) (i := 0) (f := fun n => .str n.text) rfl h
theorem s_10 {nd : Nd} (h : A.at k nd) : subX (BSt A r) (.ref 10 0) (.int k) = some (.int nd.up) := by obtain ⟨m, rfl, h⟩ := h; exact s_n (st := BSt A r) (q := 10) (i := 0) (f := fun n => .int n.up) rfl h
theorem refs_at {m N : Nat} (h : m < N) : (refs q N)[m]? = some (.ref q m) := by unfold refs; rw [List.getElem?_map, List.getElem?_range h]; rfl
theorem s_11 {m : Nat} (h : m < A.nodes.length) : subX (BSt A r) (.ref 11 0) (.int m) = some (.ref 14 m) := sub_at rfl (refs_at h)
theorem g_14 {m : Nat} (h : m < A.nodes.length) : getL (BSt A r) 14 m = some ((kidsFrom A.nodes 0 (m : Int)).map .int) := getL_at (by
  show (kidsO .int A.nodes)[m]? = _
  unfold kidsO; rw [List.getElem?_map, List.getElem?_range h]; rfl)
theorem AB.at.nonneg {nd : Nd} (h : A.at k nd) : 0 ≤ k := by obtain ⟨m, rfl, _⟩ := h; exact Int.natCast_nonneg m
theorem ne_m1 (h : 0 ≤ k) : decide (k = -1) = false := decide_eq_false fun e => absurd (e ▸ h) (by decide)
theorem current_ok {l : List Int} (h : A.items = l ++ [k]) : CV n "OpenStack.current" [.ref 3 0] (BSt A r) (.int k) (BSt A r) := Cl.is <| by
  have e : (A.items.map XVal.int).length = l.length + 1 := by rw [h, List.length_map, List.length_append]; rfl
  have hl : lenX (BSt A r) (.ref 15 0) = some ((l.length + 1 : Nat) : Int) := (len_L rfl).trans (by rw [e])
  refine G.enter (fn := f_OpenStack_current) rfl rfl (G.iteF (E.cmp (E.len (E.attr (E.loc rfl) rfl) hl) E.cI (c := false) (congrArg some (decide_eq_false (by omega)))) (G.ret (E.sub (E.attr (E.loc rfl) rfl) (E.sbt (E.len (E.attr (E.loc rfl) rfl) hl) E.cI) ?_) ⟨rfl, rfl⟩))
  rw [show ((l.length + 1 : Nat) : Int) - 1 = (l.length : Nat) by omega]
  exact sub_I (l := A.items) rfl (by rw [h]; simp)
theorem push_ok (h : A.items.length < 1000) : CV n "OpenStack.push" [.ref 3 0, .int k] (BSt A r) .none (BSt { A with items := A.items ++ [k] } r) := Cl.is <|
  G.enter (fn := f_OpenStack_push) rfl rfl (G.expr (E.to (E.append (E.attr (E.loc rfl) rfl) rfl (E.loc rfl) rfl (by rw [List.length_map]; exact Nat.lt_trans h (by decide))) (st_items (map_snoc _ _ _))) (G.fin ⟨rfl, rfl⟩))
end
end Mine
end

section
set_option maxRecDepth 100000
namespace Mine
section
variable {A : AB} {r st : XSt} {n q i : Nat} {env : XEnv} {xs : List XVal} {v w : XVal} {k j : Int} {l : List Int} {nd : Nd}
theorem items_snoc (h : A.items = l ++ [k]) : (BSt A r 15)[0]? = some (.list (l.map .int ++ [.int k])) := by
  show some (XObj.list (A.items.map .int)) = _
  rw [h, List.map_append]; rfl
theorem ne0 (h : A.items = l ++ [k]) : decide ((A.items.length : Int) = 0) = false := decide_eq_false fun e => by
  rw [h, List.length_append] at e; cases (Int.ofNat.inj e)
theorem pop_ok (h : A.items = l ++ [k]) : CV n "OpenStack.pop" [.ref 3 0] (BSt A r) (.int k) (BSt { A with items := l } r) := Cl.is <|
  G.enter (fn := f_OpenStack_pop) rfl rfl (G.iteF (E.cmp (E.len (E.attr (E.loc rfl) rfl) (len_I rfl)) E.cI (congrArg some (ne0 h))) (G.ret (E.to (E.pop (E.attr (E.loc rfl) rfl) (items_snoc h)) (st_items rfl)) ⟨rfl, rfl⟩))
theorem many_ok : CV n "OpenStack.many" [.ref 3 0] (BSt A r) (.int A.items.length) (BSt A r) := Cl.is <|
  G.enter (fn := f_OpenStack_many) rfl rfl (G.ret (E.len (E.attr (E.loc rfl) rfl) (len_I rfl)) ⟨rfl, rfl⟩)
theorem nm1 (h : 0 ≤ k) : cmpX .eq (.int k) (.int (-1)) = some false := congrArg some (ne_m1 h)
theorem neS {a b : String} (h : a = b) : cmpX .ne (.str a) (.str b) = some false := by subst h; exact congrArg some (congrArg not (decide_eq_true rfl))
theorem eqS' {a b : String} (h : a = b) : cmpX .eq (.str a) (.str b) = some true := by subst h; exact congrArg some (decide_eq_true rfl)
theorem cmpS {a b : String} {c : Bool} (h : (a == b) = c) : cmpX .eq (.str a) (.str b) = some c := congrArg some h
theorem name_ok (h : A.items = l ++ [k]) (hn : A.at k nd) (hs : nd.space = "html") : CV (n + 1) "OpenStack.name" [.ref 3 0] (BSt A r) (.str nd.name) (BSt A r) := Cl.is <|
  G.enter (fn := f_OpenStack_name) rfl rfl (G.asg (E.own (cl := "OpenStack") (E.loc rfl) rfl EE.nil (current_ok h)) (G.iteF (E.orF (E.cmp (E.loc rfl) E.cI (nm1 hn.nonneg)) (E.cmp (E.sub (E.attr (E.attr (E.loc rfl) rfl) rfl) (E.loc rfl) (s_6 hn)) E.cS (neS hs)))
    (G.ret (E.sub (E.attr (E.attr (E.loc rfl) rfl) rfl) (E.loc rfl) (s_7 hn)) ⟨rfl, rfl⟩)))
theorem is_html_ok {s : String} (hn : A.at k nd) (hs : nd.space = "html") : CV n "Tree.is_html" [.ref 2 0, .int k, .str s] (BSt A r) (.bool (nd.name == s)) (BSt A r) := Cl.is <|
  G.enter (fn := f_Tree_is_html) rfl rfl (G.ret (E.andT (E.cmp (E.loc rfl) E.cI (congrArg some (congrArg not (ne_m1 hn.nonneg)))) (E.andT (E.cmp (E.sub (E.attr (E.loc rfl) rfl) (E.loc rfl) (s_6 hn)) E.cS (eqS' hs)) (E.cmp (E.sub (E.attr (E.loc rfl) rfl) (E.loc rfl) (s_7 hn)) (E.loc rfl) (cmpS rfl)))) ⟨rfl, rfl⟩)
noncomputable def holdI (A : AB) (n : Int) : Int := if n ∈ A.tm then n + 1 else n
theorem look_tm {n : Int} {l : List Int} : lookupI n (tmD l) = if n ∈ l then some (.int (n + 1)) else none := by
  induction l with
  | nil => rfl
  | cons t l ih =>
    show (if t = n then some (XVal.int (t + 1)) else lookupI n (tmD l)) = _
    rw [ih]
    by_cases h : t = n
    · subst h; rw [if_pos rfl, if_pos (.head _)]
    · rw [if_neg h]
      by_cases m : n ∈ l
      · rw [if_pos m, if_pos (.tail _ m)]
      · rw [if_neg m, if_neg fun z => (List.mem_cons.mp z).elim (fun e => h e.symm) m]
theorem place_ok (h : A.items = l ++ [k]) (h0 : 0 ≤ k) : CV (n + 1) "place_for" [.ref 1 0] (BSt A r) (.tup [.int (holdI A k), .int (-1)]) (BSt A r) := Cl.is <| by
  refine G.enter (fn := f_place_for) rfl rfl (G.asg (E.attr (E.loc rfl) rfl) (G.asg (E.loc rfl) (G.iteT (E.cmp (E.loc rfl) E.cI rfl) (G.asg (E.own (cl := "OpenStack") (E.attr (E.loc rfl) rfl) rfl EE.nil (current_ok h)) (G.iteF (E.cmp (E.loc rfl) E.cI (nm1 h0))
    (G.asg E.cI (G.iteF (E.andF (E.attr (E.loc rfl) rfl)) (G.ite_ (E.inD (es := tmD A.tm) (E.loc rfl) (E.attr (E.loc rfl) rfl) rfl) ?_))))))))
  rw [look_tm]
  unfold holdI
  by_cases hm : k ∈ A.tm
  · rw [if_pos hm, if_pos hm]
    exact G.ret (E.tup (EE.cons (E.sub (E.attr (E.loc rfl) rfl) (E.loc rfl) (look_tm.trans (if_pos hm))) (EE.one E.cI)) (Nat.le_of_ble_eq_true rfl)) ⟨rfl, rfl⟩
  · rw [if_neg hm, if_neg hm]
    exact G.ret (E.tup (EE.cons (E.loc rfl) (EE.one (E.loc rfl))) (Nat.le_of_ble_eq_true rfl)) ⟨rfl, rfl⟩
end
end Mine
end

section
set_option maxRecDepth 100000
namespace Mine
theorem kids_append {b : List Nd} {i : Int} : ∀ (a : List Nd) (k : Nat), kidsFrom (a ++ b) k i = kidsFrom a k i ++ kidsFrom b (k + a.length) i := by
  intro a
  induction a with
  | nil => exact fun k => rfl
  | cons n a ih =>
    intro k
    show (if n.up = i then (k : Int) :: kidsFrom (a ++ b) (k + 1) i else kidsFrom (a ++ b) (k + 1) i) = (if n.up = i then (k : Int) :: kidsFrom a (k + 1) i else kidsFrom a (k + 1) i) ++ kidsFrom b (k + (a.length + 1)) i
    rw [ih, Nat.add_right_comm k 1 a.length]
    split <;> rfl
theorem kids_none {i : Int} : ∀ (a : List Nd) (k : Nat), (∀ n ∈ a, n.up ≠ i) → kidsFrom a k i = [] := by
  intro a
  induction a with
  | nil => exact fun k _ => rfl
  | cons n a ih => exact fun k h => (if_neg (h n (.head _))).trans (ih _ fun m hm => h m (.tail _ hm))
theorem kids_cons {x : Nd} {l : List Nd} {k : Nat} {i : Int} : kidsFrom (x :: l) k i = if x.up = i then (k : Int) :: kidsFrom l (k + 1) i else kidsFrom l (k + 1) i := rfl
noncomputable def UpL (l : List Nd) : Prop := ∀ (k : Nat) (nd : Nd), l[k]? = some nd → -1 ≤ nd.up ∧ nd.up < k
noncomputable abbrev UpOk (A : AB) : Prop := UpL A.nodes
noncomputable def addNd (A : AB) (n : Nd) : AB := { A with nodes := A.nodes ++ [n] }
theorem refs_snoc {q n : Nat} : refs q n ++ [.ref q n] = refs q (n + 1) := by unfold refs; rw [List.range_succ, List.map_append]; rfl
theorem len_snoc {α : Type} {l : List α} {a : α} : (l ++ [a]).length = l.length + 1 := by rw [List.length_append]; rfl
theorem kids_snoc {f : Int → XVal} {l : List Nd} {nd : Nd} (hu : UpL l) (h : nd.up = -1) : kidsO f l ++ [.list []] = kidsO f (l ++ [nd]) := by
  have e : (fun i : Nat => XObj.list ((kidsFrom (l ++ [nd]) 0 (i : Int)).map f)) = fun i : Nat => XObj.list ((kidsFrom l 0 (i : Int)).map f) := funext fun i => by
    rw [kids_append, kids_none [nd] _ (fun n hn => by cases List.mem_singleton.mp hn; rw [h]; exact fun z => nomatch z), List.append_nil]
  unfold kidsO
  rw [e, len_snoc, List.range_succ, List.map_append]
  show _ = _ ++ [XObj.list ((kidsFrom l 0 (l.length : Int)).map f)]
  rw [kids_none l 0 fun n hn z => by
    obtain ⟨m, hm⟩ := List.mem_iff_getElem?.mp hn
    have := (hu m n hm).2
    rw [z] at this
    exact absurd (List.getElem?_eq_some_iff.mp hm).1 (Nat.not_lt_of_lt (Int.ofNat_lt.mp this))]
  rfl
section
variable {A : AB} {r st : XSt} {n q i : Nat} {env : XEnv} {xs : List XVal} {v w : XVal} {k j : Int} {l : List Int} {nd : Nd}
noncomputable def bR (A : AB) (a5 a6 a7 a8 a9 a10 a11 a13 a14 : List XObj) : List (List XObj) := [[], [.inst "Builder" (bF A)], [.inst "Tree" tF], [.inst "OpenStack" [("tree", .ref 2 0), ("items", .ref 15 0)]], [.inst "Formatting" [("tree", .ref 2 0), ("items", .ref 16 0)]],
  a5, a6, a7, a8, a9, a10, a11, [.idict (tmD A.tm)], a13, a14, [.list (A.items.map .int)], [.list (A.fitems.map .int)], [.list (A.modes.map .str)], [.idict []], [.list (A.errors.map errV)], [.list []], [.sdict rulesD]]
theorem bR_of {A' : AB} {a5 a6 a7 a8 a9 a10 a11 a13 a14 : List XObj} (h : bL A' = bR A a5 a6 a7 a8 a9 a10 a11 a13 a14) : over (bR A a5 a6 a7 a8 a9 a10 a11 a13 a14) r = BSt A' r := by rw [← h]; rfl
theorem map_snoc1 {α : Type} (f : α → XVal) (l : List α) (a : α) : [XObj.list (l.map f ++ [f a])] = [.list ((l ++ [a]).map f)] := by rw [map_snoc]
theorem st_add {k s m t : String} {at_ : List (String × String)} (hu : UpOk A) :
    over (bR A [.list ((A.nodes.map fun n => .str n.kind) ++ [.str k])] [.list ((A.nodes.map fun n => .str n.space) ++ [.str s])] [.list ((A.nodes.map fun n => .str n.name) ++ [.str m])] [.list (refs 13 A.nodes.length ++ [.ref 13 A.nodes.length])]
      [.list ((A.nodes.map fun n => .str n.text) ++ [.str t])] [.list ((A.nodes.map fun n => .int n.up) ++ [.int (-1)])] [.list (refs 14 A.nodes.length ++ [.ref 14 A.nodes.length])] ((A.nodes.map fun n => .list (n.attrs.map pairV)) ++ [.list (at_.map pairV)]) (kidsO .int A.nodes ++ [.list []])) r
      = BSt (addNd A ⟨k, s, m, at_, t, -1⟩) r := by
  refine bR_of ?_
  rw [map_snoc1 (fun n => .str n.kind) A.nodes ⟨k, s, m, at_, t, -1⟩, map_snoc1 (fun n => .str n.space) A.nodes ⟨k, s, m, at_, t, -1⟩, map_snoc1 (fun n => .str n.name) A.nodes ⟨k, s, m, at_, t, -1⟩, map_snoc1 (fun n => .str n.text) A.nodes ⟨k, s, m, at_, t, -1⟩,
    map_snoc1 (fun n => .int n.up) A.nodes ⟨k, s, m, at_, t, -1⟩, map_snoc (fun n : Nd => XObj.list (n.attrs.map pairV)) A.nodes ⟨k, s, m, at_, t, -1⟩, kids_snoc (nd := ⟨k, s, m, at_, t, -1⟩) hu rfl, refs_snoc, refs_snoc, ← len_snoc (a := ⟨k, s, m, at_, t, -1⟩)]
  rfl
theorem E.to2 {e : XE} {v v' : XVal} {st1 st2 : XSt} (h : EV n env st e v st1) (p : v = v') (q : st1 = st2) : EV n env st e v' st2 := q ▸ p ▸ h
theorem nodes_lim (hn : A.nodes.length < 900) {α : Type} {f : Nd → α} : (A.nodes.map f).length < LIM := by rw [List.length_map]; exact Nat.lt_trans hn (by decide)
theorem refs_len {n : Nat} : (refs q n).length = n := by unfold refs; rw [List.length_map, List.length_range]
theorem kidsO_len {f : Int → XVal} {l : List Nd} : (kidsO f l).length = l.length := by unfold kidsO; rw [List.length_map, List.length_range]
theorem len_sub1 {α : Type} {l : List α} {a : α} {f : α → XVal} : (((l.map f ++ [f a]).length : Nat) : Int) - 1 = l.length := by rw [len_snoc, List.length_map]; exact Int.add_sub_cancel (l.length : Int) 1
theorem add_ok {args : List XVal} {k s m t : String} {at_ : List (String × String)} (hb : bindX f_Tree_add.params f_Tree_add.dflts args = some [("self", .ref 2 0), ("kind", .str k), ("space", .str s), ("name", .str m), ("attrs", attrsV at_), ("text", .str t)])
    (hu : UpOk A) (hn : A.nodes.length < 900) (ha : at_.length ≤ 900) : CV n "Tree.add" args (BSt A r) (.int A.nodes.length) (BSt (addNd A ⟨k, s, m, at_, t, -1⟩) r) := Cl.is <| by
  refine G.enter (fn := f_Tree_add) rfl hb ?_
  refine G.expr (E.to (E.append (E.attr (E.loc rfl) rfl) rfl (E.loc rfl) rfl (nodes_lim hn)) (over_set rfl)) ?_
  refine G.expr (E.to (E.append (E.attr (E.loc rfl) rfl) rfl (E.loc rfl) rfl (nodes_lim hn)) (over_set rfl)) ?_
  refine G.expr (E.to (E.append (E.attr (E.loc rfl) rfl) rfl (E.loc rfl) rfl (nodes_lim hn)) (over_set rfl)) ?_
  refine G.expr (E.to (E.append (E.attr (E.loc rfl) rfl) rfl (E.to2 (E.mkl 13 (E.loc rfl) (by rw [List.length_map]; exact Nat.le_trans ha (by decide))) (congrArg (XVal.ref 13) (show (A.nodes.map _).length = _ from List.length_map ..)) (over_push rfl)) rfl (by rw [refs_len]; exact Nat.lt_trans hn (by decide))) (over_set rfl)) ?_
  refine G.expr (E.to (E.append (E.attr (E.loc rfl) rfl) rfl (E.loc rfl) rfl (nodes_lim hn)) (over_set rfl)) ?_
  refine G.expr (E.to (E.append (E.attr (E.loc rfl) rfl) rfl E.cI rfl (nodes_lim hn)) (over_set rfl)) ?_
  refine G.expr (E.to (E.append (E.attr (E.loc rfl) rfl) rfl (E.to2 (E.list 14 .nil (Nat.zero_le _)) (congrArg (XVal.ref 14) (show (kidsO .int A.nodes).length = _ from kidsO_len)) (over_push rfl)) rfl (by rw [refs_len]; exact Nat.lt_trans hn (by decide))) (over_set rfl)) ?_
  exact G.ret (E.to2 (E.sbt (E.len (E.attr (E.loc rfl) rfl) (len_L rfl)) E.cI) (congrArg XVal.int (len_sub1 (l := A.nodes) (a := ⟨k, s, m, at_, t, -1⟩) (f := fun n => .str n.kind))) (st_add hu)) ⟨rfl, rfl⟩
end
end Mine
end

section
set_option maxRecDepth 100000
namespace Mine
section
variable {A : AB} {r st : XSt} {n q i : Nat} {env : XEnv} {xs : List XVal} {v w : XVal} {k j : Int} {l : List Int} {nd : Nd}
theorem at_ups {u : Int} (h : -1 ≤ u) (h2 : u < A.nodes.length) (h3 : u ≠ -1) : ∃ nd, A.at u nd := by
  obtain ⟨k, rfl⟩ := Int.eq_ofNat_of_zero_le (show -1 + 1 ≤ u from Int.add_one_le_iff.mpr (Int.lt_iff_le_and_ne.mpr ⟨h, Ne.symm h3⟩))
  exact ⟨_, k, rfl, List.getElem?_eq_getElem (Int.ofNat_lt.mp h2)⟩
theorem UpOk.at (hu : UpOk A) (h : A.at k nd) : -1 ≤ nd.up ∧ nd.up < k ∧ k < A.nodes.length := by
  obtain ⟨m, rfl, h⟩ := h
  exact ⟨(hu m nd h).1, (hu m nd h).2, Int.ofNat_lt.mpr (List.getElem?_eq_some_iff.mp h).1⟩
noncomputable def tS (A : AB) (r : XSt) (xs : List Int) : XSt := over ([.list (xs.map .int)] :: (bL A).tail) r
theorem tS_sub (h : A.at k nd) : subX (tS A r l) (.ref 10 0) (.int k) = some (.int nd.up) := by obtain ⟨m, rfl, h⟩ := h; exact s_n (st := tS A r l) (q := 10) (i := 0) (f := fun n => .int n.up) rfl h
noncomputable def upT : XE := .cmp .ne (.loc "up") (.cI (-1))
noncomputable def upB : XS := (.cons (.expr (.meth (.loc "out") "append" (.cons (.loc "up") .nil))) (.cons (.asg "up" (.sub (.attr (.loc "tree") "parents") (.loc "up"))) .nil))
theorem above_loop (hu : UpOk A) {p : Int} {Q : XFlow → XEnv → XSt → Prop} (hQ : ∀ env' ys, env' "out" = some (.ref 0 0) → (∀ y ∈ ys, y < p) → Q .next env' (tS A r ys)) :
    ∀ (m : Nat) (u : Int) (xs : List Int) (env : XEnv), u < m → -1 ≤ u → u < A.nodes.length → u < p → (∀ y ∈ xs, y < p) → xs.length + m < 1000 → env "tree" = some (.ref 2 0) → env "out" = some (.ref 0 0) → env "up" = some (.int u) → Bw n upT upB env (tS A r xs) Q := by
  intro m
  induction m with
  | zero =>
    intro u xs env h1 h2 h3 h4 h5 h6 e1 e2 e3
    refine W.stop (E.cmp (E.loc e3) E.cI (congrArg some (congrArg not (decide_eq_true ?_)))) (hQ env xs e2 h5)
    exact Int.le_antisymm (Int.lt_add_one_iff.mp (show u < -1 + 1 from h1)) h2
  | succ m ih =>
    intro u xs env h1 h2 h3 h4 h5 h6 e1 e2 e3
    by_cases z : u = -1
    · exact W.stop (E.cmp (E.loc e3) E.cI (congrArg some (congrArg not (decide_eq_true z)))) (hQ env xs e2 h5)
    · obtain ⟨nd, ha⟩ := at_ups h2 h3 z
      have hh := hu.at ha
      refine W.turn (E.cmp (E.loc e3) E.cI (congrArg some (congrArg not (decide_eq_false z)))) (G.expr (E.to (E.append (E.loc e2) rfl (E.loc e3) rfl (show (xs.map XVal.int).length < LIM by rw [List.length_map]; exact Nat.lt_of_le_of_lt (Nat.le_add_right _ _) (Nat.lt_trans h6 (by decide)))) (show _ = tS A r (xs ++ [u]) from ?_))
        (G.asg (E.sub (E.attr (E.loc e1) rfl) (E.loc e3) (tS_sub ha)) (G.fin (ih nd.up (xs ++ [u]) _ ?_ hh.1 (Int.lt_trans hh.2.1 hh.2.2) (Int.lt_trans hh.2.1 h4) ?_ (by rw [len_snoc]; omega) e1 e2 rfl))))
      · exact (over_set (b := [.list (xs.map .int)] :: (bL A).tail) (l := [.list (xs.map .int)]) rfl).trans (congrArg (fun l => over ([XObj.list l] :: (bL A).tail) r) (map_snoc XVal.int xs u))
      · omega
      · exact fun y hy => (List.mem_append.mp hy).elim (h5 y) fun hy => List.mem_singleton.mp hy ▸ h4
theorem above_ok (hu : UpOk A) (hn : A.nodes.length < 900) (hp : A.at k nd) : ∃ ys : List Int, CV n "above" [.ref 2 0, .int k] (BSt A r) (.ref 0 0) (tS A r ys) ∧ ∀ y ∈ ys, y < k := by
  have hh := hu.at hp
  have : Cl n "above" [.ref 2 0, .int k] (BSt A r) fun v st => ∃ ys : List Int, v = .ref 0 0 ∧ st = tS A r ys ∧ ∀ y ∈ ys, y < k :=
    G.enter (fn := f_above) rfl rfl (G.asg (E.to (E.list 0 .nil (Nat.zero_le _)) (over_push rfl)) (G.asg (E.sub (E.attr (E.loc rfl) rfl) (E.loc rfl) (tS_sub (l := []) hp)) (G.whl (above_loop hu (p := k)
      (fun env' ys e h => G.ret (E.loc e) ⟨ys, rfl, rfl, h⟩) A.nodes.length nd.up [] _ (Int.lt_trans hh.2.1 hh.2.2) hh.1 (Int.lt_trans hh.2.1 hh.2.2) hh.2.1 (fun _ z => nomatch z) (by rw [List.length_nil]; omega) rfl rfl rfl))))
  obtain ⟨v, st, c, ys, rfl, rfl, h⟩ := this
  exact ⟨ys, c, h⟩
noncomputable def linkNd (A : AB) (n : Nat) (p : Int) : AB := { A with nodes := A.nodes.modify n fun nd => { nd with up := p } }
theorem kids_mod {p i : Int} (hi : 0 ≤ i) : ∀ (l : List Nd) (k n : Nat) (nd : Nd), l[n]? = some nd → nd.up = -1 → (∀ m nd', n < m → l[m]? = some nd' → nd'.up ≠ p) → kidsFrom (l.modify n fun nd => { nd with up := p }) k i = if i = p then kidsFrom l k i ++ [((k + n : Nat) : Int)] else kidsFrom l k i := by
  intro l
  induction l with
  | nil => exact fun k n nd h => nomatch h
  | cons x l ih =>
    intro k n nd h hu hl
    cases n with
    | zero =>
      obtain rfl : x = nd := Option.some.inj h
      have e1 : kidsFrom ({ x with up := p } :: l) k i = if p = i then (k : Int) :: kidsFrom l (k + 1) i else kidsFrom l (k + 1) i := rfl
      have e2 : kidsFrom (x :: l) k i = kidsFrom l (k + 1) i := if_neg fun e => absurd hi (by rw [← e, hu]; decide)
      rw [List.modify_zero_cons, e1, e2]
      by_cases q : i = p
      · subst q
        rw [if_pos rfl, if_pos rfl, kids_none l _ fun n hn => ?_]
        · rfl
        · obtain ⟨m, hm⟩ := List.mem_iff_getElem?.mp hn
          exact hl (m + 1) _ (Nat.succ_pos _) hm
      · rw [if_neg (Ne.symm q), if_neg q]
    | succ n =>
      rw [List.modify_succ_cons, kids_cons, kids_cons, ih (k + 1) n nd h hu fun m nd' hm h' => hl (m + 1) nd' (Nat.succ_lt_succ hm) h', Nat.add_right_comm k 1 n]
      show _ = if i = p then _ ++ [((k + n + 1 : Nat) : Int)] else _
      split <;> split <;> rfl
theorem map_mod {β : Type} {p : Int} {f : Nd → β} (hf : ∀ nd : Nd, f { nd with up := p } = f nd) : ∀ {l : List Nd} {n : Nat}, (l.modify n fun nd => { nd with up := p }).map f = l.map f := by
  intro l
  induction l with
  | nil => intro n; cases n <;> rfl
  | cons x l ih =>
    intro n
    cases n with
    | zero => exact congrArg (· :: l.map f) (hf x)
    | succ n => exact congrArg (f x :: ·) ih
theorem ups_mod {p : Int} : ∀ {l : List Nd} {n : Nat}, (l.modify n fun nd => { nd with up := p }).map (fun n => XVal.int n.up) = (l.map fun n => XVal.int n.up).set n (.int p) := by
  intro l
  induction l with
  | nil => intro n; cases n <;> rfl
  | cons x l ih =>
    intro n
    cases n with
    | zero => rfl
    | succ n => exact congrArg (XVal.int x.up :: ·) ih
theorem kidsO_mod {f : Int → XVal} {l : List Nd} {n p : Nat} (hn : l[n]? = some nd) (hup : nd.up = -1) (hp : p < l.length) (hl : ∀ m nd', n < m → l[m]? = some nd' → nd'.up ≠ p) :
    kidsO f (l.modify n fun nd => { nd with up := (p : Int) }) = (kidsO f l).set p (.list ((kidsFrom l 0 (p : Int)).map f ++ [f n])) := by
  unfold kidsO
  apply List.ext_getElem?
  intro i
  rw [List.length_modify, List.getElem?_map, List.getElem?_set, List.getElem?_map, List.length_map, List.length_range]
  by_cases q : i < l.length
  · rw [List.getElem?_range q]
    show some (XObj.list ((kidsFrom (l.modify n fun nd => { nd with up := (p : Int) }) 0 (i : Int)).map f)) = _
    rw [kids_mod (Int.natCast_nonneg i) l 0 n nd hn hup hl]
    by_cases z : p = i
    · subst z
      rw [if_pos rfl, if_pos rfl, if_pos q, List.map_append, Nat.zero_add]; rfl
    · rw [if_neg z, if_neg fun e : (i : Int) = (p : Int) => z (Int.ofNat.inj e).symm]; rfl
  · have : (List.range l.length)[i]? = none := List.getElem?_eq_none (by rw [List.length_range]; exact Nat.le_of_not_lt q)
    rw [this, if_neg fun e : p = i => q (e ▸ hp)]; rfl
theorem st_link {n p : Nat} (hn : A.nodes[n]? = some nd) (hup : nd.up = -1) (hp : p < A.nodes.length) (hl : ∀ m nd', n < m → A.nodes[m]? = some nd' → nd'.up ≠ p) :
    ((BSt A r).set 14 p (.list ((kidsFrom A.nodes 0 (p : Int)).map .int ++ [.int n]))).set 10 0 (.list ((A.nodes.map fun n => XVal.int n.up).set n (.int p))) = BSt (linkNd A n p) r := by
  refine (congrArg (fun s => XSt.set s 10 0 _) (over_set (b := bL A) rfl)).trans ((over_set (by rfl)).trans ?_)
  refine congrArg (fun b => over b r) ?_
  have e : kidsO .int (linkNd A n p).nodes = _ := kidsO_mod hn hup hp hl
  show _ = [[], _, _, _, _, [.list ((linkNd A n p).nodes.map fun n => .str n.kind)], [.list ((linkNd A n p).nodes.map fun n => .str n.space)], [.list ((linkNd A n p).nodes.map fun n => .str n.name)], [.list (refs 13 (linkNd A n p).nodes.length)],
     [.list ((linkNd A n p).nodes.map fun n => .str n.text)], [.list ((linkNd A n p).nodes.map fun n => .int n.up)], [.list (refs 14 (linkNd A n p).nodes.length)], _, (linkNd A n p).nodes.map fun n => .list (n.attrs.map pairV), kidsO .int (linkNd A n p).nodes, _, _, _, _, _, _, _]
  rw [e, show (linkNd A n p).nodes.length = A.nodes.length from List.length_modify .., show (linkNd A n p).nodes.map (fun n => XVal.str n.kind) = A.nodes.map (fun n => XVal.str n.kind) from map_mod fun _ => rfl, show (linkNd A n p).nodes.map (fun n => XVal.str n.space) = A.nodes.map (fun n => XVal.str n.space) from map_mod fun _ => rfl,
    show (linkNd A n p).nodes.map (fun n => XVal.str n.name) = A.nodes.map (fun n => XVal.str n.name) from map_mod fun _ => rfl, show (linkNd A n p).nodes.map (fun n => XVal.str n.text) = A.nodes.map (fun n => XVal.str n.text) from map_mod fun _ => rfl,
    show (linkNd A n p).nodes.map (fun n => XObj.list (n.attrs.map pairV)) = A.nodes.map (fun n => XObj.list (n.attrs.map pairV)) from map_mod fun _ => rfl, show (linkNd A n p).nodes.map (fun n => XVal.int n.up) = (A.nodes.map fun n => XVal.int n.up).set n (.int p) from ups_mod]
  rfl
theorem remove_ok (hn : A.at k nd) (hup : nd.up = -1) : CV n "Tree.remove" [.ref 2 0, .int k] (BSt A r) .none (BSt A r) := Cl.is <|
  G.enter (fn := f_Tree_remove) rfl rfl (G.iteF (E.cmp (E.sub (E.attr (E.loc rfl) rfl) (E.loc rfl) (s_10 hn)) E.cI (congrArg some (congrArg not (decide_eq_true hup)))) (G.fin ⟨rfl, rfl⟩))
theorem set_nat {xs : List XVal} {m : Nat} (h : (st q)[i]? = some (.list xs)) (hk : m < xs.length) : setX st (.ref q i) (.int m) w = some (st.set q i (.list (xs.set m w))) := by
  show ((st q)[i]?).bind _ = _
  rw [h]
  show Option.map _ (if 0 ≤ (m : Int) ∧ m < xs.length then some _ else none) = _
  rw [if_pos ⟨Int.natCast_nonneg m, hk⟩]; rfl
theorem kids_len (l : List Nd) (i : Int) : ∀ k, (kidsFrom l k i).length ≤ l.length := by
  induction l with
  | nil => exact fun k => Nat.le_refl _
  | cons x l ih => intro k; rw [kids_cons]; split; exact Nat.succ_le_succ (ih _); exact Nat.le_succ_of_le (ih _)
theorem k_14 {m : Nat} (h : m < A.nodes.length) : (BSt A r 14)[m]? = some (.list ((kidsFrom A.nodes 0 (m : Int)).map .int)) := getL_some (g_14 h)
theorem insert_ok (hu : UpOk A) (hsz : A.nodes.length < 900) {c p : Nat} {np : Nd} (hn : A.nodes[c]? = some nd) (hup : nd.up = -1) (hp : A.nodes[p]? = some np) (hpn : p < c) (hl : ∀ m nd', c < m → A.nodes[m]? = some nd' → nd'.up ≠ p) :
    CV (n + 1) "Tree.insert" [.ref 2 0, .int p, .int c, .int (-1)] (BSt A r) .none (BSt (linkNd A c p) r) := Cl.is <| by
  have hplt := (List.getElem?_eq_some_iff.mp hp).1
  have hnlt := (List.getElem?_eq_some_iff.mp hn).1
  obtain ⟨ys, ab, hy⟩ := above_ok (n := n) (r := r) hu hsz (k := (p : Int)) ⟨p, rfl, hp⟩
  refine G.enter (fn := f_Tree_insert) rfl rfl (G.iteF (E.orF (E.cmp (E.loc rfl) (E.loc rfl) (congrArg some (decide_eq_false fun e => Nat.ne_of_gt hpn (Int.ofNat.inj e)))) (E.drop (E.to2 (E.inI (l := ys) (E.loc rfl) (E.call (EE.cons (E.loc rfl) (EE.one (E.loc rfl))) ab) rfl)
    (congrArg XVal.bool (decide_eq_false fun z => absurd (hy _ z) (Int.not_lt.mpr (Int.ofNat_le.mpr (Nat.le_of_lt hpn))))) rfl) (Drop.all (fun q => ?_) ?_)))
    (G.iteF (E.andF (E.cmp (E.loc rfl) E.cI rfl)) (G.iteF (E.cmp (E.loc rfl) (E.loc rfl) (congrArg some (decide_eq_false fun e => nomatch e)))
    (G.expr (E.own (cl := "Tree") (E.loc rfl) rfl (EE.one (E.loc rfl)) (remove_ok ⟨c, rfl, hn⟩ hup)) (G.asg (E.len (E.sub (E.attr (E.loc rfl) rfl) (E.loc rfl) (s_11 hplt)) (len_I (g_14 hplt))) (G.iteF (E.cmp (E.loc rfl) E.cI rfl)
    (G.expr (E.insEnd (E.sub (E.attr (E.loc rfl) rfl) (E.loc rfl) (s_11 hplt)) (k_14 hplt) (E.loc rfl) (E.loc rfl) (k_14 hplt) (by rw [List.length_map]) (by rw [List.length_map]; exact Nat.lt_of_le_of_lt (kids_len _ _ _) (Nat.lt_trans hsz (by decide))))
    (G.asgS (E.loc rfl) (E.attr (E.loc rfl) rfl) (E.loc rfl) (set_nat (xs := A.nodes.map fun n => .int n.up) rfl (by rw [List.length_map]; exact hnlt)) (G.fin ⟨rfl, st_link hn hup hplt hl⟩)))))))))
  · cases q with
    | zero => exact .inr rfl
    | succ q => exact .inl rfl
  · exact .bool _
end
end Mine
end

section
set_option maxRecDepth 100000
set_option genInjectivity false
namespace Mine
section
variable {A A1 : AB} {r st : XSt} {n q i : Nat} {env : XEnv} {xs : List XVal} {v w : XVal} {k j : Int} {l : List Int} {nd : Nd} {name : String} {at_ : List (String × String)}
noncomputable def elNd (name : String) (at_ : List (String × String)) : Nd := ⟨"element", "html", name, at_, "", -1⟩
noncomputable def frNd : Nd := ⟨"fragment", "", "", [], "", -1⟩
noncomputable def coNd (t : String) : Nd := ⟨"comment", "", "", [], t, -1⟩
noncomputable def txNd (t : String) : Nd := ⟨"text", "", "", [], t, -1⟩
noncomputable def addTm (A : AB) (at_ : List (String × String)) : AB := { addNd (addNd A (elNd "template" at_)) frNd with tm := A.tm ++ [(A.nodes.length : Int)] }
noncomputable def addElem (A : AB) (name : String) (at_ : List (String × String)) : AB := if name = "template" then addTm A at_ else addNd A (elNd name at_)
theorem snoc_at {α : Type} {l : List α} {a b : α} {k : Nat} (h : (l ++ [a])[k]? = some b) : l[k]? = some b ∨ (k = l.length ∧ a = b) := by
  rcases Nat.lt_trichotomy k l.length with q | q | q
  · rw [List.getElem?_append_left q] at h; exact .inl h
  · subst q; rw [List.getElem?_concat_length] at h; exact .inr ⟨rfl, Option.some.inj h⟩
  · rw [List.getElem?_eq_none (by rw [len_snoc]; exact q)] at h; exact nomatch h
theorem UpL.add {l : List Nd} (h : UpL l) (hn : nd.up = -1) : UpL (l ++ [nd]) := fun k x hx => by
  rcases snoc_at hx with q | ⟨_, rfl⟩
  · exact h k x q
  · rw [hn]; exact ⟨Int.le_refl _, Int.lt_of_lt_of_le (by decide) (Int.natCast_nonneg k)⟩
structure TmOk (A : AB) : Prop where
  low : ∀ t ∈ A.tm, 0 ≤ t ∧ t + 1 < A.nodes.length
  len : A.tm.length ≤ A.nodes.length
theorem storeI_new {n : Int} {w : XVal} {l : List Int} (h : n ∉ l) : storeI n w (tmD l) = tmD l ++ [(n, w)] := by
  induction l with
  | nil => rfl
  | cons t l ih =>
    show (if t = n then _ else (t, XVal.int (t + 1)) :: storeI n w (tmD l)) = _
    rw [if_neg fun e : t = n => h (e ▸ .head _), ih fun z => h (.tail _ z)]; rfl
theorem set_12 (ht : TmOk A) (hsz : A.nodes.length < 900) (h : k ∉ A.tm) : setX (BSt A r) (.ref 12 0) (.int k) (.int (k + 1)) = some (BSt { A with tm := A.tm ++ [k] } r) := by
  show Option.map _ (if (tmD A.tm).length ≤ LIM then some _ else none) = _
  rw [if_pos (by unfold tmD; rw [List.length_map]; exact Nat.le_trans ht.len (Nat.le_of_lt (Nat.lt_trans hsz (by decide)))), show storeI k (.int (k + 1)) (tmD A.tm) = _ from storeI_new h]
  exact congrArg some (st_tm (map_snoc (fun t : Int => (t, XVal.int (t + 1))) _ _))
theorem add1 (hsz : A.nodes.length < 800) : (addNd A nd).nodes.length < 900 := by show (A.nodes ++ [nd]).length < _; rw [len_snoc]; exact Nat.lt_of_le_of_lt hsz (by decide)
theorem element_ok (hu : UpOk A) (ht : TmOk A) (hsz : A.nodes.length < 800) (ha : at_.length ≤ 900) : CV (n + 1) "Tree.element" [.ref 2 0, .str name, .str "html", attrsV at_] (BSt A r) (.int A.nodes.length) (BSt (addElem A name at_) r) := Cl.is <| by
  refine G.enter (fn := f_Tree_element) rfl rfl (G.asg (E.own (cl := "Tree") (E.loc rfl) rfl (EE.cons E.cS (EE.cons (E.loc rfl) (EE.cons (E.loc rfl) (EE.one (E.loc rfl))))) (add_ok rfl hu (Nat.lt_trans hsz (by decide)) ha)) (G.ite_ (E.andT (E.cmp (E.loc rfl) E.cS rfl) (E.cmp (E.loc rfl) E.cS (cmpS rfl))) ?_))
  unfold addElem
  by_cases hm : name = "template"
  · subst hm
    have hnt : (A.nodes.length : Int) ∉ A.tm := fun q => absurd (ht.low _ q).2 (Int.not_lt.mpr (Int.le_of_lt (Int.lt_add_one_of_le (Int.le_refl _))))
    have e1 : ((A.nodes ++ [elNd "template" at_]).length : Int) = (A.nodes.length : Int) + 1 := congrArg Nat.cast len_snoc
    refine G.asgS (E.to2 (E.own (cl := "Tree") (E.loc rfl) rfl (EE.one E.cS) (add_ok (at_ := []) rfl (hu.add rfl) (add1 hsz) (Nat.zero_le _))) (congrArg XVal.int e1) rfl) (E.attr (E.loc rfl) rfl) (E.loc rfl) ?_ (G.ret (E.loc rfl) ⟨rfl, rfl⟩)
    refine (set_12 (A := addNd (addNd A (elNd "template" at_)) frNd) ⟨?_, ?_⟩ ?_ hnt).trans rfl
    · intro t h
      refine ⟨(ht.low t h).1, Int.lt_of_lt_of_le (ht.low t h).2 (Int.ofNat_le.mpr ?_)⟩
      show _ ≤ ((A.nodes ++ [_]) ++ [_]).length
      rw [len_snoc, len_snoc]; exact Nat.le_add_right _ 2
    · show _ ≤ ((A.nodes ++ [_]) ++ [_]).length
      rw [len_snoc, len_snoc]; exact Nat.le_trans ht.len (Nat.le_add_right _ 2)
    · show ((A.nodes ++ [_]) ++ [_]).length < _
      rw [len_snoc, len_snoc]; exact Nat.lt_of_le_of_lt (Nat.succ_le_succ hsz) (by decide)
  · rw [if_neg hm, beq_false_of_ne hm]
    exact G.ret (E.loc rfl) ⟨rfl, rfl⟩
theorem addElem_nodes : (addElem A name at_).nodes = A.nodes ++ elNd name at_ :: (if name = "template" then [frNd] else []) := by
  unfold addElem
  by_cases h : name = "template"
  · subst h; exact List.append_assoc ..
  · rw [if_neg h, if_neg h]; rfl
theorem addElem_same {α : Type} (f : AB → α) (h1 : f (addTm A at_) = f A) (h2 : f (addNd A (elNd name at_)) = f A) : f (addElem A name at_) = f A := by
  unfold addElem; split
  · exact h1
  · exact h2
theorem UpOk.elem (h : UpOk A) : UpOk (addElem A name at_) := by
  unfold addElem
  split
  · exact (h.add (nd := elNd "template" at_) rfl).add (nd := frNd) rfl
  · exact h.add rfl
noncomputable def insE (A : AB) (name : String) (at_ : List (String × String)) (p : Int) : AB := { linkNd (addElem A name at_) A.nodes.length p with items := A.items ++ [(A.nodes.length : Int)] }
theorem insert_new {more : List Nd} (hu : UpOk A1) (h1 : A1.nodes = A.nodes ++ nd :: more) (hm : ∀ x ∈ more, x.up = -1) (hup : nd.up = -1) (hsz : A.nodes.length < 800) (hml : more.length ≤ 1) {p : Nat} {np : Nd} (hp : A.nodes[p]? = some np) :
    CV (n + 1) "Tree.insert" [.ref 2 0, .int p, .int A.nodes.length, .int (-1)] (BSt A1 r) .none (BSt (linkNd A1 A.nodes.length p) r) := by
  have hpl := (List.getElem?_eq_some_iff.mp hp).1
  refine insert_ok hu ?_ (nd := nd) (np := np) ?_ hup (by rw [h1, List.getElem?_append_left hpl]; exact hp) hpl fun m nd' hmm hx => ?_
  · rw [h1, List.length_append]; exact Nat.lt_of_lt_of_le (Nat.add_lt_add_of_lt_of_le hsz (Nat.succ_le_succ hml)) (by decide)
  · rw [h1, List.getElem?_append_right (Nat.le_refl _), Nat.sub_self]; rfl
  · rw [h1, List.getElem?_append_right (Nat.le_of_lt hmm), ← Nat.sub_add_cancel (Nat.sub_pos_of_lt hmm)] at hx
    rw [hm nd' (List.mem_of_getElem? hx)]
    exact fun z => nomatch z
theorem make_ok (hu : UpOk A) (ht : TmOk A) (hsz : A.nodes.length < 800) (ha : at_.length ≤ 900) : CV (n + 2) "make" [.ref 1 0, .str name, attrsV at_, .str "html"] (BSt A r) (.int A.nodes.length) (BSt (addElem A name at_) r) := Cl.is <|
  G.enter (fn := f_make) rfl rfl (G.ret (E.own (cl := "Tree") (E.attr (E.loc rfl) rfl) rfl (EE.cons (E.loc rfl) (EE.cons (E.loc rfl) (EE.one (E.loc rfl)))) (element_ok hu ht hsz ha)) ⟨rfl, rfl⟩)
structure Ins (A : AB) (p : Nat) : Prop where
  up : UpOk A
  tm : TmOk A
  nodes : A.nodes.length < 800
  items : A.items.length < 800
  top : ∃ n l np, A.items = l ++ [n] ∧ 0 ≤ n ∧ A.nodes[p]? = some np ∧ holdI A n = (p : Int) ∧ np.kind ≠ "document"
theorem insE_ok (hu : UpOk A) (ht : TmOk A) (hsz : A.nodes.length < 800) (hsi : A.items.length < 800) (ha : at_.length ≤ 900) (h : A.items = l ++ [k]) (h0 : 0 ≤ k)
    {p : Nat} {np : Nd} (hp : A.nodes[p]? = some np) (hh : holdI A k = p) {args : List XVal} (hargs : bindX f_insert_element.params f_insert_element.dflts args = some [("builder", .ref 1 0), ("name", .str name), ("attrs", attrsV at_), ("space", .str "html")]) :
    CV (n + 3) "insert_element" args (BSt A r) (.int A.nodes.length) (BSt (insE A name at_ p) r) := Cl.is <| by
  have hi : (linkNd (addElem A name at_) A.nodes.length p).items = A.items := addElem_same AB.items rfl rfl
  refine G.enter (fn := f_insert_element) rfl hargs (G.asgT (hh ▸ E.call (EE.one (E.loc rfl)) (place_ok h h0)) (G.asg (E.call (EE.cons (E.loc rfl) (EE.cons (E.loc rfl) (EE.cons (E.loc rfl) (EE.one (E.loc rfl))))) (make_ok hu ht hsz ha))
    (G.expr (E.own (cl := "Tree") (E.attr (E.loc rfl) rfl) rfl (EE.cons (E.loc rfl) (EE.cons (E.loc rfl) (EE.one (E.loc rfl)))) (insert_new hu.elem addElem_nodes ?_ rfl hsz ?_ hp))
    (G.expr (E.own (cl := "OpenStack") (E.attr (E.loc rfl) rfl) rfl (EE.one (E.loc rfl)) (push_ok (by rw [hi]; exact Nat.lt_trans hsi (by decide)))) (G.ret (E.loc rfl) ⟨rfl, ?_⟩)))))
  · split
    · exact fun x hx => List.mem_singleton.mp hx ▸ rfl
    · exact fun x hx => nomatch hx
  · split <;> exact Nat.le_of_ble_eq_true rfl
  · rw [hi]; rfl
theorem comment_ok {t : String} (hu : UpOk A) (hsz : A.nodes.length < 800) : CV (n + 1) "Tree.comment" [.ref 2 0, .str t] (BSt A r) (.int A.nodes.length) (BSt (addNd A (coNd t)) r) := Cl.is <|
  G.enter (fn := f_Tree_comment) rfl rfl (G.ret (E.own (cl := "Tree") (E.loc rfl) rfl (EE.cons E.cS (EE.cons E.cS (EE.cons E.cS (EE.cons (E.tup .nil (Nat.zero_le _)) (EE.one (E.loc rfl)))))) (add_ok (at_ := []) rfl hu (Nat.lt_trans hsz (by decide)) (Nat.zero_le _))) ⟨rfl, rfl⟩)
theorem text_ok {t : String} (hu : UpOk A) (hsz : A.nodes.length < 800) : CV (n + 1) "Tree.text" [.ref 2 0, .str t] (BSt A r) (.int A.nodes.length) (BSt (addNd A (txNd t)) r) := Cl.is <|
  G.enter (fn := f_Tree_text) rfl rfl (G.ret (E.own (cl := "Tree") (E.loc rfl) rfl (EE.cons E.cS (EE.cons E.cS (EE.cons E.cS (EE.cons (E.tup .nil (Nat.zero_le _)) (EE.one (E.loc rfl)))))) (add_ok (at_ := []) rfl hu (Nat.lt_trans hsz (by decide)) (Nat.zero_le _))) ⟨rfl, rfl⟩)
noncomputable def insC (A : AB) (t : String) (p : Int) : AB := linkNd (addNd A (coNd t)) A.nodes.length p
noncomputable def insT (A : AB) (t : String) (p : Int) : AB := linkNd (addNd A (txNd t)) A.nodes.length p
theorem insC_ok {t : String} {p : Nat} (I : Ins A p) : CV (n + 2) "insert_comment" [.ref 1 0, .str t] (BSt A r) .none (BSt (insC A t p) r) := Cl.is <| by
  obtain ⟨top, l, np, h1, h2, h3, h4, _⟩ := I.top
  exact G.enter (fn := f_insert_comment) rfl rfl (G.asg E.cI (G.iteT (E.cmp (E.loc rfl) E.cI rfl) (G.asgT (h4 ▸ E.call (EE.one (E.loc rfl)) (place_ok h1 h2))
    (G.expr (E.own (cl := "Tree") (E.attr (E.loc rfl) rfl) rfl (EE.cons (E.loc rfl) (EE.cons (E.own (cl := "Tree") (E.attr (E.loc rfl) rfl) rfl (EE.one (E.loc rfl)) (comment_ok I.up I.nodes)) (EE.one (E.loc rfl)))) (insert_new (I.up.add (nd := coNd t) rfl) (more := []) rfl (fun x hx => nomatch hx) rfl I.nodes (Nat.zero_le _) h3)) (G.fin ⟨rfl, rfl⟩)))))
end
end Mine
end

section
set_option maxRecDepth 100000
set_option genInjectivity false
namespace Mine
inductive Tok where
  | char (s : String)
  | comment (s : String)
  | doctype
  | start (n : String) (slash : Bool)
  | fin (n : String)
  | eof
noncomputable def Tok.kind (t : Tok) : String := t.casesOn (fun _ => "char") (fun _ => "comment") "doctype" (fun _ _ => "start") (fun _ => "end") "eof"
noncomputable def atN (n : String) : List (String × String) := [("n", n)]
noncomputable def tokV (t : Tok) : XVal := t.casesOn (fun s => .tup [.str "char", .str s]) (fun s => .tup [.str "comment", .str s]) (.tup [.str "doctype", .str "html", .none, .none, .bool false]) (fun n s => .tup [.str "start", .str n, attrsV (atN n), .bool s]) (fun n => .tup [.str "end", .str n, .tup [], .bool false]) (.tup [.str "eof"])
section
variable {A A1 : AB} {r st : XSt} {n q i p : Nat} {env : XEnv} {xs : List XVal} {v w : XVal} {k j : Int} {l : List Int} {nd : Nd} {name word s : String} {at_ : List (String × String)} {sl : Bool}
theorem k0 (t : Tok) : subX st (tokV t) (.int 0) = some (.str t.kind) := by cases t <;> rfl
theorem error_ok (hl : A.errors.length < 1000) : CV n "Builder.error" [.ref 1 0, .str word] (BSt A r) .none (BSt { A with errors := A.errors ++ [(word, A.mode)] } r) := Cl.is <|
  G.enter (fn := f_Builder_error) rfl rfl (G.expr (E.to (E.append (E.attr (E.loc rfl) rfl) rfl (E.tup (EE.cons (E.loc rfl) (EE.one (E.attr (E.loc rfl) rfl))) (Nat.le_of_ble_eq_true rfl)) rfl (by rw [List.length_map]; exact Nat.lt_trans hl (by decide))) (st_errors (map_snoc errV _ (word, A.mode)))) (G.fin ⟨rfl, rfl⟩))
theorem to_ok : CV n "Builder.to" [.ref 1 0, .str word] (BSt A r) .none (BSt { A with mode := word } r) := Cl.is <|
  G.enter (fn := f_Builder_to) rfl rfl (G.asgA (E.loc rfl) (E.loc rfl) (sa_mode word) (G.fin ⟨rfl, rfl⟩))
theorem assoc_ok : CV n "associate" [.ref 1 0, .int k] (BSt A r) .none (BSt A r) := Cl.is <|
  G.enter (fn := f_associate) rfl rfl (G.iteT (E.orT (E.cmp (E.attr (E.loc rfl) rfl) E.cI rfl)) (G.retN ⟨rfl, rfl⟩))
theorem insTok_ok (I : Ins A p) : CV (n + 4) "insert_token" [.ref 1 0, tokV (.start name sl)] (BSt A r) (.int A.nodes.length) (BSt (insE A name (atN name) p) r) := Cl.is <| by
  obtain ⟨top, l, np, h1, h2, h3, h4, _⟩ := I.top
  exact G.enter (fn := f_insert_token) rfl rfl (G.asg (E.call (EE.cons (E.loc rfl) (EE.cons (E.sub (E.loc rfl) E.cI rfl) (EE.one (E.sub (E.loc rfl) E.cI rfl)))) (insE_ok I.up I.tm I.nodes I.items (Nat.le_of_ble_eq_true rfl) h1 h2 h3 h4 rfl)) (G.expr (E.call (EE.cons (E.loc rfl) (EE.one (E.loc rfl))) assoc_ok) (G.ret (E.loc rfl) ⟨rfl, rfl⟩)))
theorem void_ok (I : Ins A p) : CV (n + 5) "insert_void" [.ref 1 0, tokV (.start name sl)] (BSt A r) (.int A.nodes.length) (BSt { insE A name (atN name) p with items := A.items, ack := true } r) := Cl.is <|
  G.enter (fn := f_insert_void) rfl rfl (G.asg (E.call (EE.cons (E.loc rfl) (EE.one (E.loc rfl))) (insTok_ok I)) (G.expr (E.own (cl := "OpenStack") (E.attr (E.loc rfl) rfl) rfl EE.nil (pop_ok (A := insE A name (atN name) p) rfl)) (G.asgA E.cB (E.loc rfl) (sa_is_acknowledged true) (G.ret (E.loc rfl) ⟨rfl, rfl⟩))))
theorem raw_ok (I : Ins A p) : CV (n + 5) "start_raw" [.ref 1 0, tokV (.start name sl), .str word] (BSt A r) .none (BSt { insE A name (atN name) p with wish := word, original := A.mode, mode := "text" } r) := Cl.is <| by
  have hm : (insE A name (atN name) p).mode = A.mode := addElem_same AB.mode rfl rfl
  exact G.enter (fn := f_start_raw) rfl rfl (G.expr (E.call (EE.cons (E.loc rfl) (EE.one (E.loc rfl))) (insTok_ok I)) (G.asgA (E.loc rfl) (E.loc rfl) (sa_wish word) (G.asgA (E.attr (E.loc rfl) (v := .str A.mode) (congrArg (fun m => some (XVal.str m)) hm)) (E.loc rfl) (sa_original A.mode)
    (G.expr (E.own (cl := "Builder") (E.loc rfl) rfl (EE.one E.cS) to_ok) (G.fin ⟨rfl, rfl⟩)))))
noncomputable def lastI (A : AB) (p : Nat) : Int := (kidsFrom A.nodes 0 (p : Int)).getLast?.getD (-1)
theorem last_ok (hp : p < A.nodes.length) : CV n "Tree.last" [.ref 2 0, .int p] (BSt A r) (.int (lastI A p)) (BSt A r) := Cl.is <| by
  have g := g_14 (r := r) hp
  refine G.enter (fn := f_Tree_last) rfl rfl (G.ite_ (E.notL (E.sub (E.attr (E.loc rfl) rfl) (E.loc rfl) (s_11 hp)) (getL_some g)) ?_)
  unfold lastI
  rcases List.eq_nil_or_concat (kidsFrom A.nodes 0 (p : Int)) with h | ⟨l, a, h⟩
  · rw [h]; exact G.ret E.cI ⟨rfl, rfl⟩
  · rw [List.concat_eq_append] at h
    rw [h, List.map_append] at g
    have e : (List.map XVal.int (kidsFrom A.nodes 0 (p : Int))).isEmpty = false := by rw [h]; cases l <;> rfl
    rw [e, h, List.getLast?_append]
    exact G.ret (E.sub (E.sub (E.attr (E.loc rfl) rfl) (E.loc rfl) (s_11 hp)) E.cI (sub_last g)) ⟨rfl, rfl⟩
noncomputable def addText (A : AB) (k : Nat) (s : String) : AB := { A with nodes := A.nodes.modify k fun nd => { nd with text := nd.text ++ s } }
theorem map_txt {β : Type} {s : String} {f : Nd → β} (hf : ∀ (nd : Nd) t, f { nd with text := t } = f nd) : ∀ {l : List Nd} {n : Nat}, (l.modify n fun nd => { nd with text := nd.text ++ s }).map f = l.map f := by
  intro l
  induction l with
  | nil => intro n; cases n <;> rfl
  | cons x l ih =>
    intro n
    cases n with
    | zero => exact congrArg (· :: l.map f) (hf x _)
    | succ n => exact congrArg (f x :: ·) ih
theorem kids_ups {l m : List Nd} (h : l.map (fun n => n.up) = m.map fun n => n.up) {i : Int} : ∀ k, kidsFrom l k i = kidsFrom m k i := by
  induction l generalizing m with
  | nil => cases m with | nil => exact fun k => rfl | cons _ _ => exact nomatch h
  | cons x l ih =>
    cases m with
    | nil => exact nomatch h
    | cons y m =>
      have h := List.cons.inj h
      intro k
      rw [kids_cons, kids_cons, ih h.2, show x.up = y.up from h.1]
theorem txt_mod {s : String} : ∀ {l : List Nd} {n : Nat} {nd : Nd}, l[n]? = some nd → (l.modify n fun nd => { nd with text := nd.text ++ s }).map (fun n => XVal.str n.text) = (l.map fun n => XVal.str n.text).set n (.str (nd.text ++ s)) := by
  intro l
  induction l with
  | nil => intro n nd h; exact nomatch h
  | cons x l ih =>
    intro n nd h
    cases n with
    | zero => obtain rfl : x = nd := Option.some.inj h; rfl
    | succ n => exact congrArg (XVal.str x.text :: ·) (ih h)
theorem st_text {k : Nat} (hk : A.nodes[k]? = some nd) : (BSt A r).set 9 0 (.list ((A.nodes.map fun n => XVal.str n.text).set k (.str (nd.text ++ s)))) = BSt (addText A k s) r := by
  refine (over_set (b := bL A) rfl).trans (congrArg (fun b => over b r) ?_)
  show _ = [[], _, _, _, _, [.list ((addText A k s).nodes.map fun n => .str n.kind)], [.list ((addText A k s).nodes.map fun n => .str n.space)], [.list ((addText A k s).nodes.map fun n => .str n.name)], [.list (refs 13 (addText A k s).nodes.length)],
     [.list ((addText A k s).nodes.map fun n => .str n.text)], [.list ((addText A k s).nodes.map fun n => .int n.up)], [.list (refs 14 (addText A k s).nodes.length)], _, (addText A k s).nodes.map fun n => .list (n.attrs.map pairV), kidsO .int (addText A k s).nodes, _, _, _, _, _, _, _]
  have el : (addText A k s).nodes.length = A.nodes.length := List.length_modify ..
  have ek : kidsO .int (addText A k s).nodes = kidsO .int A.nodes := by
    unfold kidsO; rw [el]
    exact congrArg (fun f : Nat → XObj => (List.range A.nodes.length).map f) (funext fun i => by rw [kids_ups (l := (addText A k s).nodes) (m := A.nodes) (map_txt fun _ _ => rfl)])
  rw [ek, el, show (addText A k s).nodes.map (fun n => XVal.str n.kind) = A.nodes.map (fun n => XVal.str n.kind) from map_txt fun _ _ => rfl, show (addText A k s).nodes.map (fun n => XVal.str n.space) = A.nodes.map (fun n => XVal.str n.space) from map_txt fun _ _ => rfl,
    show (addText A k s).nodes.map (fun n => XVal.str n.name) = A.nodes.map (fun n => XVal.str n.name) from map_txt fun _ _ => rfl, show (addText A k s).nodes.map (fun n => XVal.int n.up) = A.nodes.map (fun n => XVal.int n.up) from map_txt fun _ _ => rfl,
    show (addText A k s).nodes.map (fun n => XObj.list (n.attrs.map pairV)) = A.nodes.map (fun n => XObj.list (n.attrs.map pairV)) from map_txt fun _ _ => rfl, show (addText A k s).nodes.map (fun n => XVal.str n.text) = _ from txt_mod hk]
  rfl
theorem sign_new (I : Ins A p) (hx : lastI A p = -1 ∨ ∃ nd, A.at (lastI A p) nd ∧ nd.kind ≠ "text") : CV (n + 2) "insert_sign" [.ref 1 0, .str s] (BSt A r) .none (BSt (insT A s p) r) := Cl.is <| by
  obtain ⟨top, l, np, h1, h2, h3, h4, hkd⟩ := I.top
  refine G.enter (fn := f_insert_sign) rfl rfl (G.asg (E.attr (E.loc rfl) rfl) (G.asgT (h4 ▸ E.call (EE.one (E.loc rfl)) (place_ok h1 h2)) (G.iteF (E.cmp (E.sub (E.attr (E.loc rfl) rfl) (E.loc rfl) (s_5 ⟨p, rfl, h3⟩)) E.cS (congrArg some (decide_eq_false hkd)))
    (G.asg (E.own (cl := "Tree") (E.loc rfl) rfl (EE.one (E.loc rfl)) (last_ok (List.getElem?_eq_some_iff.mp h3).1)) (G.iteF (E.cmp (E.loc rfl) E.cI rfl) (G.iteF ?_
    (G.expr (E.own (cl := "Tree") (E.loc rfl) rfl (EE.cons (E.loc rfl) (EE.cons (E.own (cl := "Tree") (E.loc rfl) rfl (EE.one (E.loc rfl)) (text_ok I.up I.nodes)) (EE.one (E.loc rfl)))) (insert_new (I.up.add (nd := txNd s) rfl) (more := []) rfl (fun x hx => nomatch hx) rfl I.nodes (Nat.zero_le _) h3)) (G.fin ⟨rfl, rfl⟩))))))))
  rcases hx with hx | ⟨nd, hx, hk⟩
  · exact E.andF (E.cmp (E.loc rfl) E.cI (congrArg some (congrArg not (decide_eq_true hx))))
  · exact E.andT (E.cmp (E.loc rfl) E.cI (congrArg some (congrArg not (ne_m1 hx.nonneg)))) (E.cmp (E.sub (E.attr (E.loc rfl) rfl) (E.loc rfl) (s_5 hx)) E.cS (congrArg some (decide_eq_false hk)))
theorem sign_old (I : Ins A p) {k : Nat} (hx : lastI A p = k) (hk : A.nodes[k]? = some nd) (ht : nd.kind = "text") (hsz : nd.text.length + s.length ≤ 1000) : CV (n + 2) "insert_sign" [.ref 1 0, .str s] (BSt A r) .none (BSt (addText A k s) r) := Cl.is <| by
  obtain ⟨top, l, np, h1, h2, h3, h4, hkd⟩ := I.top
  have hat : A.at (k : Int) nd := ⟨k, rfl, hk⟩
  exact G.enter (fn := f_insert_sign) rfl rfl (G.asg (E.attr (E.loc rfl) rfl) (G.asgT (h4 ▸ E.call (EE.one (E.loc rfl)) (place_ok h1 h2)) (G.iteF (E.cmp (E.sub (E.attr (E.loc rfl) rfl) (E.loc rfl) (s_5 ⟨p, rfl, h3⟩)) E.cS (congrArg some (decide_eq_false hkd)))
    (G.asg (v := .int k) (hx ▸ E.own (cl := "Tree") (E.loc rfl) rfl (EE.one (E.loc rfl)) (last_ok (List.getElem?_eq_some_iff.mp h3).1)) (G.iteF (E.cmp (E.loc rfl) E.cI rfl) (G.iteT (E.andT (E.cmp (E.loc rfl) E.cI (congrArg some (congrArg not (ne_m1 hat.nonneg)))) (E.cmp (E.sub (E.attr (E.loc rfl) rfl) (E.loc rfl) (s_5 hat)) E.cS (eqS' ht)))
    (G.asgS (E.cat (E.sub (E.attr (E.loc rfl) rfl) (E.loc rfl) (s_9 hat)) (E.loc rfl) (Nat.le_trans hsz (by decide))) (E.attr (E.loc rfl) rfl) (E.loc rfl) (set_nat (xs := A.nodes.map fun n => .str n.text) rfl (by rw [List.length_map]; exact (List.getElem?_eq_some_iff.mp hk).1)) (G.fin ⟨rfl, st_text hk⟩))))))))
end
end Mine
end

section
set_option maxRecDepth 100000
set_option genInjectivity false
namespace Mine
structure NamL (l : List Nd) (i : Int) (nm : String) : Prop where
  is : ∃ nd : Nd, (∃ k : Nat, i = k ∧ l[k]? = some nd) ∧ nd.name = nm ∧ nd.space = "html"
noncomputable abbrev Nam (A : AB) : Int → String → Prop := NamL A.nodes
noncomputable abbrev Nams (A : AB) (is : List Int) (ns : List String) : Prop := All2 (Nam A) is ns
section
variable {A A1 : AB} {r st : XSt} {n q i p : Nat} {env : XEnv} {xs : List XVal} {v w : XVal} {k j t : Int} {l base inner : List Int} {nd : Nd} {name word s nm : String} {ns : List String} {at_ : List (String × String)} {sl : Bool}
theorem isHtml_ok (h : Nam A k nm) : CV n "Tree.is_html" [.ref 2 0, .int k, .str s] (BSt A r) (.bool (decide (nm = s))) (BSt A r) := by
  obtain ⟨nd, h1, rfl, h2⟩ := h.is
  exact is_html_ok h1 h2
theorem nameN_ok (h : A.items = l ++ [k]) (hn : Nam A k nm) : CV (n + 1) "OpenStack.name" [.ref 3 0] (BSt A r) (.str nm) (BSt A r) := by
  obtain ⟨nd, h1, rfl, h2⟩ := hn.is
  exact name_ok h h1 h2
noncomputable def hasB : XS := .cons (.ite (.meth (.attr (.loc "self") "tree") "is_html" (.cons (.loc "node") (.cons (.loc "name") .nil))) (.cons (.ret (.cB true)) .nil) .nil) .nil
theorem drop_cons {α : Type} {l ms : List α} {m : α} {k : Nat} (h : l.drop k = m :: ms) : l[k]? = some m ∧ l.drop (k + 1) = ms := by
  have h1 := congrArg List.head? h
  have h2 := congrArg List.tail h
  rw [List.head?_drop] at h1
  rw [List.tail_drop] at h2
  exact ⟨h1, h2⟩
theorem has_loop {Q : XFlow → XEnv → XSt → Prop} {ms : List Int} (h : Nams A ms ns) : ∀ (k : Nat) (env : XEnv), A.items.drop k = ms → env "self" = some (.ref 3 0) → env "name" = some (.str s) →
    (s ∈ ns → ∀ env', Q (.ret (.bool true)) env' (BSt A r)) → (s ∉ ns → ∀ env', Q .next env' (BSt A r)) → Bf (n + 1) "node" (IL 15 0 k) hasB env (BSt A r) Q := by
  induction h with
  | nil => exact fun k env hk e1 e2 q1 q2 => L.stop (xs := A.items.map .int) rfl (by rw [List.getElem?_map, List.getElem?_eq_none (List.drop_eq_nil_iff.mp hk)]; rfl) (q2 (fun z => nomatch z) _)
  | @cons m nm ms ns a al ih =>
    intro k env hk e1 e2 q1 q2
    have hk := drop_cons hk
    refine L.turn (xs := A.items.map .int) rfl (v := .int m) (by rw [List.getElem?_map, hk.1]; rfl) (G.ite_ (E.own (cl := "Tree") (E.attr (E.loc e1) rfl) rfl (EE.cons (E.loc rfl) (EE.one (E.loc e2))) (isHtml_ok a)) ?_)
    by_cases z : nm = s
    · rw [decide_eq_true z]; exact G.ret E.cB (q1 (z ▸ .head _) _)
    · rw [decide_eq_false z]; exact G.fin (ih (k + 1) _ hk.2 e1 e2 (fun y => q1 (.tail _ y)) fun y => q2 fun x => (List.mem_cons.mp x).elim (fun e => z e.symm) y)
theorem hasName_ok (h : Nams A A.items ns) : CV (n + 1) "OpenStack.has_name" [.ref 3 0, .str s] (BSt A r) (.bool (decide (s ∈ ns))) (BSt A r) := Cl.is <|
  G.enter (fn := f_OpenStack_has_name) rfl rfl (G.forL (xs := A.items.map .int) (E.attr (E.loc rfl) rfl) rfl (has_loop h 0 _ rfl rfl rfl (fun z _ => ⟨by rw [decide_eq_true z]; rfl, rfl⟩) fun z _ => G.ret E.cB ⟨by rw [decide_eq_false z]; rfl, rfl⟩))
theorem gt0 (h : A.items = l ++ [k]) : cmpX .gt (.int A.items.length) (.int 0) = some true := congrArg some (decide_eq_true (by rw [h, len_snoc]; exact Int.ofNat_lt.mpr (Nat.succ_pos _)))
theorem rev_snoc {m : Int} : base ++ t :: (m :: inner).reverse = (base ++ t :: inner.reverse) ++ [m] := by rw [List.reverse_cons, List.append_assoc]; rfl
noncomputable def untB : XS := (.cons (.asg "name" (.meth (.loc "self") "name" .nil)) (.cons (.asg "node" (.meth (.attr (.loc "self") "items") "pop" .nil)) (.cons (.ite (.cmp .inn (.loc "name") (.loc "names")) (.cons (.ret (.loc "node")) .nil) .nil) .nil)))
theorem until_loop {Q : XFlow → XEnv → XSt → Prop} (hn : Nams A inner ns) : ∀ (A1 : AB) (env : XEnv), A1.nodes = A.nodes → A1.items = base ++ t :: inner.reverse → Nam A t "template" → "template" ∉ ns → env "self" = some (.ref 3 0) → env "names" = some (.tup [.str "template"]) → (∀ env', Q (.ret (.int t)) env' (BSt { A1 with items := base } r)) →
    Bw (n + 2) (.cmp .gt (.len (.attr (.loc "self") "items")) (.cI 0)) untB env (BSt A1 r) Q := by
  induction hn with
  | nil =>
    intro A1 env hA hi ht ho e1 e2 hQ
    have ht1 : Nam A1 t "template" := let ⟨nd, a, b⟩ := ht.is; ⟨nd, ⟨by obtain ⟨m, x, y⟩ := a; exact ⟨m, x, hA ▸ y⟩, b⟩⟩
    refine W.turn (E.cmp (E.len (E.attr (E.loc e1) rfl) (len_I rfl)) E.cI (gt0 (l := base) hi)) (G.asg (E.own (cl := "OpenStack") (E.loc e1) rfl EE.nil (nameN_ok (l := base) hi ht1)) (G.asg (E.to (E.pop (E.attr (E.loc e1) rfl) (items_snoc (l := base) hi)) (st_items rfl)) (G.iteT ?_ (G.ret (E.loc rfl) (hQ _)))))
    exact E.to2 (E.inS (l := ["template"]) (E.loc rfl) (E.loc e2) rfl) (congrArg XVal.bool (decide_eq_true (.head _))) rfl
  | @cons m nm inner ns hm hi' ih =>
    intro A1 env hA hi ht ho e1 e2 hQ
    rw [rev_snoc] at hi
    have hm1 : Nam A1 m nm := let ⟨nd, a, b⟩ := hm.is; ⟨nd, ⟨by obtain ⟨m, x, y⟩ := a; exact ⟨m, x, hA ▸ y⟩, b⟩⟩
    refine W.turn (E.cmp (E.len (E.attr (E.loc e1) rfl) (len_I rfl)) E.cI (gt0 hi)) (G.asg (E.own (cl := "OpenStack") (E.loc e1) rfl EE.nil (nameN_ok hi hm1)) (G.asg (E.to (E.pop (E.attr (E.loc e1) rfl) (items_snoc hi)) (st_items rfl)) (G.iteF (E.to2 (E.inS (l := ["template"]) (E.loc rfl) (E.loc e2) rfl) (congrArg XVal.bool (decide_eq_false fun z => ho (List.mem_singleton.mp z ▸ .head _))) rfl) (G.fin ?_))))
    exact ih { A1 with items := base ++ t :: inner.reverse } _ hA rfl ht (fun z => ho (.tail _ z)) e1 e2 hQ
theorem popUntil_ok (hi : A.items = base ++ t :: inner.reverse) (ht : Nam A t "template") (hn : Nams A inner ns) (hns : "template" ∉ ns) : CV (n + 2) "OpenStack.pop_until" [.ref 3 0, .tup [.str "template"]] (BSt A r) (.int t) (BSt { A with items := base } r) := Cl.is <|
  G.enter (fn := f_OpenStack_pop_until) rfl rfl (G.whl (until_loop hn A _ rfl hi ht hns rfl rfl fun env' => ⟨rfl, rfl⟩))
theorem mark_ok (h : A.fitems.length < 1000) : CV n "Formatting.mark" [.ref 4 0] (BSt A r) .none (BSt { A with fitems := A.fitems ++ [-1] } r) := Cl.is <|
  G.enter (fn := f_Formatting_mark) rfl rfl (G.expr (E.to (E.append (E.attr (E.loc rfl) rfl) rfl E.cI rfl (by rw [List.length_map]; exact Nat.lt_trans h (by decide))) (st_fitems (map_snoc _ _ _))) (G.fin ⟨rfl, rfl⟩))
theorem clear_ok (h : A.fitems = l ++ [-1]) : CV n "Formatting.clear_to_mark" [.ref 4 0] (BSt A r) .none (BSt { A with fitems := l } r) := Cl.is <| by
  have g : (BSt A r 16)[0]? = some (.list (l.map .int ++ [.int (-1)])) := by
    show some (XObj.list (A.fitems.map .int)) = _
    rw [h, List.map_append]; rfl
  exact G.enter (fn := f_Formatting_clear_to_mark) rfl rfl (G.whl (W.turn (E.cmp (E.len (E.attr (E.loc rfl) rfl) (len_I rfl)) E.cI (congrArg some (decide_eq_true (by rw [h, len_snoc]; exact Int.ofNat_lt.mpr (Nat.succ_pos _)))))
    (G.iteT (E.cmp (E.to (E.pop (E.attr (E.loc rfl) rfl) g) (st_fitems rfl)) E.cI rfl) (G.retN ⟨rfl, rfl⟩))))
theorem modes_snoc {l : List String} (h : A.modes = l ++ [s]) : (BSt A r 17)[0]? = some (.list (l.map .str ++ [.str s])) := by
  show some (XObj.list (A.modes.map .str)) = _
  rw [h, List.map_append]; rfl
theorem openT_ok (I : Ins A p) (hf : A.fitems.length < 1000) (hmd : A.modes.length < 1000) : CV (n + 5) "open_template" [.ref 1 0, tokV (.start "template" sl)] (BSt A r) .none
    (BSt { insE A "template" (atN "template") p with fitems := A.fitems ++ [-1], frameOk := false, mode := "in template", modes := A.modes ++ ["in template"] } r) := Cl.is <|
  G.enter (fn := f_open_template) rfl rfl (G.expr (E.call (EE.cons (E.loc rfl) (EE.one (E.loc rfl))) (insTok_ok I)) (G.expr (E.own (cl := "Formatting") (E.attr (E.loc rfl) rfl) rfl EE.nil (mark_ok (A := insE A "template" (atN "template") p) hf)) (G.asgA E.cB (E.loc rfl) (sa_is_frameset_ok false)
    (G.expr (E.own (cl := "Builder") (E.loc rfl) rfl (EE.one E.cS) to_ok) (G.expr (E.to (E.append (E.attr (E.loc rfl) rfl) rfl E.cS rfl (by rw [List.length_map]; exact Nat.lt_trans hmd (by decide))) (st_modes (map_snoc _ _ _))) (G.fin ⟨rfl, rfl⟩))))))
end
end Mine
end

section
set_option maxRecDepth 100000
set_option genInjectivity false
namespace Mine
noncomputable def impl1 : List String := ["dd", "dt", "li", "optgroup", "option", "p", "rb", "rp", "rt", "rtc"]
noncomputable def impl2 : List String := ["dd", "dt", "li", "optgroup", "option", "p", "rb", "rp", "rt", "rtc", "caption", "colgroup", "tbody", "td", "tfoot", "th", "thead", "tr"]
noncomputable def modeF (n : String) : String := if n = "html" then "after head" else if n = "head" then "in head" else if n = "template" then "in template" else ""
noncomputable def LowN (n : String) (o : Prop) : Prop := n = "html" ∨ (n = "head" ∧ o) ∨ n = "template" ∨ n = "li" ∨ n = "div"
noncomputable def resetM (l : List String) : String := l.rec "" fun n _ ih => if modeF n = "" then ih else modeF n
noncomputable def LowOk (l : List String) : Prop := l.rec True fun n l ih => LowN n (l ≠ []) ∧ ih
section
variable {A A1 : AB} {r st : XSt} {n q i p : Nat} {env : XEnv} {xs : List XVal} {v w : XVal} {k j t x : Int} {l base inner rest lis : List Int} {nd : Nd} {name word s nm : String} {ns bs : List String} {at_ : List (String × String)} {sl : Bool}
theorem impl_ok : CV (n + 1) "all_implied_names" [] (BSt A r) (.tup (impl2.map .str)) (BSt A r) := Cl.is <|
  G.enter (fn := f_all_implied_names) rfl rfl (G.ret (E.catT (E.call EE.nil (Cl.is (v := .tup (impl1.map .str)) (G.enter (fn := f_implied_names) rfl rfl (G.ret (E.tup (EE.cons E.cS (EE.cons E.cS (EE.cons E.cS (EE.cons E.cS (EE.cons E.cS (EE.cons E.cS (EE.cons E.cS (EE.cons E.cS (EE.cons E.cS (EE.one E.cS)))))))))) (Nat.le_of_ble_eq_true rfl)) ⟨rfl, rfl⟩))))
    (E.tup (EE.cons E.cS (EE.cons E.cS (EE.cons E.cS (EE.cons E.cS (EE.cons E.cS (EE.cons E.cS (EE.cons E.cS (EE.one E.cS)))))))) (Nat.le_of_ble_eq_true rfl)) ⟨(fun z => nomatch z), (fun z => nomatch z), Nat.le_of_ble_eq_true rfl⟩) ⟨rfl, rfl⟩)
theorem Nam.eq (h : Nam A k nm) (hA : A1.nodes = A.nodes) : Nam A1 k nm := let ⟨nd, a, b⟩ := h.is; ⟨nd, ⟨let ⟨m, x, y⟩ := a; ⟨m, x, hA ▸ y⟩, b⟩⟩
theorem impl_loop {Q : XFlow → XEnv → XSt → Prop} (hx : Nam A x nm) (hnm : nm ∉ impl2) (env : XEnv) (e1 : env "stack" = some (.ref 3 0)) (e2 : env "names" = some (.tup (impl2.map .str))) : ∀ (lis : List Int) (A1 : AB), A1.nodes = A.nodes → A1.items = rest ++ x :: lis.reverse → (∀ i ∈ lis, Nam A i "li") →
    Q .next env (BSt { A1 with items := rest ++ [x] } r) → Bw (n + 2) (.cmp .inn (.meth (.loc "stack") "name" .nil) (.loc "names")) (.cons (.expr (.meth (.loc "stack") "pop" .nil)) .nil) env (BSt A1 r) Q := by
  intro lis
  induction lis with
  | nil =>
    intro A1 hA hi hl hQ
    have hi : A1.items = rest ++ [x] := hi
    rw [← hi] at hQ
    exact W.stop (E.to2 (E.inS (E.own (cl := "OpenStack") (E.loc e1) rfl EE.nil (nameN_ok hi (hx.eq hA))) (E.loc e2) rfl) (congrArg XVal.bool (decide_eq_false hnm)) rfl) hQ
  | cons m lis ih =>
    intro A1 hA hi hl hQ
    rw [rev_snoc] at hi
    exact W.turn (E.to2 (E.inS (E.own (cl := "OpenStack") (E.loc e1) rfl EE.nil (nameN_ok hi ((hl m (.head _)).eq hA))) (E.loc e2) rfl) (congrArg XVal.bool (decide_eq_true (.tail _ (.tail _ (.head _))))) rfl)
      (G.expr (E.own (cl := "OpenStack") (E.loc e1) rfl EE.nil (pop_ok hi)) (G.fin (ih { A1 with items := rest ++ x :: lis.reverse } hA rfl (fun i h => hl i (.tail _ h)) hQ)))
theorem popImpl_ok (hx : Nam A x nm) (hnm : nm ∉ impl2) (hi : A.items = rest ++ x :: lis.reverse) (hl : ∀ i ∈ lis, Nam A i "li") : CV (n + 2) "pop_all_implied" [.ref 3 0] (BSt A r) .none (BSt { A with items := rest ++ [x] } r) := Cl.is <|
  G.enter (fn := f_pop_all_implied) rfl rfl (G.asg (E.call EE.nil impl_ok) (G.whl (impl_loop hx hnm _ rfl rfl lis A rfl hi hl (G.fin ⟨rfl, rfl⟩))))
theorem drop0 {o : XObj} {v : XVal} (hv : InR XSt.nil v) : Drop (BSt A r) (over ([o] :: (bL A).tail) r) (BSt A r) v := Drop.all (fun q => by
  cases q with
  | zero => exact .inr rfl
  | succ q => exact .inl rfl) hv
theorem modeOf_ok (hn : name = "head" ∨ name = "li" ∨ name = "div") : CV n "mode_of" [.str name] (BSt A r) (.str (modeF name)) (BSt A r) := by
  have : CV n "mode_of" [.str name] (BSt A r) (.str (modeF name)) (over ([.sdict ((["td", "th", "tr", "tbody", "thead", "tfoot", "caption", "colgroup", "table", "head", "body", "frameset"] : List String).zip
      [.str "in cell", .str "in cell", .str "in row", .str "in table body", .str "in table body", .str "in table body", .str "in caption", .str "in column group", .str "in table", .str "in head", .str "in body", .str "in frameset"])] :: (bL A).tail) r) := Cl.is <|
    G.enter (fn := f_mode_of) rfl rfl (G.asg (E.to (E.dict 0 (EE.cons E.cS (EE.cons E.cS (EE.cons E.cS (EE.cons E.cS (EE.cons E.cS (EE.cons E.cS (EE.cons E.cS (EE.cons E.cS (EE.cons E.cS (EE.cons E.cS (EE.cons E.cS (EE.one E.cS)))))))))))) (by decide) rfl ⟨(fun z => nomatch z), Nat.le_of_ble_eq_true rfl⟩) (over_push rfl))
      (G.ret (E.to2 (E.get (E.loc rfl) rfl (E.loc rfl) E.cS rfl) (by rcases hn with rfl | rfl | rfl <;> rfl) rfl) ⟨rfl, rfl⟩))
  exact this.drop (drop0 (.str _))
theorem modeFor_ok (h : Nam A k name) (hn : LowN name (j ≠ 0)) (hh : A.head ≠ -1) (hm : name = "template" → ∃ l, A.modes = l ++ ["in template"]) : CV (n + 1) "mode_for" [.ref 1 0, .int k, .int j] (BSt A r) (.str (modeF name)) (BSt A r) := Cl.is <| by
  obtain ⟨nd, h1, h2, h3⟩ := h.is
  have hsel : name ≠ "select" := by rintro rfl; rcases hn with z | ⟨z, _⟩ | z | z | z <;> exact absurd z (by decide)
  refine G.enter (fn := f_mode_for) rfl rfl (G.iteF (E.cmp (E.sub (E.attr (E.attr (E.loc rfl) rfl) rfl) (E.loc rfl) (s_6 h1)) E.cS (neS h3)) (G.asg (v := .str name) (E.to2 (E.sub (E.attr (E.attr (E.loc rfl) rfl) rfl) (E.loc rfl) (s_7 h1)) (congrArg XVal.str h2) rfl) (G.iteF (E.cmp (E.loc rfl) E.cS (congrArg some (decide_eq_false hsel))) ?_)))
  clear h1 h2 h3 hsel
  rcases Classical.em (name = "template") with ht | ht
  · subst ht
    obtain ⟨l, hl⟩ := hm rfl
    exact G.iteT (E.cmp (E.loc rfl) E.cS rfl) (G.ret (E.sub (E.attr (E.loc rfl) rfl) E.cI (sub_last (xs := l.map .str) (w := .str "in template") ((congrArg (fun m : List String => some (m.map XVal.str)) hl).trans (congrArg some List.map_append)))) ⟨rfl, rfl⟩)
  refine G.iteF (E.cmp (E.loc rfl) E.cS (congrArg some (decide_eq_false ht))) ?_
  rcases Classical.em (name = "html") with hht | hht
  · subst hht
    exact G.iteT (E.cmp (E.loc rfl) E.cS rfl) (G.iteF (E.cmp (E.attr (E.loc rfl) rfl) E.cI (congrArg some (decide_eq_false hh))) (G.ret E.cS ⟨rfl, rfl⟩))
  have hn : (name = "head" ∧ j ≠ 0) ∨ name = "li" ∨ name = "div" := hn.elim (fun z => absurd z hht) fun z => z.elim .inl fun z => z.elim (fun z => absurd z ht) .inr
  refine G.iteF (E.cmp (E.loc rfl) E.cS (congrArg some (decide_eq_false hht))) (G.iteF (t := .and _ _) ?_ (G.ret (E.call (EE.one (E.loc rfl)) (modeOf_ok (hn.imp And.left id))) ⟨rfl, rfl⟩))
  rcases Classical.em (j = 0) with hz | hz
  · subst hz
    refine E.andT (E.cmp (E.loc rfl) E.cI rfl) (E.to2 (E.inS (l := ["td", "th", "head"]) (E.loc rfl) (E.tup (EE.cons E.cS (EE.cons E.cS (EE.one E.cS))) (Nat.le_of_ble_eq_true rfl)) rfl) (congrArg XVal.bool ?_) rfl)
    rcases hn with ⟨_, z⟩ | rfl | rfl
    · exact absurd rfl z
    · rfl
    · rfl
  · exact E.andF (E.cmp (E.loc rfl) E.cI (congrArg some (decide_eq_false hz)))
noncomputable def resB : XS := (.cons (.asg "node" (.sub (.attr (.attr (.loc "builder") "stack") "items") (.loc "at")))
      (.cons (.ite (.and (.cmp .eq (.loc "at") (.cI 0)) (.cmp .ne (.attr (.loc "builder") "context") (.cI (-1)))) (.cons (.asg "node" (.attr (.loc "builder") "context")) .nil) .nil)
      (.cons (.asg "mode" (.call "mode_for" (.cons (.loc "builder") (.cons (.loc "node") (.cons (.loc "at") .nil))))) (.cons (.aug "at" .sub (.cI 1)) .nil))))
theorem sub1 {n : Nat} : ((n + 1 : Nat) : Int) - 1 = n := Int.add_sub_cancel (n : Int) 1
theorem reset_loop {Q : XFlow → XEnv → XSt → Prop} (hh : A.head ≠ -1) {is : List Int} (hn : Nams A is ns) : ∀ (rest : List Int) (env : XEnv), LowOk ns → ("template" ∈ ns → ∃ l, A.modes = l ++ ["in template"]) → A.items = is.reverse ++ rest →
    env "builder" = some (.ref 1 0) → env "at" = some (.int ((is.length : Int) - 1)) → env "mode" = some (.str "") → (∀ env', env' "builder" = some (.ref 1 0) → env' "mode" = some (.str (resetM ns)) → Q .next env' (BSt A r)) →
    Bw (n + 2) (.and (.cmp .ge (.loc "at") (.cI 0)) (.cmp .eq (.loc "mode") (.cS ""))) resB env (BSt A r) Q := by
  induction hn with
  | nil => exact fun rest env hl hm hi e1 e2 e3 hQ => W.stop (E.andF (E.cmp (E.loc e2) E.cI rfl)) (hQ env e1 e3)
  | @cons i nm is ns a al ih =>
    intro rest env hl hm hi e1 e2 e3 hQ
    rw [List.length_cons, sub1] at e2
    have hit : A.items[is.length]? = some i := by
      rw [hi, List.reverse_cons, List.append_assoc, List.getElem?_append_right (Nat.le_of_eq List.length_reverse), List.length_reverse, Nat.sub_self]; rfl
    refine W.turn (E.andT (E.cmp (E.loc e2) E.cI (congrArg some (decide_eq_true (Int.natCast_nonneg is.length)))) (E.cmp (E.loc e3) E.cS rfl)) (G.asg (E.sub (E.attr (E.attr (E.loc e1) rfl) rfl) (E.loc e2) (sub_I (l := A.items) rfl hit)) (G.iteF (st1 := BSt A r) (t := .and _ _) ?_
      (G.asg (E.call (EE.cons (E.loc e1) (EE.cons (E.loc rfl) (EE.one (E.loc e2)))) (modeFor_ok a (hl.1.imp id fun z => z.imp (fun z => ⟨z.1, fun y => ?_⟩) id) hh fun z => hm (z ▸ .head _))) (G.aug (.inr rfl) e2 E.cI (G.fin ?_)))))
    · rcases Classical.em ((is.length : Int) = 0) with z | z
      · exact E.andT (E.cmp (E.loc e2) E.cI (congrArg some (decide_eq_true z))) (E.cmp (E.attr (E.loc e1) rfl) E.cI rfl)
      · exact E.andF (E.cmp (E.loc e2) E.cI (congrArg some (decide_eq_false z)))
    · cases List.eq_nil_of_length_eq_zero (Int.ofNat.inj y)
      cases al
      exact z.2 rfl
    · have er : resetM (nm :: ns) = if modeF nm = "" then resetM ns else modeF nm := rfl
      rcases Classical.em (modeF nm = "") with z | z
      · rw [z] at er ⊢
        exact ih (i :: rest) _ hl.2 (fun h => hm (.tail _ h)) (by rw [hi, List.reverse_cons, List.append_assoc]; rfl) e1 rfl rfl fun env' q1 q2 => hQ env' q1 (by rw [er]; exact q2)
      · refine W.stop ?_ (hQ _ e1 (by rw [er, if_neg z]; rfl))
        rcases Classical.em (0 ≤ (is.length : Int) - 1) with y | y
        · exact E.andT (E.cmp (E.loc rfl) E.cI (congrArg some (decide_eq_true y))) (E.cmp (E.loc rfl) E.cS (congrArg some (decide_eq_false z)))
        · exact E.andF (E.cmp (E.loc rfl) E.cI (congrArg some (decide_eq_false y)))
end
end Mine
end

section
set_option maxRecDepth 100000
set_option genInjectivity false
namespace Mine
section
variable {A A1 : AB} {r st : XSt} {n q i p : Nat} {env : XEnv} {xs : List XVal} {v w : XVal} {k j t x : Int} {l base inner rest lis fl : List Int} {nd : Nd} {name word s nm : String} {ns bs ml as : List String} {at_ : List (String × String)} {sl : Bool}
theorem reset_ok (hh : A.head ≠ -1) (hn : Nams A A.items.reverse ns) (hl : LowOk ns) (hm : "template" ∈ ns → ∃ l, A.modes = l ++ ["in template"]) (hne : resetM ns ≠ "") : CV (n + 2) "reset_mode" [.ref 1 0] (BSt A r) .none (BSt { A with mode := resetM ns } r) := Cl.is <|
  G.enter (fn := f_reset_mode) rfl rfl (G.asg (E.sbt (E.own (cl := "OpenStack") (E.attr (E.loc rfl) rfl) rfl EE.nil many_ok) E.cI) (G.asg E.cS (G.whl (reset_loop hh hn [] _ hl hm (by rw [List.reverse_reverse, List.append_nil]) rfl (by rw [List.length_reverse]; rfl) rfl fun env' e1 e2 =>
    G.iteF (E.cmp (E.loc e2) E.cS (congrArg some (decide_eq_false hne))) (G.expr (E.own (cl := "Builder") (E.loc e1) rfl (EE.one (E.loc e2)) to_ok) (G.fin ⟨rfl, rfl⟩))))))
theorem leaveT_ok (hh : A.head ≠ -1) (hi : A.items = base ++ t :: inner.reverse) (ht : Nam A t "template") (hn : Nams A inner ns) (hns : "template" ∉ ns) (hf : A.fitems = fl ++ [-1]) (hml : A.modes = ml ++ ["in template"])
    (hb : Nams A base.reverse bs) (hl : LowOk bs) (hm : "template" ∈ bs → ∃ l, ml = l ++ ["in template"]) (hne : resetM bs ≠ "") : CV (n + 3) "leave_template" [.ref 1 0] (BSt A r) .none (BSt { A with items := base, fitems := fl, modes := ml, mode := resetM bs } r) := Cl.is <|
  G.enter (fn := f_leave_template) rfl rfl (G.expr (E.own (cl := "OpenStack") (E.attr (E.loc rfl) rfl) rfl (EE.one (E.tup (EE.one E.cS) (Nat.le_of_ble_eq_true rfl))) (popUntil_ok hi ht hn hns)) (G.expr (E.own (cl := "Formatting") (E.attr (E.loc rfl) rfl) rfl EE.nil (clear_ok (A := { A with items := base }) hf))
    (G.expr (E.to (E.pop (E.attr (E.loc rfl) rfl) (modes_snoc (A := { A with items := base, fitems := fl }) hml)) (st_modes rfl)) (G.expr (E.call (EE.one (E.loc rfl)) (reset_ok (A := { A with items := base, fitems := fl, modes := ml }) hh (hb.mono fun _ _ q => q.eq rfl) hl hm hne)) (G.fin ⟨rfl, rfl⟩)))))
theorem closeT_no (hn : Nams A A.items ns) (hns : "template" ∉ ns) (he : A.errors.length < 1000) : CV (n + 2) "close_template" [.ref 1 0] (BSt A r) .none (BSt { A with errors := A.errors ++ [("unexpected-end-tag", A.mode)] } r) := Cl.is <|
  G.enter (fn := f_close_template) rfl rfl (G.iteT (E.to2 (E.not (E.own (cl := "OpenStack") (E.attr (E.loc rfl) rfl) rfl (EE.one E.cS) (hasName_ok hn))) (congrArg XVal.bool (congrArg not (decide_eq_false hns))) rfl) (G.expr (E.own (cl := "Builder") (E.loc rfl) rfl (EE.one E.cS) (error_ok he)) (G.retN ⟨rfl, rfl⟩)))
theorem split_li (hn : Nams A inner ns) : (∀ n ∈ ns, n = "li" ∨ n = "div") → ∃ lis rest, inner = lis ++ rest ∧ (∀ i ∈ lis, Nam A i "li") ∧ ((rest = [] ∧ "div" ∉ ns) ∨ ∃ x rest' rs, rest = x :: rest' ∧ Nam A x "div" ∧ "div" ∈ ns ∧ Nams A rest' rs ∧ "template" ∉ rs) := by
  induction hn with
  | nil => exact fun _ => ⟨[], [], rfl, (fun i h => nomatch h), .inl ⟨rfl, fun z => nomatch z⟩⟩
  | @cons i m inner ns a al ih =>
    intro h
    rcases h m (.head _) with rfl | rfl
    · obtain ⟨lis, rest, h1, h2, h3⟩ := ih fun m hm => h m (.tail _ hm)
      refine ⟨i :: lis, rest, by rw [h1]; rfl, fun j hj => (List.mem_cons.mp hj).elim (fun e => e ▸ a) (h2 j), h3.imp (fun z => ⟨z.1, fun y => (List.mem_cons.mp y).elim (fun e => absurd e (by decide)) z.2⟩) fun ⟨x, r', rs, z1, z2, z3, z4⟩ => ⟨x, r', rs, z1, z2, .tail _ z3, z4⟩⟩
    · exact ⟨[], i :: inner, rfl, (fun j hj => nomatch hj), .inr ⟨i, inner, ns, rfl, a, .head _, al, fun q => (h _ (.tail _ q)).elim (fun z => absurd z (by decide)) fun z => absurd z (by decide)⟩⟩
theorem closeT_ok (hh : A.head ≠ -1) (hi : A.items = base ++ t :: inner.reverse) (ht : Nam A t "template") (hn : Nams A inner ns) (hns : ∀ n ∈ ns, n = "li" ∨ n = "div") (hf : A.fitems = fl ++ [-1]) (hml : A.modes = ml ++ ["in template"]) (he : A.errors.length < 1000)
    (hb : Nams A base.reverse bs) (hl : LowOk bs) (hm : "template" ∈ bs → ∃ l, ml = l ++ ["in template"]) (hne : resetM bs ≠ "") (hall : Nams A A.items as) (hat : "template" ∈ as) :
    CV (n + 4) "close_template" [.ref 1 0] (BSt A r) .none (BSt { A with items := base, fitems := fl, modes := ml, mode := resetM bs, errors := if "div" ∈ ns then A.errors ++ [("open-elements", A.mode)] else A.errors } r) := Cl.is <| by
  refine G.enter (fn := f_close_template) rfl rfl (G.iteF (E.to2 (E.not (E.own (cl := "OpenStack") (E.attr (E.loc rfl) rfl) rfl (EE.one E.cS) (hasName_ok hall))) (congrArg XVal.bool (congrArg not (decide_eq_true hat))) rfl) ?_)
  obtain ⟨lis, rest, g1, g2, g3⟩ := split_li hn hns
  subst g1
  rw [List.reverse_append] at hi
  rcases g3 with ⟨rfl, gd⟩ | ⟨x, rest', rs, rfl, gx, gd, gr, gt⟩
  · rw [if_neg gd]
    exact G.expr (E.call (EE.one (E.attr (E.loc rfl) rfl)) (popImpl_ok (rest := base) (nm := "template") ht (by decide) hi g2)) (G.iteF (E.cmp (E.own (cl := "OpenStack") (E.attr (E.loc rfl) rfl) rfl EE.nil (nameN_ok (A := { A with items := base ++ [t] }) rfl (ht.eq rfl))) E.cS rfl)
      (G.expr (E.call (EE.one (E.loc rfl)) (leaveT_ok (A := { A with items := base ++ [t] }) (inner := []) hh rfl (ht.eq rfl) .nil (fun z => nomatch z) hf hml (hb.mono fun _ _ q => q.eq rfl) hl hm hne)) (G.fin ⟨rfl, rfl⟩)))
  · rw [if_pos gd]
    have hi' : A.items = (base ++ t :: rest'.reverse) ++ x :: lis.reverse := by rw [hi, List.reverse_cons, List.append_assoc, List.append_assoc]; rfl
    have hj : (base ++ t :: rest'.reverse) ++ [x] = base ++ t :: (x :: rest').reverse := rev_snoc.symm
    exact G.expr (E.call (EE.one (E.attr (E.loc rfl) rfl)) (popImpl_ok (nm := "div") gx (by decide) hi' g2)) (G.iteT (E.cmp (E.own (cl := "OpenStack") (E.attr (E.loc rfl) rfl) rfl EE.nil (nameN_ok (A := { A with items := (base ++ t :: rest'.reverse) ++ [x] }) rfl (gx.eq rfl))) E.cS rfl)
      (G.expr (E.own (cl := "Builder") (E.loc rfl) rfl (EE.one E.cS) (error_ok (A := { A with items := (base ++ t :: rest'.reverse) ++ [x] }) he))
      (G.expr (E.call (EE.one (E.loc rfl)) (leaveT_ok (A := { A with items := (base ++ t :: rest'.reverse) ++ [x], errors := A.errors ++ [("open-elements", A.mode)] }) (inner := x :: rest') (ns := "div" :: rs) hh hj (ht.eq rfl) (.cons (gx.eq rfl) (gr.mono fun _ _ q => q.eq rfl)) (fun z => (List.mem_cons.mp z).elim (fun z => absurd z (by decide)) gt) hf hml (hb.mono fun _ _ q => q.eq rfl) hl hm hne)) (G.fin ⟨rfl, rfl⟩))))
end
end Mine
end

section
set_option maxRecDepth 100000
set_option genInjectivity false
namespace Mine
noncomputable def spaces : List String := ["\t", "\n", "\u000c", "\r", " "]
noncomputable def spaceT (t : Tok) : Bool := t.casesOn (fun s => decide (s ∈ spaces)) (fun _ => false) false (fun _ _ => false) (fun _ => false) false
noncomputable def unexpT (t : Tok) : String := t.casesOn (fun _ => "unexpected-text") (fun _ => "unexpected-text") "unexpected-doctype" (fun _ _ => "unexpected-start-tag") (fun _ => "unexpected-end-tag") "unexpected-eof"
noncomputable def voids : List String := ["base", "basefont", "bgsound", "link", "meta"]
noncomputable def raws : List String := ["title", "style", "script", "noframes", "template"]
noncomputable def takesT (t : Tok) : Bool := t.casesOn (fun _ => false) (fun _ => false) false (fun n _ => decide (n ∈ voids ++ raws)) (fun n => decide (n = "template")) false
noncomputable def wordT (t : Tok) : String := t.casesOn (fun s => "char" ++ " " ++ s) (fun s => "comment" ++ " " ++ s) "doctype" (fun n _ => "start" ++ " " ++ n) (fun n => "end" ++ " " ++ n) "eof"
noncomputable def headN : List String := ["basefont", "bgsound", "link", "meta", "noframes", "style"]
noncomputable def forHeadT (t : Tok) : Bool := t.casesOn (fun s => decide (s ∈ spaces)) (fun _ => true) false (fun n _ => decide (n ∈ headN)) (fun _ => false) false
noncomputable def passT (t : Tok) : Bool := t.casesOn (fun _ => false) (fun _ => false) true (fun n _ => decide (n ∈ (["head", "noscript"] : List String))) (fun n => !decide (n = "br")) false
noncomputable def rawW (A : AB) (n : String) : String := if n = "title" then "RCDATA" else if n ∈ (["noframes", "style"] : List String) ∨ (n = "noscript" ∧ A.scripting = true) then "RAWTEXT" else if n = "script" then "script data" else ""
structure Top (A : AB) : Prop where
  top : ∃ n l nd, A.items = l ++ [n] ∧ A.at n nd ∧ nd.space = "html"
section
variable {A A1 A' : AB} {r st : XSt} {n q i p : Nat} {env : XEnv} {xs : List XVal} {v w : XVal} {k j x : Int} {l : List Int} {nd : Nd} {name word s nm y f m : String} {t : Tok} {sl : Bool} {e2 : XE} {Q : XFlow → XEnv → XSt → Prop} {bd od ss : XS}
theorem E.kind {c : Bool} (h : env y = some (tokV t)) (hc : decide (t.kind = s) = c) : EV n env st (.cmp .eq (.sub (.loc y) (.cI 0)) (.cS s)) (.bool c) st := E.cmp (E.sub (E.loc h) E.cI (k0 t)) E.cS (congrArg some hc)
theorem space_ok : CV n "is_space" [.str s] st (.bool (decide (s ∈ spaces))) st := Cl.is <|
  G.enter (fn := f_is_space) rfl rfl (G.ret (E.inS (l := spaces) (E.loc rfl) (E.tup (EE.cons E.cS (EE.cons E.cS (EE.cons E.cS (EE.cons E.cS (EE.one E.cS))))) (Nat.le_of_ble_eq_true rfl)) rfl) ⟨rfl, rfl⟩)
theorem spaceT_ok : CV (n + 1) "is_space_token" [tokV t] st (.bool (spaceT t)) st := Cl.is <| G.enter (fn := f_is_space_token) rfl rfl <| by
  cases t with
  | char s => exact G.ret (E.andT (E.cmp (E.sub (E.loc rfl) E.cI rfl) E.cS rfl) (E.call (EE.one (E.sub (E.loc rfl) E.cI rfl)) space_ok)) ⟨rfl, rfl⟩
  | _ => exact G.ret (E.andF (E.cmp (E.sub (E.loc rfl) E.cI rfl) E.cS rfl)) ⟨rfl, rfl⟩
theorem unexp_ok : CV n "unexpected" [tokV t] st (.str (unexpT t)) st := Cl.is <| G.enter (fn := f_unexpected) rfl rfl <| by
  refine G.ite_ (E.kind rfl rfl) ?_
  cases t with
  | start => exact G.ret E.cS ⟨rfl, rfl⟩
  | fin s => exact G.iteT (E.kind (t := .fin s) rfl rfl) (G.ret E.cS ⟨rfl, rfl⟩)
  | doctype => exact G.iteF (E.kind (t := .doctype) rfl rfl) (G.iteT (E.kind (t := .doctype) rfl rfl) (G.ret E.cS ⟨rfl, rfl⟩))
  | eof => exact G.iteF (E.kind (t := .eof) rfl rfl) (G.iteF (E.kind (t := .eof) rfl rfl) (G.iteT (E.kind (t := .eof) rfl rfl) (G.ret E.cS ⟨rfl, rfl⟩)))
  | char s => exact G.iteF (E.kind (t := .char s) rfl rfl) (G.iteF (E.kind (t := .char s) rfl rfl) (G.iteF (E.kind (t := .char s) rfl rfl) (G.ret E.cS ⟨rfl, rfl⟩)))
  | comment s => exact G.iteF (E.kind (t := .comment s) rfl rfl) (G.iteF (E.kind (t := .comment s) rfl rfl) (G.iteF (E.kind (t := .comment s) rfl rfl) (G.ret E.cS ⟨rfl, rfl⟩)))
theorem adjusted_ok (h : A.items = l ++ [k]) : CV (n + 1) "Builder.adjusted" [.ref 1 0] (BSt A r) (.int k) (BSt A r) := Cl.is <| by
  refine G.enter (fn := f_Builder_adjusted) rfl rfl (G.iteF (st1 := BSt A r) (t := .and _ _) ?_ (G.ret (E.own (cl := "OpenStack") (E.attr (E.loc rfl) rfl) rfl EE.nil (current_ok h)) ⟨rfl, rfl⟩))
  rcases Classical.em ((A.items.length : Int) = 1) with z | z
  · exact E.andT (E.cmp (E.own (cl := "OpenStack") (E.attr (E.loc rfl) rfl) rfl EE.nil many_ok) E.cI (congrArg some (decide_eq_true z))) (E.cmp (E.attr (E.loc rfl) rfl) E.cI rfl)
  · exact E.andF (E.cmp (E.own (cl := "OpenStack") (E.attr (E.loc rfl) rfl) rfl EE.nil many_ok) E.cI (congrArg some (decide_eq_false z)))
theorem turn_ok (T : Top A) : CV (n + 3) "is_html_turn" [.ref 1 0, tokV t] (BSt A r) (.bool true) (BSt A r) := Cl.is <| by
  obtain ⟨k, l, nd, h, hn, hs⟩ := T.top
  exact G.enter (fn := f_is_html_turn) rfl rfl (G.iteT (E.orT (E.not (E.own (cl := "Builder") (E.loc rfl) rfl EE.nil (Cl.is (v := .bool false) (G.enter (fn := f_Builder_is_foreign) rfl rfl (G.asg (E.own (cl := "Builder") (E.loc rfl) rfl EE.nil (adjusted_ok h))
    (G.ret (E.andT (E.cmp (E.loc rfl) E.cI (congrArg some (congrArg not (ne_m1 hn.nonneg)))) (E.cmp (E.sub (E.attr (E.attr (E.loc rfl) rfl) rfl) (E.loc rfl) (s_6 hn)) E.cS (neS hs))) ⟨rfl, rfl⟩))))))) (G.ret E.cB ⟨rfl, rfl⟩))
theorem sub_D {es : List (String × XVal)} (h : (st q)[i]? = some (.sdict es)) (hm : lookupS m es = some v) : subX st (.ref q i) (.str m) = some v := by
  show ((st q)[i]?).bind _ = _
  rw [h]; exact hm
theorem use_ok (hm : lookupS m rulesD = some (.fn f)) (k : CV n f [.ref 1 0, tokV t] (BSt A r) .none (BSt A' r)) : CV (n + 1) "Builder.use" [.ref 1 0, .str m, tokV t] (BSt A r) .none (BSt A' r) := Cl.is <|
  G.enter (fn := f_Builder_use) rfl rfl (G.iteF (E.to2 (E.ninD (es := rulesD) (E.loc rfl) (E.attr (E.loc rfl) rfl) rfl) (congrArg (fun o : Option XVal => XVal.bool (!o.isSome)) hm) rfl) (G.asg (E.sub (E.attr (E.loc rfl) rfl) (E.loc rfl) (sub_D (es := rulesD) rfl hm)) (G.expr (E.callv rfl (EE.cons (E.loc rfl) (EE.one (E.loc rfl))) k) (G.fin ⟨rfl, rfl⟩))))
theorem process_ok (T : Top A) (hm : lookupS A.mode rulesD = some (.fn f)) (k : CV (n + 2) f [.ref 1 0, tokV t] (BSt A r) .none (BSt A' r)) : CV (n + 4) "Builder.process" [.ref 1 0, tokV t] (BSt A r) .none (BSt A' r) := Cl.is <|
  G.enter (fn := f_Builder_process) rfl rfl (G.iteT (E.call (EE.cons (E.loc rfl) (EE.one (E.loc rfl))) (turn_ok T)) (G.expr (E.own (cl := "Builder") (E.loc rfl) rfl (EE.cons (E.attr (E.loc rfl) rfl) (EE.one (E.loc rfl))) (use_ok hm k)) (G.fin ⟨rfl, rfl⟩)))
theorem leave_ok (h : A.items = l ++ [x]) (hm : lookupS m rulesD = some (.fn f)) (T : Top { A with items := l, mode := m }) (k : CV (n + 2) f [.ref 1 0, tokV t] (BSt { A with items := l, mode := m } r) .none (BSt A' r)) :
    CV (n + 5) "leave" [.ref 1 0, tokV t, .str m] (BSt A r) .none (BSt A' r) := Cl.is <|
  G.enter (fn := f_leave) rfl rfl (G.expr (E.own (cl := "OpenStack") (E.attr (E.loc rfl) rfl) rfl EE.nil (pop_ok h)) (G.expr (E.own (cl := "Builder") (E.loc rfl) rfl (EE.one (E.loc rfl)) to_ok) (G.expr (E.own (cl := "Builder") (E.loc rfl) rfl (EE.one (E.loc rfl)) (process_ok (A := { A with items := l, mode := m }) T hm k)) (G.fin ⟨rfl, rfl⟩))))
theorem dropL {o : List XObj} {v : XVal} (hv : InR XSt.nil v) : Drop (BSt A r) (over (o :: (bL A).tail) r) (BSt A r) v := Drop.all (fun q => by
  cases q with
  | zero => exact .inr rfl
  | succ q => exact .inl rfl) hv
theorem voids_ok (q : Nat) : CV n "_law_voids" [] st (.ref q (st q).length) (st.push q (.list (voids.map .str))) := Cl.is <|
  G.enter (fn := f__law_voids) rfl rfl (G.ret (E.list q (EE.cons E.cS (EE.cons E.cS (EE.cons E.cS (EE.cons E.cS (EE.one E.cS))))) (Nat.le_of_ble_eq_true rfl)) ⟨rfl, rfl⟩)
theorem Cl.drop {f : String} {args : List XVal} {o : List XObj} (h : Cl n f args (BSt A r) fun w s => w = v ∧ ∃ o, s = over (o :: (bL A).tail) r) (hv : InR XSt.nil v) : CV n f args (BSt A r) v (BSt A r) := by
  obtain ⟨_, _, c, rfl, o, rfl⟩ := h
  exact c.drop (dropL hv)
theorem takes_ok : CV (n + 1) "_law_takes" [tokV t] (BSt A r) (.bool (takesT t)) (BSt A r) := Cl.drop (o := []) (hv := .bool _) <| G.enter (fn := f__law_takes) rfl rfl <| by
  refine G.ite_ (E.kind rfl rfl) ?_
  cases t with
  | fin s => exact G.ret (E.cmp (E.sub (E.loc rfl) E.cI rfl) E.cS rfl) ⟨rfl, [], rfl⟩
  | start s sl =>
    exact G.asg (E.to (E.list 0 (EE.cons E.cS (EE.cons E.cS (EE.cons E.cS (EE.cons E.cS (EE.one E.cS))))) (Nat.le_of_ble_eq_true rfl)) (over_push rfl)) (G.ret (E.andT (E.kind (t := .start s sl) rfl rfl) (E.inS (l := voids ++ raws) (E.sub (E.loc rfl) E.cI rfl)
      (E.to (E.catL 0 (E.to (E.call EE.nil (voids_ok 0)) (over_push rfl)) (E.loc rfl) rfl rfl (Nat.le_of_ble_eq_true rfl)) (over_push rfl)) rfl)) ⟨rfl, _, rfl⟩)
  | _ => exact G.asg (E.to (E.list 0 (EE.cons E.cS (EE.cons E.cS (EE.cons E.cS (EE.cons E.cS (EE.one E.cS))))) (Nat.le_of_ble_eq_true rfl)) (over_push rfl)) (G.ret (E.andF (E.cmp (E.sub (E.loc rfl) E.cI rfl) E.cS rfl)) ⟨rfl, _, rfl⟩)
theorem cat2 {e1 : XE} {a b : String} (h1 : EV n env st e1 (.str a) st) (h2 : EV n env st e2 (.str b) st) (h : (a ++ " " ++ b).length ≤ 1000) : EV n env st (.bin .add (.bin .add e1 (.cS " ")) e2) (.str (a ++ " " ++ b)) st := by
  have h' : (a ++ " ").length + b.length ≤ 1000 := String.length_append .. ▸ h
  exact E.cat (E.cat h1 E.cS (Nat.le_trans (Nat.le_trans (Nat.le_of_eq (String.length_append ..).symm) (Nat.le_trans (Nat.le_add_right _ _) h')) (by decide))) h2 (Nat.le_trans h' (by decide))
theorem word_ok (hsz : (wordT t).length ≤ 1000) : CV n "_law_word" [tokV t] (BSt A r) (.str (wordT t)) (BSt A r) := Cl.drop (o := []) (hv := .str _) <| G.enter (fn := f__law_word) rfl rfl <| by
  have c : EV n (envOf [("token", tokV t)]) (BSt A r) (.cmp .inn (.sub (.loc "token") (.cI 0)) (.list (.cons (.cS "char") (.cons (.cS "comment") (.cons (.cS "start") (.cons (.cS "end") .nil)))))) (.bool (decide (t.kind ∈ (["char", "comment", "start", "end"] : List String)))) _ :=
    E.inS (l := ["char", "comment", "start", "end"]) (E.sub (E.loc rfl) E.cI (k0 t)) (E.to (E.list 0 (EE.cons E.cS (EE.cons E.cS (EE.cons E.cS (EE.one E.cS)))) (Nat.le_of_ble_eq_true rfl)) (over_push rfl)) rfl
  cases t with
  | doctype => exact G.ret (E.ifF c (E.sub (E.loc rfl) E.cI rfl)) ⟨rfl, _, rfl⟩
  | eof => exact G.ret (E.ifF c (E.sub (E.loc rfl) E.cI rfl)) ⟨rfl, _, rfl⟩
  | _ => exact G.ret (E.ifT c (cat2 (E.sub (E.loc rfl) E.cI rfl) (E.sub (E.loc rfl) E.cI rfl) hsz)) ⟨rfl, _, rfl⟩
theorem rawState_ok : CV n "raw_state" [.ref 1 0, .str s] (BSt A r) (.str (rawW A s)) (BSt A r) := Cl.is <| G.enter (fn := f_raw_state) rfl rfl <| by
  unfold rawW
  refine G.ite_ (E.cmp (E.loc rfl) E.cS (c := decide (s = "title")) rfl) ?_
  rcases Classical.em (s = "title") with z | z
  · rw [decide_eq_true z, if_pos z]; exact G.ret E.cS ⟨rfl, rfl⟩
  rw [decide_eq_false z, if_neg z]
  have c : EV n (envOf [("builder", .ref 1 0), ("name", .str s)]) (BSt A r) (.or (.cmp .inn (.loc "name") (.tup (.cons (.cS "noframes") (.cons (.cS "style") .nil)))) (.and (.cmp .eq (.loc "name") (.cS "noscript")) (.attr (.loc "builder") "is_scripting")))
      (.bool (decide (s ∈ (["noframes", "style"] : List String) ∨ (s = "noscript" ∧ A.scripting = true)))) (BSt A r) := by
    have c1 : EV n (envOf [("builder", .ref 1 0), ("name", .str s)]) (BSt A r) (.cmp .inn (.loc "name") (.tup (.cons (.cS "noframes") (.cons (.cS "style") .nil)))) (.bool (decide (s ∈ (["noframes", "style"] : List String)))) (BSt A r) := E.inS (E.loc rfl) (E.tup (EE.cons E.cS (EE.one E.cS)) (Nat.le_of_ble_eq_true rfl)) rfl
    rcases Classical.em (s ∈ (["noframes", "style"] : List String)) with z | z
    · rw [decide_eq_true z] at c1
      rw [decide_eq_true (Or.inl z)]
      exact E.orT c1
    rw [decide_eq_false z] at c1
    rcases Classical.em (s = "noscript") with y | y
    · subst y
      refine E.to2 (E.orF c1 (E.andT (E.cmp (E.loc rfl) E.cS rfl) (E.attr (E.loc rfl) (v := .bool A.scripting) rfl))) (congrArg XVal.bool ?_) rfl
      cases A.scripting <;> rfl
    · rw [decide_eq_false fun h => h.elim z fun h => y h.1]
      exact E.orF c1 (E.andF (E.cmp (E.loc rfl) E.cS (congrArg some (decide_eq_false y))))
  refine G.ite_ c ?_
  clear c
  rcases Classical.em (s ∈ (["noframes", "style"] : List String) ∨ (s = "noscript" ∧ A.scripting = true)) with z | z
  · rw [decide_eq_true z, if_pos z]; exact G.ret E.cS ⟨rfl, rfl⟩
  rw [decide_eq_false z, if_neg z]
  refine G.ite_ (E.cmp (E.loc rfl) E.cS (c := decide (s = "script")) rfl) ?_
  rcases Classical.em (s = "script") with z | z
  · rw [decide_eq_true z, if_pos z]; exact G.ret E.cS ⟨rfl, rfl⟩
  · rw [decide_eq_false z, if_neg z]; exact G.ret E.cS ⟨rfl, rfl⟩
theorem forHead_ok : CV (n + 2) "is_for_head" [tokV t] st (.bool (forHeadT t)) st := Cl.is <| G.enter (fn := f_is_for_head) rfl rfl <| by
  cases t with
  | char s =>
    rcases h : decide (s ∈ spaces) with _ | _
    · exact G.iteF (E.to2 (E.orF (E.to2 (E.call (EE.one (E.loc rfl)) (spaceT_ok (t := .char s))) (congrArg XVal.bool h) rfl) (E.kind (t := .char s) rfl rfl)) rfl rfl) (G.ret (E.andF (E.kind (t := .char s) rfl rfl)) ⟨congrArg XVal.bool h.symm, rfl⟩)
    · exact G.iteT (E.orT (E.to2 (E.call (EE.one (E.loc rfl)) (spaceT_ok (t := .char s))) (congrArg XVal.bool h) rfl)) (G.ret E.cB ⟨congrArg XVal.bool h.symm, rfl⟩)
  | comment s => exact G.iteT (E.orF (E.call (EE.one (E.loc rfl)) (spaceT_ok (t := .comment s))) (E.kind (t := .comment s) rfl rfl)) (G.ret E.cB ⟨rfl, rfl⟩)
  | start m sl =>
    exact G.iteF (E.orF (E.call (EE.one (E.loc rfl)) (spaceT_ok (t := .start m sl))) (E.kind (t := .start m sl) rfl rfl)) (G.ret (E.andT (E.kind (t := .start m sl) rfl rfl) (E.inS (l := headN) (E.sub (E.loc rfl) E.cI rfl) (E.tup (EE.cons E.cS (EE.cons E.cS (EE.cons E.cS (EE.cons E.cS (EE.cons E.cS (EE.one E.cS)))))) (Nat.le_of_ble_eq_true rfl)) rfl)) ⟨rfl, rfl⟩)
  | doctype => exact G.iteF (E.orF (E.call (EE.one (E.loc rfl)) (spaceT_ok (t := .doctype))) (E.kind (t := .doctype) rfl rfl)) (G.ret (E.andF (E.kind (t := .doctype) rfl rfl)) ⟨rfl, rfl⟩)
  | eof => exact G.iteF (E.orF (E.call (EE.one (E.loc rfl)) (spaceT_ok (t := .eof))) (E.kind (t := .eof) rfl rfl)) (G.ret (E.andF (E.kind (t := .eof) rfl rfl)) ⟨rfl, rfl⟩)
  | fin s => exact G.iteF (E.orF (E.call (EE.one (E.loc rfl)) (spaceT_ok (t := .fin s))) (E.kind (t := .fin s) rfl rfl)) (G.ret (E.andF (E.kind (t := .fin s) rfl rfl)) ⟨rfl, rfl⟩)
theorem pass_ok : CV n "is_passed_over" [tokV t] st (.bool (passT t)) st := Cl.is <| G.enter (fn := f_is_passed_over) rfl rfl <| by
  refine G.ite_ (E.kind rfl rfl) ?_
  cases t with
  | start m sl => exact G.ret (E.inS (l := ["head", "noscript"]) (E.sub (E.loc rfl) E.cI rfl) (E.tup (EE.cons E.cS (EE.one E.cS)) (Nat.le_of_ble_eq_true rfl)) rfl) ⟨rfl, rfl⟩
  | fin s => exact G.iteT (E.kind (t := .fin s) rfl rfl) (G.ret (E.cmp (E.sub (E.loc rfl) E.cI rfl) E.cS rfl) ⟨rfl, rfl⟩)
  | _ => exact G.iteF (E.cmp (E.sub (E.loc rfl) E.cI rfl) E.cS rfl) (G.ret (E.cmp (E.sub (E.loc rfl) E.cI rfl) E.cS rfl) ⟨rfl, rfl⟩)
end
end Mine
end

section
set_option maxRecDepth 100000
set_option genInjectivity false
namespace Mine
noncomputable def AB.top (A : AB) : Int := A.items.getLast?.getD (-1)
noncomputable def AB.hold (A : AB) : Nat := (holdI A A.top).toNat
noncomputable def AB.ins (A : AB) (n : String) : AB := insE A n (atN n) A.hold
noncomputable def AB.com (A : AB) (t : String) : AB := insC A t A.hold
noncomputable def AB.err (A : AB) (w : String) : AB := { A with errors := A.errors ++ [(w, A.mode)] }
noncomputable def lastText (A : AB) (p : Nat) : Option Nat := (A.nodes[(lastI A p).toNat]?).bind fun nd => if lastI A p ≠ -1 ∧ nd.kind = "text" then some (lastI A p).toNat else none
noncomputable def AB.sign (A : AB) (s : String) : AB := (lastText A A.hold).elim (insT A s A.hold) fun k => addText A k s
noncomputable def AB.pop (A : AB) : AB := { A with items := A.items.dropLast }
noncomputable def TxOk (A : AB) (m : Nat) : Prop := ∀ nd ∈ A.nodes, nd.text.length ≤ m
theorem kids_mem {i x : Int} : ∀ (l : List Nd) (k : Nat), x ∈ kidsFrom l k i → ∃ (j : Nat) (nd : Nd), x = ((k + j : Nat) : Int) ∧ l[j]? = some nd ∧ nd.up = i := by
  intro l
  induction l with
  | nil => exact fun k h => nomatch h
  | cons n l ih =>
    intro k h
    have up : x ∈ kidsFrom l (k + 1) i → ∃ (j : Nat) (nd : Nd), x = ((k + j : Nat) : Int) ∧ (n :: l)[j]? = some nd ∧ nd.up = i := fun h =>
      let ⟨j, nd, e, hj⟩ := ih (k + 1) h
      ⟨j + 1, nd, e.trans (congrArg Nat.cast (Nat.add_right_comm k 1 j)), hj⟩
    rw [kids_cons] at h
    by_cases z : n.up = i
    · rw [if_pos z] at h
      exact (List.mem_cons.mp h).elim (fun e => ⟨0, n, e, rfl, z⟩) up
    · rw [if_neg z] at h; exact up h
section
variable {A A1 A' : AB} {r st st1 : XSt} {n q i p : Nat} {env : XEnv} {v w : XVal} {k j x : Int} {l : List Int} {nd : Nd} {s f m : String} {t : Tok} {sl : Bool} {te : XE} {Q : XFlow → XEnv → XSt → Prop} {bd od ss : XS}
theorem G.iteD {P : Prop} [Decidable P] (h : EV n env st te (.bool (decide P)) st1) (kT : P → Bx n (app bd ss) env st1 Q) (kF : ¬P → Bx n (app od ss) env st1 Q) : Bx n (.cons (.ite te bd od) ss) env st Q := G.ite_ h (by
  by_cases z : P
  · rw [decide_eq_true z]; exact kT z
  · rw [decide_eq_false z]; exact kF z)
theorem G.iteB {b : Bool} (h : EV n env st te (.bool b) st1) (kT : b = true → Bx n (app bd ss) env st1 Q) (kF : b = false → Bx n (app od ss) env st1 Q) : Bx n (.cons (.ite te bd od) ss) env st Q := G.ite_ h (by
  cases b with
  | true => exact kT rfl
  | false => exact kF rfl)
theorem last_at (p : Nat) : (lastI A p = -1 ∧ kidsFrom A.nodes 0 (p : Int) = []) ∨ ∃ (k : Nat) (nd : Nd) (l : List Int), lastI A p = k ∧ A.nodes[k]? = some nd ∧ nd.up = p ∧ kidsFrom A.nodes 0 (p : Int) = l ++ [(k : Int)] := by
  unfold lastI
  rcases List.eq_nil_or_concat (kidsFrom A.nodes 0 (p : Int)) with h | ⟨l, x, h⟩
  · rw [h]; exact .inl ⟨rfl, rfl⟩
  · rw [List.concat_eq_append] at h
    obtain ⟨j, nd, e, h1, h2⟩ := kids_mem A.nodes 0 (x := x) (i := (p : Int)) (by rw [h]; exact List.mem_append_right _ (.head _))
    rw [Nat.zero_add] at e
    subst e
    exact .inr ⟨j, nd, l, by rw [h, List.getLast?_append]; rfl, h1, h2, h⟩
theorem lastText_no (h : lastI A p = -1) : lastText A p = none := by
  unfold lastText
  rw [h]
  cases A.nodes[(-1 : Int).toNat]? with
  | none => rfl
  | some nd => exact if_neg (t := some 0) fun z : (-1 : Int) ≠ -1 ∧ nd.kind = "text" => z.1 rfl
theorem lastText_at {k : Nat} (h : lastI A p = k) (hk : A.nodes[k]? = some nd) : lastText A p = if nd.kind = "text" then some k else none := by
  unfold lastText
  rw [h]
  show (A.nodes[k]?).bind _ = _
  rw [hk]
  show (if (k : Int) ≠ -1 ∧ nd.kind = "text" then some k else none) = _
  by_cases z : nd.kind = "text"
  · rw [if_pos z, if_pos ⟨fun e => (nomatch e), z⟩]
  · rw [if_neg z, if_neg fun y => z y.2]
theorem sign_ok (I : Ins A A.hold) (ht : TxOk A 900) (hs : s.length ≤ 100) : CV (n + 2) "insert_sign" [.ref 1 0, .str s] (BSt A r) .none (BSt (A.sign s) r) := by
  unfold AB.sign
  rcases last_at (A := A) A.hold with ⟨h, _⟩ | ⟨k, nd, l, h, hk, _⟩
  · rw [lastText_no h]; exact sign_new I (.inl h)
  · rw [lastText_at h hk]
    by_cases z : nd.kind = "text"
    · rw [if_pos z]; exact sign_old I h hk z (Nat.add_le_add (ht nd (List.mem_of_getElem? hk)) hs)
    · rw [if_neg z]; exact sign_new I (.inr ⟨nd, ⟨k, h, hk⟩, z⟩)
theorem com_ok (I : Ins A A.hold) : CV (n + 2) "insert_comment" [.ref 1 0, .str s] (BSt A r) .none (BSt (A.com s) r) := insC_ok I
theorem start_gen (H1 : s = "html" → CV n "Builder.use" [.ref 1 0, .str "in body", tokV (.start s sl)] (BSt A r) .none (BSt A' r))
    (H2 : s ≠ "html" → s ∈ voids → ∃ v, CV n "insert_void" [.ref 1 0, tokV (.start s sl)] (BSt A r) v (BSt A' r))
    (H3 : s ≠ "html" → s ∉ voids → rawW A s ≠ "" → CV n "start_raw" [.ref 1 0, tokV (.start s sl), .str (rawW A s)] (BSt A r) .none (BSt A' r))
    (H4 : rawW A s = "" → s = "noscript" → ∃ v A1, CV n "insert_token" [.ref 1 0, tokV (.start s sl)] (BSt A r) v (BSt A1 r) ∧ A' = { A1 with mode := "in head noscript" })
    (H5 : s = "template" → CV n "open_template" [.ref 1 0, tokV (.start s sl)] (BSt A r) .none (BSt A' r))
    (H6 : s = "head" → CV n "Builder.error" [.ref 1 0, .str "unexpected-start-tag"] (BSt A r) .none (BSt A' r))
    (H7 : s ≠ "html" → s ∉ voids → rawW A s = "" → s ≠ "noscript" → s ≠ "template" → s ≠ "head" → CV n "leave" [.ref 1 0, tokV (.start s sl), .str "after head"] (BSt A r) .none (BSt A' r)) :
    CV (n + 1) "start_in_head" [.ref 1 0, tokV (.start s sl)] (BSt A r) .none (BSt A' r) := Cl.is <| by
  have two : ∀ {env : XEnv}, env "builder" = some (.ref 1 0) → env "token" = some (tokV (.start s sl)) → EVS (n + 1) env (BSt A r) (.cons (.loc "builder") (.cons (.loc "token") .nil)) [.ref 1 0, tokV (.start s sl)] (BSt A r) := fun a b => EE.cons (E.loc a) (EE.one (E.loc b))
  refine G.enter (fn := f_start_in_head) rfl rfl (G.asg (v := .str s) (E.sub (E.loc rfl) E.cI rfl) (G.asg (E.call (EE.cons (E.loc rfl) (EE.one (E.loc rfl))) rawState_ok) ?_))
  refine G.iteD (P := s = "html") (E.cmp (E.loc rfl) E.cS rfl) (fun q1 => G.expr (E.own (cl := "Builder") (E.loc rfl) rfl (EE.cons E.cS (EE.one (E.loc rfl))) (H1 q1)) (G.fin ⟨rfl, rfl⟩)) fun q1 => ?_
  refine G.iteD (P := s ∈ voids) (E.inS (E.loc rfl) (E.tup (EE.cons E.cS (EE.cons E.cS (EE.cons E.cS (EE.cons E.cS (EE.one E.cS))))) (Nat.le_of_ble_eq_true rfl)) rfl) (fun q2 => let ⟨v, H⟩ := H2 q1 q2; G.expr (E.call (two rfl rfl) H) (G.fin ⟨rfl, rfl⟩)) fun q2 => ?_
  refine G.iteD (P := ¬ rawW A s = "") (E.cmp (E.loc rfl) E.cS (congrArg some (decide_not.symm))) (fun q3 => G.expr (E.call (EE.cons (E.loc rfl) (EE.cons (E.loc rfl) (EE.one (E.loc rfl)))) (H3 q1 q2 q3)) (G.fin ⟨rfl, rfl⟩)) fun q3 => ?_
  have q3 := Classical.not_not.mp q3
  refine G.iteD (P := s = "noscript") (E.cmp (E.loc rfl) E.cS rfl) (fun q4 => let ⟨v, A1, a, e⟩ := H4 q3 q4; G.expr (E.call (two rfl rfl) a) (G.expr (E.own (cl := "Builder") (E.loc rfl) rfl (EE.one E.cS) to_ok) (G.fin ⟨rfl, congrArg (BSt · r) e.symm⟩))) fun q4 => ?_
  refine G.iteD (P := s = "template") (E.cmp (E.loc rfl) E.cS rfl) (fun q5 => G.expr (E.call (two rfl rfl) (H5 q5)) (G.fin ⟨rfl, rfl⟩)) fun q5 => ?_
  exact G.iteD (P := s = "head") (E.cmp (E.loc rfl) E.cS rfl) (fun q6 => G.expr (E.own (cl := "Builder") (E.loc rfl) rfl (EE.one E.cS) (H6 q6)) (G.fin ⟨rfl, rfl⟩)) fun q6 => G.expr (E.call (EE.cons (E.loc rfl) (EE.cons (E.loc rfl) (EE.one E.cS))) (H7 q1 q2 q3 q4 q5 q6)) (G.fin ⟨rfl, rfl⟩)
theorem end_gen (H1 : s = "head" → ∃ x l, A.items = l ++ [x] ∧ A' = { A with items := l, mode := "after head" })
    (H2 : s = "template" → CV n "close_template" [.ref 1 0] (BSt A r) .none (BSt A' r))
    (H3 : s ∈ (["body", "html", "br"] : List String) → CV n "leave" [.ref 1 0, tokV (.fin s), .str "after head"] (BSt A r) .none (BSt A' r))
    (H4 : s ≠ "head" → s ≠ "template" → s ∉ (["body", "html", "br"] : List String) → CV n "Builder.error" [.ref 1 0, .str "unexpected-end-tag"] (BSt A r) .none (BSt A' r)) :
    CV (n + 1) "end_in_head" [.ref 1 0, tokV (.fin s)] (BSt A r) .none (BSt A' r) := Cl.is <| by
  refine G.enter (fn := f_end_in_head) rfl rfl (G.asg (v := .str s) (E.sub (E.loc rfl) E.cI rfl) ?_)
  refine G.iteD (P := s = "head") (E.cmp (E.loc rfl) E.cS rfl) (fun q1 => let ⟨x, l, a, e⟩ := H1 q1; G.expr (E.own (cl := "OpenStack") (E.attr (E.loc rfl) rfl) rfl EE.nil (pop_ok a)) (G.expr (E.own (cl := "Builder") (E.loc rfl) rfl (EE.one E.cS) to_ok) (G.fin ⟨rfl, congrArg (BSt · r) e.symm⟩))) fun q1 => ?_
  refine G.iteD (P := s = "template") (E.cmp (E.loc rfl) E.cS rfl) (fun q2 => G.expr (E.call (EE.one (E.loc rfl)) (H2 q2)) (G.fin ⟨rfl, rfl⟩)) fun q2 => ?_
  exact G.iteD (P := s ∈ (["body", "html", "br"] : List String)) (E.inS (E.loc rfl) (E.tup (EE.cons E.cS (EE.cons E.cS (EE.one E.cS))) (Nat.le_of_ble_eq_true rfl)) rfl) (fun q3 => G.expr (E.call (EE.cons (E.loc rfl) (EE.cons (E.loc rfl) (EE.one E.cS))) (H3 q3)) (G.fin ⟨rfl, rfl⟩))
    fun q3 => G.expr (E.own (cl := "Builder") (E.loc rfl) rfl (EE.one E.cS) (H4 q1 q2 q3)) (G.fin ⟨rfl, rfl⟩)
end
end Mine
end

section
set_option maxRecDepth 100000
set_option genInjectivity false
namespace Mine
noncomputable def htmlT (t : Tok) : Bool := t.casesOn (fun _ => false) (fun _ => false) false (fun n _ => decide (n = "html")) (fun _ => false) false
noncomputable def endNsT (t : Tok) : Bool := t.casesOn (fun _ => false) (fun _ => false) false (fun _ _ => false) (fun n => decide (n = "noscript")) false
noncomputable def eofT (t : Tok) : Bool := t.casesOn (fun _ => false) (fun _ => false) false (fun _ _ => false) (fun _ => false) true
noncomputable def subT (t : Tok) : Bool := t.casesOn (fun _ => false) (fun _ => false) false (fun n _ => decide (n ∈ (["li", "div"] : List String))) (fun _ => false) false
noncomputable def slashW : String := "non-void-html-element-start-tag-with-trailing-solidus"
noncomputable def slashT (t : Tok) : Bool := t.casesOn (fun _ => false) (fun _ => false) false (fun _ s => s) (fun _ => false) false
noncomputable def AB.slash (A : AB) (t : Tok) : AB := if (slashT t && !A.ack) = true then A.err slashW else A
section
variable {A A1 A' : AB} {r st st1 : XSt} {n q i p : Nat} {env : XEnv} {v w : XVal} {k j x : Int} {l : List Int} {nd : Nd} {s f m y x' : String} {t : Tok} {sl : Bool} {te e1 : XE} {Q : XFlow → XEnv → XSt → Prop} {bd od ss : XS}
theorem k1_of (h : t = .char s ∨ t = .comment s) : subX st (tokV t) (.int 1) = some (.str s) := by rcases h with rfl | rfl <;> rfl
theorem space_of (h : spaceT t = true) : ∃ s, t = .char s := by cases t <;> first | exact ⟨_, rfl⟩ | exact nomatch h
theorem com_of (h : t.kind = "comment") : ∃ s, t = .comment s := by cases t <;> first | exact ⟨_, rfl⟩ | exact absurd h (of_decide_eq_false rfl)
theorem dt_of (h : t.kind = "doctype") : t = .doctype := by cases t <;> first | rfl | exact absurd h (of_decide_eq_false rfl)
theorem rest_of (q : spaceT t = false) (q1 : t.kind ≠ "comment") (q2 : t.kind ≠ "doctype") (q3 : t.kind ≠ "start") (q4 : t.kind ≠ "end") : (∃ s, t = .char s ∧ spaceT t = false) ∨ t = .eof := by
  cases t with
  | char s => exact .inl ⟨s, rfl, q⟩
  | eof => exact .inr rfl
  | comment => exact absurd rfl q1
  | doctype => exact absurd rfl q2
  | start => exact absurd rfl q3
  | fin => exact absurd rfl q4
theorem sub_of (h : subT t = true) : ∃ m s, t = .start m s := by cases t <;> first | exact ⟨_, _, rfl⟩ | exact nomatch h
theorem k1_st {b : Bool} (h : t = .start s b) : subX st (tokV t) (.int 1) = some (.str s) ∧ subX st (tokV t) (.int 2) = some (attrsV (atN s)) := by subst h; exact ⟨rfl, rfl⟩
theorem inHead_gen (H1 : ∀ s, t = .char s → spaceT t = true → CV (n + 1) "insert_sign" [.ref 1 0, .str s] (BSt A r) .none (BSt A' r))
    (H2 : ∀ s, t = .comment s → CV (n + 1) "insert_comment" [.ref 1 0, .str s] (BSt A r) .none (BSt A' r))
    (H3 : t = .doctype → CV (n + 1) "Builder.error" [.ref 1 0, .str "unexpected-doctype"] (BSt A r) .none (BSt A' r))
    (H4 : t.kind = "start" → CV (n + 1) "start_in_head" [.ref 1 0, tokV t] (BSt A r) .none (BSt A' r))
    (H5 : t.kind = "end" → CV (n + 1) "end_in_head" [.ref 1 0, tokV t] (BSt A r) .none (BSt A' r))
    (H6 : (∃ s, t = .char s ∧ spaceT t = false) ∨ t = .eof → CV (n + 1) "leave" [.ref 1 0, tokV t, .str "after head"] (BSt A r) .none (BSt A' r)) :
    CV (n + 2) "in_head" [.ref 1 0, tokV t] (BSt A r) .none (BSt A' r) := Cl.is <| by
  refine G.enter (fn := f_in_head) rfl rfl (G.asg (v := .str t.kind) (E.sub (E.loc rfl) E.cI (k0 t)) ?_)
  have lv : ∀ {env : XEnv}, env "builder" = some (.ref 1 0) → env "token" = some (tokV t) → EVS (n + 2) env (BSt A r) (.cons (.loc "builder") (.cons (.loc "token") .nil)) [.ref 1 0, tokV t] (BSt A r) := fun a b => EE.cons (E.loc a) (EE.one (E.loc b))
  exact G.iteB (E.call (EE.one (E.loc rfl)) (spaceT_ok (t := t))) (fun q => let ⟨s, e⟩ := space_of q; G.expr (E.call (EE.cons (E.loc rfl) (EE.one (E.sub (E.loc rfl) E.cI (k1_of (.inl e))))) (H1 s e q)) (G.fin ⟨rfl, rfl⟩)) fun q =>
    G.iteD (P := t.kind = "comment") (E.cmp (E.loc rfl) E.cS rfl) (fun q1 => let ⟨s, e⟩ := com_of q1; G.expr (E.call (EE.cons (E.loc rfl) (EE.one (E.sub (E.loc rfl) E.cI (k1_of (.inr e))))) (H2 s e)) (G.fin ⟨rfl, rfl⟩)) fun q1 =>
    G.iteD (P := t.kind = "doctype") (E.cmp (E.loc rfl) E.cS rfl) (fun q2 => G.expr (E.own (cl := "Builder") (E.loc rfl) rfl (EE.one E.cS) (H3 (dt_of q2))) (G.fin ⟨rfl, rfl⟩)) fun q2 =>
    G.iteD (P := t.kind = "start") (E.cmp (E.loc rfl) E.cS rfl) (fun q3 => G.expr (E.call (lv rfl rfl) (H4 q3)) (G.fin ⟨rfl, rfl⟩)) fun q3 =>
    G.iteD (P := t.kind = "end") (E.cmp (E.loc rfl) E.cS rfl) (fun q4 => G.expr (E.call (lv rfl rfl) (H5 q4)) (G.fin ⟨rfl, rfl⟩)) fun q4 => G.expr (E.call (EE.cons (E.loc rfl) (EE.cons (E.loc rfl) (EE.one E.cS))) (H6 (rest_of q q1 q2 q3 q4))) (G.fin ⟨rfl, rfl⟩)
theorem text_char (H : CV n "insert_sign" [.ref 1 0, .str s] (BSt A r) .none (BSt A' r)) : CV (n + 1) "text_mode" [.ref 1 0, tokV (.char s)] (BSt A r) .none (BSt A' r) := Cl.is <|
  G.enter (fn := f_text_mode) rfl rfl (G.asg (v := .str "char") (E.sub (E.loc rfl) E.cI rfl) (G.iteT (E.cmp (E.loc rfl) E.cS rfl) (G.expr (E.call (EE.cons (E.loc rfl) (EE.one (E.sub (E.loc rfl) E.cI rfl))) H) (G.fin ⟨rfl, rfl⟩))))
theorem text_end (h : A.items = l ++ [x]) : CV (n + 1) "text_mode" [.ref 1 0, tokV (.fin s)] (BSt A r) .none (BSt { A with items := l, mode := A.original } r) := Cl.is <|
  G.enter (fn := f_text_mode) rfl rfl (G.asg (v := .str "end") (E.sub (E.loc rfl) E.cI rfl) (G.iteF (E.cmp (E.loc rfl) E.cS rfl) (G.iteT (E.cmp (E.loc rfl) E.cS rfl) (G.expr (E.own (cl := "OpenStack") (E.attr (E.loc rfl) rfl) rfl EE.nil (pop_ok h))
    (G.expr (E.own (cl := "Builder") (E.loc rfl) rfl (EE.one (E.attr (E.loc rfl) rfl)) to_ok) (G.fin ⟨rfl, rfl⟩))))))
theorem text_eof (he : A.errors.length < 1000) (H : CV n "leave" [.ref 1 0, tokV .eof, .str A.original] (BSt (A.err "unexpected-eof") r) .none (BSt A' r)) : CV (n + 1) "text_mode" [.ref 1 0, tokV .eof] (BSt A r) .none (BSt A' r) := Cl.is <|
  G.enter (fn := f_text_mode) rfl rfl (G.asg (v := .str "eof") (E.sub (E.loc rfl) E.cI rfl) (G.iteF (E.cmp (E.loc rfl) E.cS rfl) (G.iteF (E.cmp (E.loc rfl) E.cS rfl) (G.iteT (E.cmp (E.loc rfl) E.cS rfl) (G.expr (E.own (cl := "Builder") (E.loc rfl) rfl (EE.one E.cS) (error_ok he))
    (G.expr (E.call (EE.cons (E.loc rfl) (EE.cons (E.loc rfl) (EE.one (E.attr (E.loc rfl) rfl)))) H) (G.fin ⟨rfl, rfl⟩)))))))
theorem html_ev (h : env y = some (tokV t)) : EV n env st (.and (.cmp .eq (.sub (.loc y) (.cI 0)) (.cS "start")) (.cmp .eq (.sub (.loc y) (.cI 1)) (.cS "html"))) (.bool (htmlT t)) st := by
  cases t with
  | start m s => exact E.andT (E.kind h rfl) (E.cmp (E.sub (E.loc h) E.cI rfl) E.cS rfl)
  | _ => exact E.andF (E.kind h rfl)
theorem endNs_ev (h : env y = some (tokV t)) : EV n env st (.and (.cmp .eq (.sub (.loc y) (.cI 0)) (.cS "end")) (.cmp .eq (.sub (.loc y) (.cI 1)) (.cS "noscript"))) (.bool (endNsT t)) st := by
  cases t with
  | fin m => exact E.andT (E.kind h rfl) (E.cmp (E.sub (E.loc h) E.cI rfl) E.cS rfl)
  | _ => exact E.andF (E.kind h rfl)
theorem eof_ev (h : env y = some (tokV t)) : EV n env st (.cmp .eq (.sub (.loc y) (.cI 0)) (.cS "eof")) (.bool (eofT t)) st := E.kind h (by cases t <;> rfl)
theorem noscript_gen (H1 : htmlT t = true → CV (n + 2) "Builder.use" [.ref 1 0, .str "in body", tokV t] (BSt A r) .none (BSt A' r))
    (H2 : endNsT t = true → ∃ x l, A.items = l ++ [x] ∧ A' = { A with items := l, mode := "in head" })
    (H3 : forHeadT t = true → CV (n + 2) "Builder.use" [.ref 1 0, .str "in head", tokV t] (BSt A r) .none (BSt A' r))
    (H4 : htmlT t = false → endNsT t = false → forHeadT t = false → A.errors.length < 1000 ∧ (passT t = true → A' = A.err (unexpT t)) ∧ (passT t = false → CV (n + 2) "leave" [.ref 1 0, tokV t, .str "in head"] (BSt (A.err (unexpT t)) r) .none (BSt A' r))) :
    CV (n + 3) "in_head_noscript" [.ref 1 0, tokV t] (BSt A r) .none (BSt A' r) := Cl.is <| by
  refine G.enter (fn := f_in_head_noscript) rfl rfl (G.iteB (html_ev rfl) (fun q1 => G.expr (E.own (cl := "Builder") (E.loc rfl) rfl (EE.cons E.cS (EE.one (E.loc rfl))) (H1 q1)) (G.fin ⟨rfl, rfl⟩)) fun q1 =>
    G.iteB (endNs_ev rfl) (fun q2 => let ⟨x, l, a, e⟩ := H2 q2; G.expr (E.own (cl := "OpenStack") (E.attr (E.loc rfl) rfl) rfl EE.nil (pop_ok a)) (G.expr (E.own (cl := "Builder") (E.loc rfl) rfl (EE.one E.cS) to_ok) (G.fin ⟨rfl, congrArg (BSt · r) e.symm⟩))) fun q2 =>
    G.iteB (E.call (EE.one (E.loc rfl)) forHead_ok) (fun q3 => G.expr (E.own (cl := "Builder") (E.loc rfl) rfl (EE.cons E.cS (EE.one (E.loc rfl))) (H3 q3)) (G.fin ⟨rfl, rfl⟩)) fun q3 => ?_)
  obtain ⟨g1, g2, g3⟩ := H4 q1 q2 q3
  refine G.expr (E.own (cl := "Builder") (E.loc rfl) rfl (EE.one (E.call (EE.one (E.loc rfl)) unexp_ok)) (error_ok g1)) (G.iteB (E.not (E.call (EE.one (E.loc rfl)) pass_ok)) (fun q4 => G.expr (E.call (EE.cons (E.loc rfl) (EE.cons (E.loc rfl) (EE.one E.cS))) (g3 ?_)) (G.fin ⟨rfl, rfl⟩)) fun q4 => G.fin ⟨rfl, congrArg (BSt · r) (g2 ?_).symm⟩)
  · cases h : passT t with | false => rfl | true => rw [h] at q4; exact nomatch q4
  · cases h : passT t with | true => rfl | false => rw [h] at q4; exact nomatch q4
theorem cat3 {a b d : String} {e2 e4 : XE} {st2 : XSt} (h1 : EV n env st e1 (.str a) st) (h2 : EV n env st e2 (.str b) st) (h4 : EV n env st e4 (.str d) st2) (h : a.length + b.length + 2 + d.length ≤ 1000) : EV n env st (.bin .add (.bin .add (.bin .add e1 e2) (.cS ": ")) e4) (.str (a ++ b ++ ": " ++ d)) st2 := by
  have e : (a ++ b ++ ": ").length = a.length + b.length + 2 := (String.length_append ..).trans (congrArg (· + 2) (String.length_append ..))
  have h' : (a ++ b ++ ": ").length + d.length ≤ 1000 := e ▸ h
  have h3 : (a ++ b ++ ": ").length ≤ 1000 := Nat.le_trans (Nat.le_add_right _ _) h'
  have h3' : (a ++ b).length + 2 ≤ 1000 := (String.length_append .. : (a ++ b ++ ": ").length = _) ▸ h3
  have h5 : a.length + b.length ≤ 1000 := String.length_append .. ▸ Nat.le_trans (Nat.le_add_right _ _) h3'
  exact E.cat (E.cat (E.cat h1 h2 (Nat.le_trans h5 (by decide))) E.cS (Nat.le_trans h3' (by decide))) h4 (Nat.le_trans h' (by decide))
theorem lim3 {c a b : Nat} (hc : c ≤ 100) (ha : a ≤ 100) (hb : b ≤ 500) : c + a + 2 + b ≤ 1000 := Nat.le_trans (Nat.add_le_add (Nat.add_le_add_right (Nat.add_le_add hc ha) 2) hb) (by decide)
theorem body_gen (I : Ins A A.hold) (hm : A.mode.length ≤ 100) (hw : (wordT t).length ≤ 500) : CV (n + 3) "_law_in_body" [.ref 1 0, tokV t] (BSt A r) .none (BSt (A.com ("body, " ++ A.mode ++ ": " ++ wordT t)) r) := Cl.is <|
  G.enter (fn := f__law_in_body) rfl rfl (G.expr (E.call (EE.cons (E.loc rfl) (EE.one (cat3 E.cS (E.attr (E.loc rfl) rfl) (E.call (EE.one (E.loc rfl)) (word_ok (Nat.le_trans hw (by decide)))) (lim3 (by decide) hm hw)))) (com_ok I)) (G.fin ⟨rfl, rfl⟩))
theorem afterHead_gen (I : Ins A A.hold) (hm : A.mode.length ≤ 100) (hw : (wordT t).length ≤ 500) (H1 : takesT t = true → CV (n + 2) "Builder.use" [.ref 1 0, .str "in head", tokV t] (BSt A r) .none (BSt A' r))
    (H2 : takesT t = false → A' = { A.com ("after, " ++ A.mode ++ ": " ++ wordT t) with done := eofT t }) : CV (n + 3) "_law_after_head" [.ref 1 0, tokV t] (BSt A r) .none (BSt A' r) := Cl.is <|
  G.enter (fn := f__law_after_head) rfl rfl (G.iteB (E.call (EE.one (E.loc rfl)) takes_ok) (fun q => G.expr (E.own (cl := "Builder") (E.loc rfl) rfl (EE.cons E.cS (EE.one (E.loc rfl))) (H1 q)) (G.fin ⟨rfl, rfl⟩)) fun q =>
    G.expr (E.call (EE.cons (E.loc rfl) (EE.one (cat3 E.cS (E.attr (E.loc rfl) rfl) (E.call (EE.one (E.loc rfl)) (word_ok (Nat.le_trans hw (by decide)))) (lim3 (by decide) hm hw)))) (com_ok I)) (G.asgA (eof_ev rfl) (E.loc rfl) (sa_is_done _) (G.fin ⟨rfl, congrArg (BSt · r) (H2 q).symm⟩)))
theorem sub_ev (h : env y = some (tokV t)) : EV n env (BSt A r) (.and (.cmp .eq (.sub (.loc y) (.cI 0)) (.cS "start")) (.cmp .inn (.sub (.loc y) (.cI 1)) (.list (.cons (.cS "li") (.cons (.cS "div") .nil))))) (.bool (subT t)) (BSt A r) := by
  cases t with
  | start m s => exact E.drop (E.andT (E.kind h rfl) (E.inS (l := ["li", "div"]) (E.sub (E.loc h) E.cI rfl) (E.to (E.list 0 (EE.cons E.cS (EE.one E.cS)) (Nat.le_of_ble_eq_true rfl)) (over_push rfl)) rfl)) (dropL (.bool _))
  | _ => exact E.andF (E.kind h rfl)
theorem template_gen (I : Ins A A.hold) (hm : A.mode.length ≤ 100) (hw : (wordT t).length ≤ 500) (H1 : takesT t = true → CV (n + 3) "Builder.use" [.ref 1 0, .str "in head", tokV t] (BSt A r) .none (BSt A' r))
    (H2 : takesT t = false → ∀ n s, t = .start n s → subT t = true → A' = A.ins n) (H3 : takesT t = false → subT t = false → A' = { A.com ("template, " ++ A.mode ++ ": " ++ wordT t) with done := eofT t }) :
    CV (n + 4) "_law_in_template" [.ref 1 0, tokV t] (BSt A r) .none (BSt A' r) := Cl.is <| by
  refine G.enter (fn := f__law_in_template) rfl rfl (G.iteB (E.call (EE.one (E.loc rfl)) takes_ok) (fun q => G.expr (E.own (cl := "Builder") (E.loc rfl) rfl (EE.cons E.cS (EE.one (E.loc rfl))) (H1 q)) (G.fin ⟨rfl, rfl⟩)) fun q => G.iteB (sub_ev rfl) (fun q2 => ?_) fun q2 =>
    G.expr (E.call (EE.cons (E.loc rfl) (EE.one (cat3 E.cS (E.attr (E.loc rfl) rfl) (E.call (EE.one (E.loc rfl)) (word_ok (Nat.le_trans hw (by decide)))) (lim3 (by decide) hm hw)))) (com_ok I)) (G.asgA (eof_ev rfl) (E.loc rfl) (sa_is_done _) (G.fin ⟨rfl, congrArg (BSt · r) (H3 q q2).symm⟩)))
  exact let ⟨top, l, np, t1, t2, t3, t4, t5⟩ := I.top; let ⟨m, s, e⟩ := sub_of q2
    G.expr (E.call (EE.cons (E.loc rfl) (EE.cons (E.sub (E.loc rfl) E.cI (k1_st e).1) (EE.one (E.sub (E.loc rfl) E.cI (k1_st e).2)))) (insE_ok I.up I.tm I.nodes I.items (Nat.le_of_ble_eq_true rfl) t1 t2 t3 t4 rfl)) (G.fin ⟨rfl, congrArg (BSt · r) (H2 q m s e q2).symm⟩)
theorem slash_ev (h : env y = some (tokV t)) (h2 : env x' = some (.ref 1 0)) : EV n env (BSt A r) (.and (.cmp .eq (.sub (.loc y) (.cI 0)) (.cS "start")) (.and (.sub (.loc y) (.cI 3)) (.not (.attr (.loc x') "is_acknowledged")))) (.bool (slashT t && !A.ack)) (BSt A r) := by
  cases t with
  | start m s =>
    refine E.andT (E.kind h rfl) ?_
    cases s with
    | true => exact E.andT (E.sub (E.loc h) E.cI rfl) (E.not (E.attr (E.loc h2) rfl))
    | false => exact E.andF (E.sub (E.loc h) E.cI rfl)
  | _ => exact E.andF (E.kind h rfl)
theorem feed_gen (hdn : A.done = false) (H : CV n "Builder.process" [.ref 1 0, tokV t] (BSt { A with ack := false } r) .none (BSt A1 r)) (he : A1.errors.length < 1000) : CV (n + 1) "Builder.feed" [.ref 1 0, tokV t] (BSt A r) .none (BSt (A1.slash t) r) := Cl.is <|
  G.enter (fn := f_Builder_feed) rfl rfl (G.iteF (E.attr (E.loc rfl) (congrArg (fun b => some (XVal.bool b)) hdn)) (G.iteF (E.attr (E.loc rfl) rfl) (G.asgA E.cB (E.loc rfl) (sa_is_acknowledged false) (G.expr (E.own (cl := "Builder") (E.loc rfl) rfl (EE.one (E.loc rfl)) H) (G.iteB (slash_ev rfl rfl)
    (fun q => G.expr (E.own (cl := "Builder") (E.loc rfl) rfl (EE.one E.cS) (error_ok he)) (G.fin ⟨rfl, congrArg (BSt · r) (if_pos q).symm⟩)) fun q => G.fin ⟨rfl, congrArg (BSt · r) (if_neg fun z => Bool.false_ne_true (q.symm.trans z)).symm⟩)))))
theorem feed_done (hdn : A.done = true) : CV n "Builder.feed" [.ref 1 0, tokV t] (BSt A r) .none (BSt A r) := Cl.is <|
  G.enter (fn := f_Builder_feed) rfl rfl (G.iteT (E.attr (E.loc rfl) (congrArg (fun b => some (XVal.bool b)) hdn)) (G.retN ⟨rfl, rfl⟩))
end
end Mine
end

section
set_option maxRecDepth 100000
set_option genInjectivity false
namespace Mine
noncomputable def nameI (A : AB) (i : Int) : String := ((A.nodes[i.toNat]?).map (·.name)).getD ""
noncomputable def splitT (A : AB) (l : List Int) : Option (List Int × List Int) := l.rec none fun i l ih => if nameI A i = "template" then some ([], l) else ih.map fun p => (i :: p.1, p.2)
noncomputable def closeA (A : AB) : AB := (splitT A A.items.reverse).elim (A.err "unexpected-end-tag") fun p =>
  { A with items := p.2.reverse, fitems := A.fitems.dropLast, modes := A.modes.dropLast, mode := resetM (p.2.map (nameI A)), errors := if "div" ∈ p.1.map (nameI A) then A.errors ++ [("open-elements", A.mode)] else A.errors }
noncomputable def rawA (A : AB) (n : String) : AB := { A.ins n with wish := rawW A n, original := A.mode, mode := "text" }
noncomputable def openA (A : AB) : AB := { A.ins "template" with fitems := A.fitems ++ [-1], frameOk := false, mode := "in template", modes := A.modes ++ ["in template"] }
noncomputable def takenA (A : AB) (t : Tok) : AB := t.casesOn (fun _ => A) (fun _ => A) A (fun n _ => if n ∈ voids then { A.ins n with items := A.items, ack := true } else if n = "template" then openA A else rawA A n) (fun _ => closeA A) A
noncomputable def popTo (A : AB) (m : String) : AB := { A.pop with mode := m }
noncomputable def wordA (A : AB) (w : String) (t : Tok) : AB := { A.com (w ++ A.mode ++ ": " ++ wordT t) with done := eofT t }
noncomputable def afterA (A : AB) (t : Tok) : AB := if takesT t then takenA A t else wordA A "after, " t
noncomputable def bodyA (A : AB) (t : Tok) : AB := A.com ("body, " ++ A.mode ++ ": " ++ wordT t)
noncomputable def headA (A : AB) (t : Tok) : AB := t.casesOn
  (fun s => if s ∈ spaces then A.sign s else afterA (popTo A "after head") t)
  (fun s => A.com s)
  (A.err "unexpected-doctype")
  (fun n _ =>
    if n = "html" then bodyA A t
    else if takesT t then takenA A t
    else if n = "noscript" then (if A.scripting then rawA A n else { A.ins n with mode := "in head noscript" })
    else if n = "head" then A.err "unexpected-start-tag"
    else afterA (popTo A "after head") t)
  (fun n =>
    if n = "head" then popTo A "after head"
    else if n = "template" then closeA A
    else if n ∈ (["body", "html", "br"] : List String) then afterA (popTo A "after head") t
    else A.err "unexpected-end-tag")
  (afterA (popTo A "after head") t)
noncomputable def noscriptA (A : AB) (t : Tok) : AB :=
  if htmlT t then bodyA A t
  else if endNsT t then popTo A "in head"
  else if forHeadT t then headA A t
  else if passT t then A.err (unexpT t)
  else headA (popTo (A.err (unexpT t)) "in head") t
noncomputable def subName (t : Tok) : String := t.casesOn (fun _ => "") (fun _ => "") "" (fun n _ => n) (fun _ => "") ""
noncomputable def templateA (A : AB) (t : Tok) : AB := if takesT t then takenA A t else if subT t then A.ins (subName t) else wordA A "template, " t
noncomputable def plainA (A : AB) (t : Tok) : AB :=
  if A.mode = "in head" then headA A t
  else if A.mode = "in head noscript" then noscriptA A t
  else if A.mode = "in template" then templateA A t
  else afterA A t
noncomputable def textA (A : AB) (t : Tok) : AB := t.casesOn (fun s => A.sign s) (fun _ => A) A (fun _ _ => A) (fun _ => popTo A A.original) (plainA (popTo (A.err "unexpected-eof") A.original) t)
noncomputable def procA (A : AB) (t : Tok) : AB := if A.mode = "text" then textA A t else plainA A t
noncomputable def stepA (A : AB) (t : Tok) : AB := if A.done then A else (procA { A with ack := false } t).slash t
inductive LowB : List String → Prop
  | head : LowB ["head", "html"]
  | html : LowB ["html"]
  | tmpl {inner low : List String} : (∀ n ∈ inner, n = "li" ∨ n = "div") → LowB low → LowB (inner ++ "template" :: low)
theorem modeF_li {n : String} (h : n = "li" ∨ n = "div") : modeF n = "" := by rcases h with rfl | rfl <;> rfl
section
variable {inner low ns : List String} {m : String}
theorem resetM_app (h : ∀ n ∈ inner, n = "li" ∨ n = "div") : resetM (inner ++ low) = resetM low := by
  induction inner with
  | nil => rfl
  | cons n inner ih => exact (if_pos (modeF_li (h n (.head _)))).trans (ih fun m hm => h m (.tail _ hm))
theorem LowB.reset (h : LowB ns) : resetM ns = "in head" ∧ ns = ["head", "html"] ∨ resetM ns = "after head" ∧ ns = ["html"] ∨ resetM ns = "in template" := by
  cases h with
  | head => exact .inl ⟨rfl, rfl⟩
  | html => exact .inr (.inl ⟨rfl, rfl⟩)
  | tmpl hi hl => exact .inr (.inr ((resetM_app hi).trans rfl))
theorem LowB.reset_ne (h : LowB ns) : resetM ns ≠ "" := by
  rcases h.reset with ⟨e, _⟩ | ⟨e, _⟩ | e <;> rw [e] <;> decide
theorem LowOk_app (h : ∀ n ∈ inner, n = "li" ∨ n = "div") (hl : LowOk low) : LowOk (inner ++ low) := by
  induction inner with
  | nil => exact hl
  | cons n inner ih => exact ⟨.inr (.inr (.inr (h n (.head _)))), ih fun m hm => h m (.tail _ hm)⟩
theorem LowB.ok (h : LowB ns) : LowOk ns := by
  induction h with
  | head => exact ⟨.inr (.inl ⟨rfl, fun z => nomatch z⟩), .inl rfl, trivial⟩
  | html => exact ⟨.inl rfl, trivial⟩
  | tmpl hi hl ih => exact LowOk_app hi ⟨.inr (.inr (.inl rfl)), ih⟩
noncomputable def BaseOk (m : String) (ns : List String) : Prop := (m = "in head noscript" ∧ ns = ["noscript", "head", "html"]) ∨ (LowB ns ∧ resetM ns = m)
noncomputable def ShapeOk (A : AB) (ns : List String) : Prop := (A.mode = "text" ∧ ∃ n ns', ns = n :: ns' ∧ n ≠ "template" ∧ BaseOk A.original ns') ∨ (A.mode ≠ "text" ∧ BaseOk A.mode ns)
theorem BaseOk.mode (h : BaseOk m ns) : m = "in head" ∨ m = "in head noscript" ∨ m = "in template" ∨ m = "after head" := by
  rcases h with ⟨h, _⟩ | ⟨h, rfl⟩
  · exact .inr (.inl h)
  · rcases h.reset with ⟨e, _⟩ | ⟨e, _⟩ | e
    · exact .inl e
    · exact .inr (.inr (.inr e))
    · exact .inr (.inr (.inl e))
end
noncomputable def tmplN (ns : List String) : Nat := ns.count "template"
section
variable {A A' : AB} {k m p : Nat} {i : Int} {nm s : String} {mo : List Nd} {is : List Int} {ns : List String}
theorem modify_end {f : Nd → Nd} {x : Nd} {m : List Nd} : ∀ (l : List Nd), (l ++ x :: m).modify l.length f = l ++ f x :: m := by
  intro l
  induction l with
  | nil => rfl
  | cons y l ih => exact congrArg (y :: ·) ih
theorem com_nodes (t : String) : (A.com t).nodes = A.nodes ++ [{ coNd t with up := (A.hold : Int) }] := modify_end A.nodes
theorem insT_nodes (t : String) (p : Int) : (insT A t p).nodes = A.nodes ++ [{ txNd t with up := p }] := modify_end A.nodes
theorem ins_nodes (n : String) : (A.ins n).nodes = A.nodes ++ { elNd n (atN n) with up := (A.hold : Int) } :: (if n = "template" then [frNd] else []) := by
  show (addElem A n (atN n)).nodes.modify A.nodes.length _ = _
  rw [addElem_nodes]; exact modify_end A.nodes
theorem Nam.more (h : Nam A i nm) (hn : A'.nodes = A.nodes ++ mo) : Nam A' i nm :=
  let ⟨nd, ⟨j, e, h1⟩, h2⟩ := h.is
  ⟨nd, ⟨j, e, by rw [hn, List.getElem?_append_left (List.getElem?_eq_some_iff.mp h1).1]; exact h1⟩, h2⟩
theorem Nams.more (h : Nams A is ns) (hn : A'.nodes = A.nodes ++ mo) : Nams A' is ns := All2.mono (fun _ _ q => q.more hn) h
theorem nameI_of (h : Nam A i nm) : nameI A i = nm := by
  obtain ⟨nd, ⟨j, rfl, h1⟩, h2, _⟩ := h.is
  show ((A.nodes[j]?).map _).getD "" = _
  rw [h1]; exact h2
theorem UpOk.more (h : UpOk A) (hn : A'.nodes = A.nodes ++ mo) (hm : ∀ nd ∈ mo, -1 ≤ nd.up ∧ nd.up < A.nodes.length) : UpOk A' := by
  intro j nd hj
  rw [hn] at hj
  by_cases q : j < A.nodes.length
  · rw [List.getElem?_append_left q] at hj; exact h j nd hj
  · have q := Nat.le_of_not_lt q
    rw [List.getElem?_append_right q] at hj
    have := hm nd (List.mem_of_getElem? hj)
    exact ⟨this.1, Int.lt_of_lt_of_le this.2 (Int.ofNat_le.mpr q)⟩
end
end Mine
end

section
set_option maxRecDepth 100000
set_option genInjectivity false
namespace Mine
structure RX where
  nodes : List Nd
  pl : Nat → Int
  errors : List (String × String)
  frameOk : Bool
  original : String
  tc : Nat
  W : List (Nat × String)
  tmode : String
  O : List (List Int)
noncomputable def nref (j : Int) : XVal := .ref (100 + j.toNat) 1
noncomputable def placeI (items : List Int) (j : Nat) : Int := if (j : Int) ∈ items then (items.idxOf (j : Int) : Int) else -1
noncomputable def toldD (X : RX) : List (String × XVal) := [("errors", .ref 23 0), ("wishes", .ref 24 0), ("original", .str X.original), ("mode", .str X.tmode), ("templates", .int X.tc), ("is_frameset_ok", .bool X.frameOk)]
noncomputable def wishV (p : Nat × String) : XVal := .tup [.int p.1, .str p.2]
noncomputable def objL (pl : Nat → Int) (j : Nat) (n : Nd) : List XVal := [.str n.kind, .str n.space, .str n.name, .ref (100 + j) 0, .str n.text, .int (pl j), .ref 25 j, if n.name = "template" then .ref 25 (j + 1) else .none]
noncomputable def ndR (pl : Nat → Int) (l : List Nd) : XSt := fun j => (l[j]?).elim [] fun n => if n.kind = "fragment" then [] else [.list (n.attrs.map pairV), .list (objL pl j n)]
noncomputable def rB (X : RX) (K : List XObj) : List (List XObj) := [[], [], [], [], [], [], [], [], [], [], [], [], [], [], [], [], [], [], [], [], [], [], [.sdict (toldD X)], [.list (X.errors.map errV)], [.list (X.W.map wishV)], K, X.O.map fun l => .list (l.map nref)]
noncomputable def glue (f g : XSt) : XSt := fun q => if q < 100 then f q else g (q - 100)
noncomputable def RSt (X : RX) (r : XSt) : XSt := glue (over (rB X (kidsO nref X.nodes)) r) (ndR X.pl X.nodes)
noncomputable abbrev J (A : AB) (X : RX) (r : XSt) : XSt := BSt A (RSt X r)
noncomputable def pt (st : XSt) (k : Nat) (l : List XObj) : XSt := fun q => if q = k then l else st q
section
variable {A : AB} {X X' : RX} {r f g st : XSt} {b : List (List XObj)} {k i j n p : Nat} {l : List XObj} {o : XObj} {env : XEnv} {m w s : String} {e : XE} {t : Tok} {nd np : Nd} {more : List Nd} {pl : Nat → Int}
theorem set_pt : st.set k i o = pt st k ((st k).set i o) := rfl
theorem push_pt : st.push k o = pt st k (st k ++ [o]) := rfl
theorem BSt_off (h : 22 ≤ k) : BSt A r k = r k := by
  show ((bL A)[k]?).getD (r k) = _
  rw [List.getElem?_eq_none (show (bL A).length ≤ k from h)]; rfl
theorem pt_B (h : 22 ≤ k) : pt (BSt A r) k l = BSt A (pt r k l) := by
  funext q
  by_cases e : q = k
  · subst e; rw [BSt_off h]; exact (if_pos rfl).trans (if_pos rfl).symm
  · refine (if_neg e).trans ?_
    show ((bL A)[q]?).getD (r q) = ((bL A)[q]?).getD (pt r k l q)
    rw [show pt r k l q = r q from if_neg e]
theorem pt_lo (h : k < 100) : pt (glue f g) k l = glue (pt f k l) g := by
  funext q
  by_cases e : q = k
  · subst e; exact (if_pos rfl).trans ((if_pos h).trans (if_pos rfl)).symm
  · refine (if_neg e).trans ?_
    unfold glue
    rw [show pt f k l q = f q from if_neg e]
theorem glue_hi : glue f g (100 + j) = g j := (if_neg (Nat.not_lt.mpr (Nat.le_add_right 100 j))).trans (congrArg g (Nat.add_sub_cancel_left 100 j))
theorem pt_hi : pt (glue f g) (100 + j) l = glue f (pt g j l) := by
  funext q
  by_cases e : q < 100
  · exact (if_neg (Nat.ne_of_lt (Nat.lt_of_lt_of_le e (Nat.le_add_right 100 j)))).trans ((if_pos e).trans (if_pos e).symm)
  · obtain ⟨d, rfl⟩ := Nat.exists_eq_add_of_le (Nat.le_of_not_lt e)
    rw [glue_hi]
    by_cases z : d = j
    · subst z; exact (if_pos rfl).trans (if_pos rfl).symm
    · exact (if_neg fun y => z (Nat.add_left_cancel y)).trans (glue_hi.trans (if_neg z).symm)
theorem J_pt (h1 : Nat.ble 22 k = true) (h2 : Nat.blt k 100 = true) (h : k < b.length) : pt (BSt A (glue (over b r) g)) k l = BSt A (glue (over (b.set k l) r) g) := by
  rw [pt_B (Nat.le_of_ble_eq_true h1), pt_lo (Nat.le_of_ble_eq_true h2), over_put (st := pt (over b r) k l) h fun q => rfl]
theorem J_set (h1 : Nat.ble 22 k = true) (h2 : Nat.blt k 100 = true) (h : b[k]? = some l) : (BSt A (glue (over b r) g)).set k i o = BSt A (glue (over (b.set k (l.set i o)) r) g) := by
  have e : BSt A (glue (over b r) g) k = l := by
    rw [BSt_off (Nat.le_of_ble_eq_true h1)]
    refine (if_pos (Nat.le_of_ble_eq_true h2)).trans ?_
    unfold over; rw [h]; rfl
  rw [set_pt, e]; exact J_pt h1 h2 (List.getElem?_eq_some_iff.mp h).1
theorem J_push (h1 : Nat.ble 22 k = true) (h2 : Nat.blt k 100 = true) (h : b[k]? = some l) : (BSt A (glue (over b r) g)).push k o = BSt A (glue (over (b.set k (l ++ [o])) r) g) := by
  have e : BSt A (glue (over b r) g) k = l := by
    rw [BSt_off (Nat.le_of_ble_eq_true h1)]
    refine (if_pos (Nat.le_of_ble_eq_true h2)).trans ?_
    unfold over; rw [h]; rfl
  rw [push_pt, e]; exact J_pt h1 h2 (List.getElem?_eq_some_iff.mp h).1
theorem J_hi : BSt A (glue f g) (100 + j) = g j := (BSt_off (Nat.le_trans (by decide) (Nat.le_add_right 100 j))).trans glue_hi
theorem J_hpt : pt (BSt A (glue f g)) (100 + j) l = BSt A (glue f (pt g j l)) := by rw [pt_B (Nat.le_trans (by decide) (Nat.le_add_right 100 j)), pt_hi]
theorem J_hpush (h : g j = l) : (BSt A (glue f g)).push (100 + j) o = BSt A (glue f (pt g j (l ++ [o]))) := by rw [push_pt, J_hi, h, J_hpt]
theorem J_hset (h : g j = l) : (BSt A (glue f g)).set (100 + j) i o = BSt A (glue f (pt g j (l.set i o))) := by rw [set_pt, J_hi, h, J_hpt]
theorem ndR_at (h : X.nodes[j]? = some nd) (hk : nd.kind ≠ "fragment") : ndR X.pl X.nodes j = [.list (nd.attrs.map pairV), .list (objL X.pl j nd)] := by
  unfold ndR; rw [h]; exact if_neg hk
theorem g_nd (h : X.nodes[j]? = some nd) (hk : nd.kind ≠ "fragment") : getL (J A X r) (100 + j) 1 = some (objL X.pl j nd) := getL_at (by
  show (BSt A (glue _ _) (100 + j))[1]? = _
  rw [J_hi, ndR_at h hk]; rfl)
theorem sub_nd {k : Nat} {v : XVal} (h : X.nodes[j]? = some nd) (hk : nd.kind ≠ "fragment") (hv : (objL X.pl j nd)[k]? = some v) : subX (J A X r) (nref j) (.int k) = some v := sub_at (g_nd h hk) hv
theorem k_25 (h : j < X.nodes.length) : (J A X r 25)[j]? = some (.list ((kidsFrom X.nodes 0 (j : Int)).map nref)) := by
  show (kidsO nref X.nodes)[j]? = _
  unfold kidsO; rw [List.getElem?_map, List.getElem?_range h]; rfl
theorem told_set {a : String} {v : XVal} (e : (rB X (kidsO nref X.nodes)).set 22 [.sdict (storeS a v (toldD X))] = rB X' (kidsO nref X'.nodes)) (e2 : ndR X.pl X.nodes = ndR X'.pl X'.nodes) : setX (J A X r) (.ref 22 0) (.str a) v = some (J A X' r) := by
  show Option.map _ (if (toldD X).length ≤ LIM then some (XObj.sdict (storeS a v (toldD X))) else none) = _
  rw [if_pos (show (toldD X).length ≤ LIM from Nat.le_of_ble_eq_true rfl)]
  refine congrArg some ((J_set (l := [.sdict (toldD X)]) rfl rfl rfl).trans ?_)
  unfold J RSt; rw [← e, ← e2]; rfl
theorem set_orig : setX (J A X r) (.ref 22 0) (.str "original") (.str s) = some (J A { X with original := s } r) := told_set rfl rfl
theorem set_mode : setX (J A X r) (.ref 22 0) (.str "mode") (.str s) = some (J A { X with tmode := s } r) := told_set rfl rfl
theorem set_tc : setX (J A X r) (.ref 22 0) (.str "templates") (.int n) = some (J A { X with tc := n } r) := told_set rfl rfl
theorem set_fok {c : Bool} : setX (J A X r) (.ref 22 0) (.str "is_frameset_ok") (.bool c) = some (J A { X with frameOk := c } r) := told_set rfl rfl
noncomputable def RX.err (X : RX) (w m : String) : RX := { X with errors := X.errors ++ [(w, m)] }
theorem err_ev (ht : env "told" = some (.ref 22 0)) (hl : X.errors.length < 1000) (h : EV n env (J A X r) e (errV (w, m)) (J A X r)) : EV n env (J A X r) (.meth (.sub (.loc "told") (.cS "errors")) "append" (.cons e .nil)) .none (J A (X.err w m) r) :=
  E.to (E.append (E.sub (E.loc ht) E.cS rfl) rfl h rfl (by rw [List.length_map]; exact Nat.lt_trans hl (by decide))) ((J_set (l := [.list (X.errors.map errV)]) rfl rfl rfl).trans (by rw [map_snoc errV]; rfl))
theorem wish_ev {st1 : XSt} {k : Nat} (ht : env "told" = some (.ref 22 0)) (hl : X.W.length < 1000) (h : EV n env (J A X r) e (wishV (k, m)) (J A X r)) : EV n env (J A X r) (.meth (.sub (.loc "told") (.cS "wishes")) "append" (.cons e .nil)) .none (J A { X with W := X.W ++ [(k, m)] } r) :=
  E.to (E.append (E.sub (E.loc ht) E.cS rfl) rfl h rfl (by rw [List.length_map]; exact Nat.lt_trans hl (by decide))) ((J_set (l := [.list (X.W.map wishV)]) rfl rfl rfl).trans (by rw [map_snoc wishV]; rfl))
noncomputable def RX.slash (X : RX) (t : Tok) (m : String) : RX := if slashT t = true then X.err slashW m else X
theorem slash_ok (hl : X.errors.length < 1000) : CV n "_law_slash" [.ref 22 0, tokV t, .str m] (J A X r) .none (J A (X.slash t m) r) := Cl.is <| by
  refine G.enter (fn := f__law_slash) rfl rfl (G.iteB (b := slashT t) (st1 := J A X r) ?_ (fun q => G.expr (err_ev rfl hl (E.tup (EE.cons E.cS (EE.one (E.loc rfl))) (Nat.le_of_ble_eq_true rfl))) (G.fin ⟨rfl, congrArg (J A · r) (if_pos q).symm⟩)) fun q => G.fin ⟨rfl, congrArg (J A · r) (if_neg fun z => Bool.false_ne_true (q.symm.trans z)).symm⟩)
  cases t with
  | start m s => exact E.andT (E.kind (t := .start m s) rfl rfl) (E.sub (E.loc rfl) E.cI rfl)
  | _ => exact E.andF (E.cmp (E.sub (E.loc rfl) E.cI rfl) E.cS rfl)
noncomputable def RX.out (X : RX) (m : String) : RX := { X with tmode := if X.tmode = "" then m else X.tmode }
theorem out_ok : CV n "_law_ran_out" [.ref 22 0, .str m] (J A X r) .none (J A (X.out m) r) := Cl.is <|
  G.enter (fn := f__law_ran_out) rfl rfl (G.iteD (P := X.tmode = "") (E.cmp (E.sub (E.loc rfl) E.cS rfl) E.cS rfl) (fun q => G.asgS (E.loc rfl) (E.loc rfl) E.cS set_mode (G.fin ⟨rfl, by unfold RX.out; rw [if_pos q]⟩)) fun q => G.fin ⟨rfl, by unfold RX.out; rw [if_neg q]⟩)
noncomputable def belN (nd : Nd) (j : Nat) : Nat := if nd.name = "template" then j + 1 else j
theorem below_ok (h : X.nodes[j]? = some nd) (hk : nd.kind ≠ "fragment") : CV n "_law_below" [nref j] (J A X r) (.ref 25 (belN nd j)) (J A X r) := Cl.is <| by
  have s7 : subX (J A X r) (nref j) (.int 7) = some (if nd.name = "template" then .ref 25 (j + 1) else .none) := sub_nd (k := 7) h hk rfl
  have s6 : subX (J A X r) (nref j) (.int 6) = some (.ref 25 j) := sub_nd (k := 6) h hk rfl
  refine G.enter (fn := f__law_below) rfl rfl ?_
  unfold belN
  by_cases q : nd.name = "template"
  · rw [if_pos q] at s7; rw [if_pos q]
    exact G.ret (E.ifF (E.isN (E.sub (E.loc rfl) E.cI s7)) (E.sub (E.loc rfl) E.cI s7)) ⟨rfl, rfl⟩
  · rw [if_neg q] at s7; rw [if_neg q]
    exact G.ret (E.ifT (E.isN (E.sub (E.loc rfl) E.cI s7)) (E.sub (E.loc rfl) E.cI s6)) ⟨rfl, rfl⟩
end
end Mine
end

section
set_option maxRecDepth 100000
set_option genInjectivity false
namespace Mine
noncomputable def RX.put (X : RX) (nd : Nd) (more : List Nd) (pl : Nat → Int) : RX := { X with nodes := X.nodes ++ nd :: more, pl := pl }
noncomputable def moreOf (nm : String) : List Nd := if nm = "template" then [frNd] else []
structure Stands (X : RX) (pl : Nat → Int) (place : Int) : Prop where
  old : ∀ j, j < X.nodes.length → pl j = X.pl j
  new : pl X.nodes.length = place
noncomputable def upTo (nd : Nd) (h : Nat) : Nd := { nd with up := h }
noncomputable def elSp (kind : String) : String := if kind = "element" then "html" else ""
noncomputable def mkNd (kind name : String) (at_ : List (String × String)) (text : String) : Nd := ⟨kind, elSp kind, name, at_, text, -1⟩
section
variable {A : AB} {X X' : RX} {r f g st : XSt} {b : List (List XObj)} {k i j n p h : Nat} {l : List XObj} {o : XObj} {env : XEnv} {m w s kind name text : String} {e : XE} {t : Tok} {nd np : Nd} {more : List Nd} {pl : Nat → Int} {place u : Int} {at_ : List (String × String)}
theorem more_at {l : List Nd} {x : Nd} {j : Nat} : (l ++ x :: moreOf s)[j]? = if j = l.length then some x else if j = l.length + 1 ∧ s = "template" then some frNd else l[j]? := by
  rcases Nat.lt_trichotomy j l.length with q | q | q
  · rw [List.getElem?_append_left q, if_neg (Nat.ne_of_lt q), if_neg fun z => absurd z.1 (Nat.ne_of_lt (Nat.lt_succ_of_lt q))]
  · subst q; rw [if_pos rfl, List.getElem?_append_right (Nat.le_refl _), Nat.sub_self]; rfl
  · obtain ⟨d, rfl⟩ := Nat.exists_eq_add_of_lt q
    rw [if_neg (Nat.ne_of_gt q), List.getElem?_append_right (Nat.le_of_lt q), show l.length + d + 1 - l.length = d + 1 from by rw [Nat.add_assoc, Nat.add_sub_cancel_left], List.getElem?_cons_succ, List.getElem?_eq_none (Nat.le_of_lt q)]
    unfold moreOf
    by_cases z : s = "template"
    · rw [if_pos z]
      cases d with
      | zero => exact (if_pos ⟨rfl, z⟩).symm
      | succ d => exact (if_neg fun y => absurd (Nat.add_left_cancel (Nat.succ.inj y.1) : d + 1 = 0) (Nat.succ_ne_zero d)).symm
    · rw [if_neg z, if_neg fun y => z y.2]; rfl
theorem more_cases {l : List Nd} {x y : Nd} {j : Nat} (h : (l ++ x :: moreOf s)[j]? = some y) : (j < l.length ∧ l[j]? = some y) ∨ (j = l.length ∧ x = y) ∨ (j = l.length + 1 ∧ s = "template" ∧ frNd = y) := by
  rw [more_at] at h
  by_cases q : j = l.length
  · rw [if_pos q] at h; exact .inr (.inl ⟨q, Option.some.inj h⟩)
  · rw [if_neg q] at h
    by_cases z : j = l.length + 1 ∧ s = "template"
    · rw [if_pos z] at h; exact .inr (.inr ⟨z.1, z.2, Option.some.inj h⟩)
    · rw [if_neg z] at h; exact .inl ⟨(List.getElem?_eq_some_iff.mp h).1, h⟩
theorem nd_put (hk : nd.kind ≠ "fragment") (S : Stands X pl place) : pt (ndR X.pl X.nodes) X.nodes.length [.list (nd.attrs.map pairV), .list (objL pl X.nodes.length nd)] = ndR pl (X.nodes ++ { nd with up := u } :: moreOf nd.name) := by
  funext j
  unfold pt ndR
  rw [more_at]
  by_cases q : j = X.nodes.length
  · subst q; rw [if_pos rfl, if_pos rfl]; exact (if_neg hk).symm
  · rw [if_neg q, if_neg q]
    by_cases z : j = X.nodes.length + 1 ∧ nd.name = "template"
    · rw [if_pos z, z.1, List.getElem?_eq_none (Nat.le_succ _)]
      exact (if_pos (c := frNd.kind = "fragment") (t := ([] : List XObj)) (e := [.list (frNd.attrs.map pairV), .list (objL pl (X.nodes.length + 1) frNd)]) rfl).symm
    · rw [if_neg z]
      rcases Nat.lt_or_ge j X.nodes.length with y | y
      · rw [List.getElem?_eq_getElem y]
        show (if _ then _ else [_, XObj.list (objL X.pl j _)]) = if _ then _ else [_, XObj.list (objL pl j _)]
        unfold objL; rw [S.old j y]
      · rw [List.getElem?_eq_none y]; rfl
theorem kids_two {l : List Nd} (hu : UpL l) (h : nd.up = -1) : kidsO nref l ++ [.list []] ++ (if nd.name = "template" then [XObj.list []] else []) = kidsO nref (l ++ nd :: moreOf nd.name) := by
  rw [kids_snoc hu h]
  unfold moreOf
  by_cases z : nd.name = "template"
  · rw [if_pos z, if_pos z, kids_snoc (nd := frNd) (hu.add h) rfl, List.append_assoc]; rfl
  · rw [if_neg z, if_neg z, List.append_nil]
theorem more_up : ∀ x ∈ moreOf s, x.up = -1 := fun x hx => by
  unfold moreOf at hx
  split at hx
  · exact List.mem_singleton.mp hx ▸ rfl
  · exact nomatch hx
theorem hung (hup : nd.up = -1) (hh : h < X.nodes.length) : (J A (X.put nd (moreOf nd.name) pl) r).set 25 h (.list ((kidsFrom (X.nodes ++ nd :: moreOf nd.name) 0 (h : Int)).map nref ++ [nref X.nodes.length])) = J A (X.put (upTo nd h) (moreOf nd.name) pl) r := by
  have hl : h < (X.nodes ++ nd :: moreOf nd.name).length := by rw [List.length_append]; exact Nat.lt_of_lt_of_le hh (Nat.le_add_right _ _)
  have e := kidsO_mod (f := nref) (l := X.nodes ++ nd :: moreOf nd.name) (n := X.nodes.length) (p := h) (nd := nd) (by rw [List.getElem?_append_right (Nat.le_refl _), Nat.sub_self]; rfl) hup hl fun m nd' hm hx => by
    rw [List.getElem?_append_right (Nat.le_of_lt hm), ← Nat.sub_add_cancel (Nat.sub_pos_of_lt hm)] at hx
    rw [more_up nd' (List.mem_of_getElem? hx)]; exact fun z => nomatch z
  rw [modify_end] at e
  refine (J_set (l := kidsO nref (X.nodes ++ nd :: moreOf nd.name)) rfl rfl rfl).trans ?_
  refine (congrArg (fun K => BSt A (glue (over (rB X K) r) (ndR pl (X.nodes ++ nd :: moreOf nd.name)))) e.symm).trans ?_
  refine congrArg (fun G => BSt A (glue (over (rB X (kidsO nref (X.nodes ++ upTo nd h :: moreOf nd.name))) r) G)) (funext fun j => ?_)
  show ((X.nodes ++ nd :: moreOf nd.name)[j]?).elim _ _ = ((X.nodes ++ upTo nd h :: moreOf nd.name)[j]?).elim _ _
  rcases Nat.lt_or_ge j X.nodes.length with q | q
  · rw [List.getElem?_append_left q, List.getElem?_append_left q]; rfl
  · rw [List.getElem?_append_right q, List.getElem?_append_right q]
    cases j - X.nodes.length with
    | zero => rfl
    | succ d => rfl
theorem add_ok' (hu : UpL X.nodes) (hsz : X.nodes.length < 900) (hp : X.nodes[p]? = some np) (hpk : np.kind ≠ "fragment") (hh : belN np p < X.nodes.length) (hk : kind ≠ "fragment") (S : Stands X pl place) (ha : at_.length ≤ 900) :
    CV (n + 1) "_law_add" [nref p, .str kind, .str name, attrsV at_, .str text, .int place] (J A X r) (nref X.nodes.length) (J A (X.put (upTo (mkNd kind name at_ text) (belN np p)) (moreOf name) pl) r) := Cl.is <| by
  have hN : ndR X.pl X.nodes X.nodes.length = [] := by unfold ndR; rw [List.getElem?_eq_none (Nat.le_refl _)]; rfl
  have sp : ∀ {env : XEnv}, env "kind" = some (.str kind) → EV (n + 1) env (J A X r) (.ife (.cmp .eq (.loc "kind") (.cS "element")) (.cS "html") (.cS "")) (.str (elSp kind)) (J A X r) := fun q => by
    unfold elSp
    by_cases z : kind = "element"
    · rw [if_pos z]; exact E.ifT (E.cmp (E.loc q) E.cS (congrArg some (decide_eq_true z))) E.cS
    · rw [if_neg z]; exact E.ifF (E.cmp (E.loc q) E.cS (congrArg some (decide_eq_false z))) E.cS
  have ct : ∀ {env : XEnv} {G : XSt}, env "name" = some (.str name) → EV (n + 1) env (BSt A (glue (over (rB X (kidsO nref X.nodes ++ [.list []])) r) G)) (.ife (.cmp .eq (.loc "name") (.cS "template")) (.list .nil) .cN) (if name = "template" then .ref 25 (X.nodes.length + 1) else .none)
      (BSt A (glue (over (rB X (kidsO nref X.nodes ++ [.list []] ++ (if name = "template" then [XObj.list []] else []))) r) G)) := fun q => by
    by_cases z : name = "template"
    · rw [if_pos z, if_pos z]
      refine E.ifT (E.cmp (E.loc q) E.cS (congrArg some (decide_eq_true z))) (E.to2 (E.list 25 .nil (Nat.zero_le _)) (congrArg (XVal.ref 25) ?_) (J_push rfl rfl rfl))
      exact len_snoc.trans (congrArg (· + 1) kidsO_len)
    · rw [if_neg z, if_neg z, List.append_nil]
      exact E.ifF (E.cmp (E.loc q) E.cS (congrArg some (decide_eq_false z))) E.cN
  refine G.enter (fn := f__law_add) rfl rfl (G.asg (sp rfl) (G.asg (E.to2 (E.list (100 + X.nodes.length) (EE.cons (E.loc rfl) (EE.cons (E.loc rfl) (EE.cons (E.loc rfl) (EE.cons (E.to2 (E.mkl (100 + X.nodes.length) (E.loc rfl) (by rw [List.length_map]; exact Nat.le_trans ha (by decide)))
    (congrArg (XVal.ref (100 + X.nodes.length)) (congrArg List.length (J_hi.trans hN))) (J_hpush hN)) (EE.cons (E.loc rfl) (EE.cons (E.loc rfl) (EE.cons (E.to2 (E.list 25 .nil (Nat.zero_le _)) (congrArg (XVal.ref 25) kidsO_len) (J_push rfl rfl rfl)) (EE.one (ct rfl))))))))) (Nat.le_of_ble_eq_true rfl))
    (v' := nref X.nodes.length) (congrArg (XVal.ref (100 + X.nodes.length)) (congrArg List.length (J_hi.trans (if_pos rfl)) : _ = List.length [XObj.list (at_.map pairV)])) ((J_hpush (l := [XObj.list (at_.map pairV)]) (if_pos rfl)).trans (?_ : _ = J A (X.put (mkNd kind name at_ text) (moreOf name) pl) r))) ?_))
  · have e1 := kids_two (nd := mkNd kind name at_ text) hu rfl
    have e2 := nd_put (nd := mkNd kind name at_ text) (u := -1) hk S
    have e3 : [.str kind, .str (elSp kind), .str name, .ref (100 + X.nodes.length) 0, .str text, .int place, .ref 25 X.nodes.length, if name = "template" then .ref 25 (X.nodes.length + 1) else .none] = objL pl X.nodes.length (mkNd kind name at_ text) := by unfold objL; rw [S.new]; rfl
    refine congrArg (BSt A) ((congrArg (glue _) (?_ : _ = ndR pl (X.nodes ++ mkNd kind name at_ text :: moreOf name))).trans (congrArg (fun K => glue (over (rB X K) r) (ndR pl (X.nodes ++ mkNd kind name at_ text :: moreOf name))) e1))
    refine Eq.trans (funext fun q => ?_) e2
    unfold pt
    by_cases z : q = X.nodes.length
    · rw [if_pos z, if_pos z]; exact congrArg (fun o => [XObj.list (at_.map pairV), XObj.list o]) e3
    · rw [if_neg z, if_neg z, if_neg z]
  · have hl : ∀ {q : Nat}, q < X.nodes.length → q < (X.nodes ++ mkNd kind name at_ text :: moreOf name).length := fun q => by rw [List.length_append]; exact Nat.lt_of_lt_of_le q (Nat.le_add_right _ _)
    have k := k_25 (A := A) (X := X.put (mkNd kind name at_ text) (moreOf name) pl) (r := r) (j := belN np p) (hl hh)
    refine G.expr (E.to (E.append (E.call (EE.one (E.loc rfl)) (below_ok (X := X.put (mkNd kind name at_ text) (moreOf name) pl) (j := p) (nd := np) ?_ hpk)) k (E.loc rfl) k ?_) (hung (nd := mkNd kind name at_ text) rfl hh)) (G.ret (E.loc rfl) ⟨rfl, rfl⟩)
    · show (X.nodes ++ _)[p]? = _
      rw [List.getElem?_append_left (List.getElem?_eq_some_iff.mp hp).1]; exact hp
    · rw [List.length_map]
      refine Nat.lt_of_le_of_lt (kids_len _ _ _) (Nat.lt_of_le_of_lt (m := X.nodes.length + 2) ?_ (Nat.lt_trans (Nat.add_lt_add_right hsz 2) (by decide)))
      show (X.nodes ++ _ :: moreOf name).length ≤ _
      rw [List.length_append]
      refine Nat.add_le_add_left (Nat.succ_le_succ ?_) _
      unfold moreOf; split
      · exact Nat.le_refl _
      · exact Nat.zero_le _
end
end Mine
end

section
set_option maxRecDepth 100000
set_option genInjectivity false
namespace Mine
noncomputable def docNd : Nd := ⟨"document", "", "", [], "", -1⟩
structure NdOk (l : List Nd) (tm : List Int) (j : Nat) (nd : Nd) : Prop where
  tm : (j : Int) ∈ tm ↔ nd.name = "template"
  fr : nd.name = "template" → ∃ fr, l[j + 1]? = some fr ∧ fr.kind = "fragment"
  un : nd.kind = "fragment" → nd.up = -1
  atl : nd.attrs.length ≤ 1
structure Core (A : AB) (n : Nat) : Prop where
  up : UpOk A
  nd : ∀ j nd, A.nodes[j]? = some nd → NdOk A.nodes A.tm j nd
  tm : TmOk A
  els : ∀ i ∈ A.items, ∃ (j : Nat) (nd : Nd), i = j ∧ A.nodes[j]? = some nd ∧ nd.kind = "element"
  doc0 : A.nodes[0]? = some docNd
  inc : A.items.Pairwise (· < ·)
  ne : A.items ≠ []
  nodes : A.nodes.length ≤ n
  texts : TxOk A (100 + n)
  len : A.items.length ≤ A.nodes.length
noncomputable def tmOf (A : AB) (nm : String) : List Int := if nm = "template" then A.tm ++ [(A.nodes.length : Int)] else A.tm
section
variable {A A' : AB} {n : Nat} {nd : Nd} {m : List Int}
theorem Core.same (h : Core A n) (e1 : A'.nodes = A.nodes) (e2 : A'.tm = A.tm) (e3 : A'.items = A.items) : Core A' n :=
  ⟨show UpL A'.nodes from e1 ▸ h.up, e1 ▸ e2 ▸ h.nd, ⟨e1 ▸ e2 ▸ h.tm.low, e1 ▸ e2 ▸ h.tm.len⟩, e1 ▸ e3 ▸ h.els, e1 ▸ h.doc0, e3 ▸ h.inc, e3 ▸ h.ne, e1 ▸ h.nodes, show ∀ nd ∈ A'.nodes, _ from e1 ▸ h.texts, e1 ▸ e3 ▸ h.len⟩
theorem Core.mono {n' : Nat} (h : Core A n) (hn : n ≤ n') : Core A n' :=
  ⟨h.up, h.nd, h.tm, h.els, h.doc0, h.inc, h.ne, Nat.le_trans h.nodes hn, fun x hx => Nat.le_trans (h.texts x hx) (Nat.add_le_add_left hn _), h.len⟩
theorem Core.low (h : Core A n) (e1 : A'.nodes = A.nodes) (e2 : A'.tm = A.tm) (e3 : A.items = A'.items ++ m) (hne : A'.items ≠ []) : Core A' n :=
  ⟨show UpL A'.nodes from e1 ▸ h.up, e1 ▸ e2 ▸ h.nd, ⟨e1 ▸ e2 ▸ h.tm.low, e1 ▸ e2 ▸ h.tm.len⟩, fun i hi => e1 ▸ h.els i (e3 ▸ List.mem_append_left _ hi), e1 ▸ h.doc0, (List.pairwise_append.mp (e3 ▸ h.inc)).1, hne, e1 ▸ h.nodes, show ∀ nd ∈ A'.nodes, _ from e1 ▸ h.texts,
    e1 ▸ Nat.le_trans (by rw [e3, List.length_append]; exact Nat.le_add_right _ _) h.len⟩
structure TopIs (A : AB) (l : List Int) (j : Nat) (nd : Nd) : Prop where
  items : A.items = l ++ [(j : Int)]
  at_ : A.nodes[j]? = some nd
  kind : nd.kind = "element"
  top : A.top = j
  hold : A.hold = belN nd j
  lt : A.hold < A.nodes.length
  holds : holdI A j = (A.hold : Int)
theorem Core.topItem (h : Core A n) : ∃ l j nd, TopIs A l j nd := by
  obtain ⟨j, nd, h1, h2, h3⟩ := h.els _ (List.getLast_mem h.ne)
  have ht : A.top = j := by
    unfold AB.top
    rw [List.getLast?_eq_some_getLast h.ne, h1]; rfl
  have hj := (List.getElem?_eq_some_iff.mp h2).1
  have hI : holdI A j = (belN nd j : Int) ∧ belN nd j < A.nodes.length := by
    unfold holdI belN
    have e := (h.nd j nd h2).tm
    by_cases q : nd.name = "template"
    · rw [if_pos q, if_pos (e.mpr q)]
      exact ⟨rfl, Int.ofNat_lt.mp (h.tm.low _ (e.mpr q)).2⟩
    · rw [if_neg q, if_neg fun z => q (e.mp z)]; exact ⟨rfl, hj⟩
  have hh : A.hold = belN nd j := by
    unfold AB.hold
    rw [ht, hI.1]; rfl
  exact ⟨A.items.dropLast, j, nd, by rw [← h1]; exact (List.dropLast_concat_getLast h.ne).symm, h2, h3, ht, hh, hh ▸ hI.2, hh ▸ hI.1⟩
theorem Core.ins (h : Core A n) (hn : n ≤ 700) : Ins A A.hold := by
  obtain ⟨l, j, nd, t⟩ := h.topItem
  have hn := Nat.le_trans h.nodes hn
  refine ⟨h.up, h.tm, Nat.lt_of_le_of_lt hn (by decide), Nat.lt_of_le_of_lt (Nat.le_trans h.len hn) (by decide), j, l, A.nodes[A.hold]'t.lt, t.items, Int.natCast_nonneg j, List.getElem?_eq_getElem t.lt, t.holds, fun z => ?_⟩
  have e := List.getElem?_eq_getElem t.lt
  generalize A.nodes[A.hold]'t.lt = np at e z
  rw [t.hold] at e
  unfold belN at e
  by_cases q : nd.name = "template"
  · obtain ⟨fr, f1, f2⟩ := (h.nd j nd t.at_).fr q
    rw [if_pos q, f1] at e
    rw [← Option.some.inj e, f2] at z; exact absurd z (by decide)
  · rw [if_neg q, t.at_] at e
    rw [← Option.some.inj e, t.kind] at z; exact absurd z (by decide)
theorem Core.put (h : Core A n) {c : Bool} (hr : nd.kind = "element" ∨ (nd.kind ≠ "fragment" ∧ c = false)) (hN : A'.nodes = A.nodes ++ { nd with up := (A.hold : Int) } :: moreOf nd.name) (hT : A'.tm = tmOf A nd.name) (hI : A'.items = bif c then A.items ++ [(A.nodes.length : Int)] else A.items) (ht : nd.text.length ≤ 100) (hat : nd.attrs.length ≤ 1) : Core A' (n + 2) := by
  obtain ⟨l, j0, nd0, t⟩ := h.topItem
  have hml : (moreOf nd.name).length ≤ 1 := by unfold moreOf; split; exact Nat.le_refl _; exact Nat.zero_le _
  have hlen : A'.nodes.length = A.nodes.length + ((moreOf nd.name).length + 1) := by rw [hN, List.length_append]; rfl
  have hle : A.nodes.length < A'.nodes.length := by rw [hlen]; exact Nat.lt_add_of_pos_right (Nat.succ_pos _)
  have old : ∀ {k : Nat} {x : Nd}, A.nodes[k]? = some x → A'.nodes[k]? = some x := fun hx => by rw [hN, List.getElem?_append_left (List.getElem?_eq_some_iff.mp hx).1]; exact hx
  have new : ∀ {k : Nat} {x : Nd}, A'.nodes[k]? = some x → _ := fun hx => more_cases (s := nd.name) (hN ▸ hx)
  have tmem : ∀ {t : Int}, t ∈ A'.tm ↔ t ∈ A.tm ∨ (t = (A.nodes.length : Int) ∧ nd.name = "template") := fun {t} => by
    rw [hT]; unfold tmOf
    by_cases q : nd.name = "template"
    · rw [if_pos q, List.mem_append, List.mem_singleton]; exact or_congr Iff.rfl ⟨fun z => ⟨z, q⟩, fun z => z.1⟩
    · rw [if_neg q]; exact ⟨.inl, fun z => z.elim id fun z => absurd z.2 q⟩
  have ltm : ∀ {k : Nat}, A.nodes.length ≤ k → (k : Int) ∉ A.tm := fun {k} hk z => absurd (h.tm.low _ z).2 (Int.not_lt.mpr (Int.le_of_lt (Int.lt_add_one_of_le (Int.ofNat_le.mpr hk))))
  have lti : ∀ {a : Int}, a ∈ A.items → a < (A.nodes.length : Int) := fun ha => by
    obtain ⟨j, x, rfl, h1, _⟩ := h.els _ ha
    exact Int.ofNat_lt.mpr (List.getElem?_eq_some_iff.mp h1).1
  have atN : A'.nodes[A.nodes.length]? = some { nd with up := (A.hold : Int) } := by rw [hN, more_at, if_pos rfl]
  refine ⟨fun k x hx => ?_, fun k x hx => ?_, ⟨fun t q => ?_, ?_⟩, fun i q => ?_, old h.doc0, ?_, ?_, ?_, fun x hx => ?_, ?_⟩
  · rcases new hx with ⟨_, q⟩ | ⟨rfl, rfl⟩ | ⟨rfl, _, rfl⟩
    · exact h.up k x q
    · exact ⟨Int.le_trans (by decide) (Int.natCast_nonneg _), Int.ofNat_lt.mpr t.lt⟩
    · exact ⟨Int.le_refl _, Int.lt_of_lt_of_le (by decide : (-1 : Int) < 0) (Int.natCast_nonneg _)⟩
  · rcases new hx with ⟨hk, q⟩ | ⟨rfl, rfl⟩ | ⟨rfl, z, rfl⟩
    · obtain ⟨a1, a2, a3, a4⟩ := h.nd k x q
      exact ⟨tmem.trans ⟨fun y => y.elim a1.mp fun y => absurd (Int.ofNat.inj y.1) (Nat.ne_of_lt hk), fun y => .inl (a1.mpr y)⟩, fun y => let ⟨fr, b1, b2⟩ := a2 y; ⟨fr, old b1, b2⟩, a3, a4⟩
    · refine ⟨tmem.trans ⟨fun y => y.elim (fun y => absurd y (ltm (Nat.le_refl _))) fun y => y.2, fun y => .inr ⟨rfl, y⟩⟩, fun y => ⟨frNd, ?_, rfl⟩, fun y => ?_, hat⟩
      · rw [hN, more_at, if_neg (Nat.succ_ne_self _), if_pos ⟨rfl, y⟩]
      · have y : nd.kind = "fragment" := y
        rcases hr with z | z
        · rw [z] at y; exact absurd y (by decide)
        · exact absurd y z.1
    · exact ⟨tmem.trans ⟨fun y => y.elim (fun y => absurd y (ltm (Nat.le_succ _))) fun y => absurd (Int.ofNat.inj y.1) (Nat.succ_ne_self _), fun y => absurd y (by decide)⟩, fun y => absurd y (by decide), fun _ => rfl, Nat.zero_le _⟩
  · rcases tmem.mp q with q | ⟨rfl, qn⟩
    · exact ⟨(h.tm.low t q).1, Int.lt_trans (h.tm.low t q).2 (Int.ofNat_lt.mpr hle)⟩
    · refine ⟨Int.natCast_nonneg _, Int.ofNat_lt.mpr (show A.nodes.length + 1 < A'.nodes.length from ?_)⟩
      rw [hlen]; unfold moreOf; rw [if_pos qn]; exact Nat.lt_succ_self _
  · rw [hT]
    refine Nat.le_trans ?_ (Nat.succ_le_of_lt hle)
    unfold tmOf; split
    · rw [len_snoc]; exact Nat.succ_le_succ h.tm.len
    · exact Nat.le_succ_of_le h.tm.len
  · rw [hI] at q
    have q' : i ∈ A.items ∨ (i = (A.nodes.length : Int) ∧ c = true) := by
      cases c with
      | false => exact .inl q
      | true => exact (List.mem_append.mp q).imp id fun q => ⟨List.mem_singleton.mp q, rfl⟩
    rcases q' with q | ⟨rfl, qc⟩
    · obtain ⟨j, x, e, h1, h2⟩ := h.els i q
      exact ⟨j, x, e, old h1, h2⟩
    · exact ⟨_, _, rfl, atN, hr.elim id fun z => absurd (qc.symm.trans z.2) (by decide)⟩
  · rw [hI]
    cases c with
    | false => exact h.inc
    | true => exact List.pairwise_append.mpr ⟨h.inc, List.pairwise_singleton _ _, fun a ha b hb => List.mem_singleton.mp hb ▸ lti ha⟩
  · rw [hI]
    cases c with
    | false => exact h.ne
    | true => exact List.append_ne_nil_of_right_ne_nil _ (List.cons_ne_nil _ _)
  · rw [hlen]; exact Nat.add_le_add h.nodes (Nat.succ_le_succ hml)
  · obtain ⟨k, hk⟩ := List.mem_iff_getElem?.mp hx
    rcases new hk with ⟨_, q⟩ | ⟨_, rfl⟩ | ⟨_, _, rfl⟩
    · exact Nat.le_trans (h.texts x (List.mem_of_getElem? q)) (Nat.add_le_add_left (Nat.le_add_right _ _) _)
    · exact Nat.le_trans ht (Nat.le_add_right _ _)
    · exact Nat.zero_le _
  · rw [hI]
    refine Nat.le_trans ?_ (Nat.succ_le_of_lt hle)
    cases c with
    | false => exact Nat.le_succ_of_le h.len
    | true => show (A.items ++ [_]).length ≤ _; rw [len_snoc]; exact Nat.succ_le_succ h.len
theorem Core.fresh (h : Core A n) {j : Nat} (hj : A.nodes.length ≤ j) : (j : Int) ∉ A.items := fun q => by
  obtain ⟨k, nd, e1, e2, _⟩ := h.els _ q
  exact absurd (Int.ofNat.inj e1 ▸ hj) (Nat.not_le_of_lt (List.getElem?_eq_some_iff.mp e2).1)
end
end Mine
end

section
set_option maxRecDepth 100000
set_option genInjectivity false
namespace Mine
noncomputable def rx (A : AB) (W : List (Nat × String)) (m : String) (O : List (List Int)) : RX := ⟨A.nodes, placeI A.items, A.errors, A.frameOk, A.original, A.modes.length, W, m, O⟩
noncomputable def RX.off (X : RX) (j : Nat) : RX := { X with pl := fun i => if i = j then -1 else X.pl i }
section
variable {A A' F : AB} {n k j : Nat} {W : List (Nat × String)} {m s nm kind name tx : String} {O : List (List Int)} {r : XSt} {X : RX} {nd : Nd} {l : List Int} {pl : Nat → Int} {place : Int} {at_ : List (String × String)} {c : List XObj}
theorem ins_tm : (A.ins nm).tm = tmOf A nm := by
  show (addElem A nm (atN nm)).tm = _
  unfold addElem tmOf
  by_cases h : nm = "template"
  · rw [if_pos h, if_pos h]; rfl
  · rw [if_neg h, if_neg h]; rfl
theorem ins_top : (A.ins nm).top = A.nodes.length := by
  show ((A.items ++ [(A.nodes.length : Int)]).getLast?).getD (-1) = _
  rw [List.getLast?_append]; rfl
theorem ins_nodes' : (A.ins nm).nodes = A.nodes ++ upTo (mkNd "element" nm (atN nm) "") A.hold :: moreOf nm := ins_nodes nm
theorem rx_ins' : RX.mk (A.ins nm).nodes (placeI l) (A.ins nm).errors (A.ins nm).frameOk (A.ins nm).original (A.ins nm).modes.length W m O = (rx A W m O).put (upTo (mkNd "element" nm (atN nm) "") A.hold) (moreOf nm) (placeI l) := by
  rw [ins_nodes', show (A.ins nm).errors = A.errors from addElem_same AB.errors rfl rfl, show (A.ins nm).frameOk = A.frameOk from addElem_same AB.frameOk rfl rfl, show (A.ins nm).original = A.original from addElem_same AB.original rfl rfl, show (A.ins nm).modes = A.modes from addElem_same AB.modes rfl rfl]; rfl
theorem rx_com : rx (A.com s) W m O = (rx A W m O).put (upTo (mkNd "comment" "" [] s) A.hold) [] (placeI A.items) := by
  show RX.mk (A.com s).nodes _ _ _ _ _ _ _ _ = _
  rw [com_nodes]; rfl
theorem rx_text : rx (insT A s A.hold) W m O = (rx A W m O).put (upTo (mkNd "text" "" [] s) A.hold) [] (placeI A.items) := by
  show RX.mk (insT A s A.hold).nodes _ _ _ _ _ _ _ _ = _
  rw [insT_nodes]; rfl
theorem idx_old {l : List Int} {x y : Int} (h : y ≠ x) : (if x ∈ l ++ [y] then ((l ++ [y]).idxOf x : Int) else -1) = if x ∈ l then (l.idxOf x : Int) else -1 := by
  rw [List.idxOf_append]
  by_cases q : x ∈ l
  · rw [if_pos q, if_pos q, if_pos (List.mem_append_left _ q)]
  · rw [if_neg q, if_neg q, if_neg fun z => (List.mem_append.mp z).elim q fun z => h (List.mem_singleton.mp z).symm]
theorem idx_new {l : List Int} {y : Int} (h : y ∉ l) : (if y ∈ l ++ [y] then ((l ++ [y]).idxOf y : Int) else -1) = l.length := by
  rw [if_pos (List.mem_append_right _ (.head _)), List.idxOf_append, if_neg h, List.idxOf_cons_self, Nat.zero_add]
theorem stands_push (h : Core A n) : Stands (rx A W m O) (placeI (A.items ++ [(A.nodes.length : Int)])) A.items.length :=
  ⟨fun j hj => idx_old fun e => Nat.ne_of_gt hj (Int.ofNat.inj e), idx_new (h.fresh (Nat.le_refl _))⟩
theorem stands_not (h : Core A n) : Stands (rx A W m O) (placeI A.items) (-1) := ⟨fun _ _ => rfl, if_neg (h.fresh (Nat.le_refl _))⟩
theorem r_add (h : Core A n) (hn : n ≤ 899) (hk : kind ≠ "fragment") (S : Stands (rx A W m O) pl place) (ha : at_.length ≤ 900) : CV (k + 1) "_law_add" [nref A.top, .str kind, .str name, attrsV at_, .str tx, .int place] (J F (rx A W m O) r) (nref A.nodes.length)
    (J F ((rx A W m O).put (upTo (mkNd kind name at_ tx) A.hold) (moreOf name) pl) r) := by
  obtain ⟨l, j, nd, t⟩ := h.topItem
  rw [t.top, t.hold]
  exact add_ok' (X := rx A W m O) h.up (Nat.lt_of_le_of_lt (Nat.le_trans h.nodes hn) (by decide)) t.at_ (by rw [t.kind]; decide) (t.hold ▸ t.lt) hk S ha
theorem r_ins (h : Core A n) (hn : n ≤ 899) : CV (k + 1) "_law_add" [nref A.top, .str "element", .str nm, attrsV (atN nm), .str "", .int A.items.length] (J F (rx A W m O) r) (nref (A.ins nm).top) (J F (rx (A.ins nm) W m O) r) := by
  rw [ins_top, show rx (A.ins nm) W m O = _ from rx_ins']
  exact r_add h hn (by decide) (stands_push h) (Nat.le_of_ble_eq_true rfl)
theorem r_void (h : Core A n) (hn : n ≤ 899) {b : Bool} : CV (k + 1) "_law_add" [nref A.top, .str "element", .str nm, attrsV (atN nm), .str "", .int (-1)] (J F (rx A W m O) r) (nref A.nodes.length) (J F (rx { A.ins nm with items := A.items, ack := b } W m O) r) := by
  rw [show rx { A.ins nm with items := A.items, ack := b } W m O = _ from rx_ins']
  exact r_add h hn (by decide) (stands_not h) (Nat.le_of_ble_eq_true rfl)
theorem r_com (h : Core A n) (hn : n ≤ 899) : CV (k + 1) "_law_add" [nref A.top, .str "comment", .str "", .tup [], .str s, .int (-1)] (J F (rx A W m O) r) (nref A.nodes.length) (J F (rx (A.com s) W m O) r) := by
  rw [rx_com]; exact r_add (at_ := []) h hn (by decide) (stands_not h) (Nat.zero_le _)
theorem r_text (h : Core A n) (hn : n ≤ 899) : CV (k + 1) "_law_add" [nref A.top, .str "text", .str "", .tup [], .str s, .int (-1)] (J F (rx A W m O) r) (nref A.nodes.length) (J F (rx (insT A s A.hold) W m O) r) := by
  rw [rx_text]; exact r_add (at_ := []) h hn (by decide) (stands_not h) (Nat.zero_le _)
theorem set_nd {i : Nat} {v : XVal} {X' : RX} (hj : X.nodes[j]? = some nd) (hk : nd.kind ≠ "fragment") (hi : i < 8) (e : rB X (kidsO nref X.nodes) = rB X' (kidsO nref X'.nodes)) (e2 : pt (ndR X.pl X.nodes) j [.list (nd.attrs.map pairV), .list ((objL X.pl j nd).set i v)] = ndR X'.pl X'.nodes) :
    setX (J F X r) (nref j) (.int i) v = some (J F X' r) := by
  refine (set_nat (getL_some (g_nd hj hk)) hi).trans (congrArg some ((J_hset (ndR_at hj hk)).trans ?_))
  show BSt F (glue _ (pt (ndR X.pl X.nodes) j [.list (nd.attrs.map pairV), .list ((objL X.pl j nd).set i v)])) = BSt F (glue _ _)
  rw [e, e2]
theorem set_off5 (hj : X.nodes[j]? = some nd) (hk : nd.kind ≠ "fragment") : setX (J F X r) (nref j) (.int 5) (.int (-1)) = some (J F (X.off j) r) := set_nd (i := 5) (X' := X.off j) hj hk (by decide) rfl (by
  funext q
  unfold pt ndR
  by_cases z : q = j
  · subst z
    rw [if_pos rfl, show (X.off q).nodes = X.nodes from rfl, hj]
    refine Eq.trans ?_ (if_neg hk).symm
    have : (X.off q).pl q = -1 := if_pos rfl
    unfold objL; rw [this]; rfl
  · have : (X.off j).pl q = X.pl q := if_neg z
    rw [if_neg z]; unfold objL; rw [this]; rfl)
theorem rx_off (h : Core A n) (hi : A.items = l ++ [(j : Int)]) : (rx A W m O).off j = rx { A with items := l } W m O := by
  have hj : (j : Int) ∉ l := fun q => Int.lt_irrefl _ ((List.pairwise_append.mp (hi ▸ h.inc)).2.2 _ q j (.head _))
  refine congrArg (fun pl => RX.mk A.nodes pl A.errors A.frameOk A.original A.modes.length W m O) (funext fun i => ?_)
  show (if i = j then -1 else placeI A.items i) = placeI l i
  unfold placeI
  by_cases q : i = j
  · subst q; rw [if_pos rfl, if_neg hj]
  · rw [if_neg q, hi]; exact idx_old fun e => q (Int.ofNat.inj e).symm
theorem place_top (h : Core A n) : subX (J F (rx A W m O) r) (nref A.top) (.int 5) = some (.int (A.items.length - 1)) := by
  obtain ⟨l, j, nd, t⟩ := h.topItem
  have hj : (j : Int) ∉ l := fun q => Int.lt_irrefl _ ((List.pairwise_append.mp (t.items ▸ h.inc)).2.2 _ q j (.head _))
  rw [t.top]
  refine sub_nd (X := rx A W m O) (k := 5) t.at_ (by rw [t.kind]; decide) (congrArg (fun i => some (XVal.int i)) ?_)
  show placeI A.items j = _
  unfold placeI
  rw [t.items, idx_new hj, len_snoc]; exact (Int.add_sub_cancel (l.length : Int) 1).symm
theorem off_top (h : Core A n) (hi : A.items = l ++ [A.top]) : setX (J F (rx A W m O) r) (nref A.top) (.int 5) (.int (-1)) = some (J F (rx { A with items := l } W m O) r) := by
  obtain ⟨l', j, nd, t⟩ := h.topItem
  rw [t.top] at hi ⊢
  rw [← rx_off h hi]; exact set_off5 t.at_ (by rw [t.kind]; decide)
theorem txt_at {j k : Nat} : (addText A k s).nodes[j]? = (A.nodes[j]?).map fun nd => if k = j then { nd with text := nd.text ++ s } else nd := by
  show (A.nodes.modify k _)[j]? = _
  rw [List.getElem?_modify]; rfl
theorem txt_back {j k : Nat} (h : (addText A k s).nodes[j]? = some nd) : ∃ x t, A.nodes[j]? = some x ∧ nd = { x with text := t } ∧ t.length ≤ x.text.length + s.length := by
  rw [txt_at] at h
  obtain ⟨x, h1, rfl⟩ := Option.map_eq_some_iff.mp h
  by_cases z : k = j
  · rw [if_pos z]; exact ⟨x, _, h1, rfl, Nat.le_of_eq (String.length_append ..)⟩
  · rw [if_neg z]; exact ⟨x, x.text, h1, rfl, Nat.le_add_right _ _⟩
theorem txt_on {j k : Nat} {x : Nd} (h : A.nodes[j]? = some x) : ∃ t, (addText A k s).nodes[j]? = some { x with text := t } := by
  rw [txt_at, h]
  by_cases z : k = j
  · exact ⟨x.text ++ s, congrArg some (if_pos z)⟩
  · exact ⟨x.text, congrArg some (if_neg z)⟩
theorem txt_self (h : A.nodes[k]? = some nd) : (addText A k s).nodes[k]? = some { nd with text := nd.text ++ s } := by rw [txt_at, h]; exact congrArg some (if_pos rfl)
theorem txt_ne {j k : Nat} (h : k ≠ j) : (addText A k s).nodes[j]? = A.nodes[j]? := by
  rw [txt_at]
  cases A.nodes[j]? with
  | none => rfl
  | some x => exact congrArg some (if_neg h)
theorem txt_len : (addText A k s).nodes.length = A.nodes.length := List.length_modify ..
theorem Core.text (h : Core A n) (hkt : ∀ x, A.nodes[k]? = some x → x.kind = "text") (hs : s.length ≤ 1) : Core (addText A k s) (n + 2) := by
  refine ⟨fun j nd hj => ?_, fun j nd hj => ?_, ⟨fun t ht => by rw [txt_len]; exact h.tm.low t ht, by rw [txt_len]; exact h.tm.len⟩, fun i hi => ?_, ?_, h.inc, h.ne, by rw [txt_len]; exact Nat.le_add_right_of_le h.nodes, fun x hx => ?_, by rw [txt_len]; exact h.len⟩
  · obtain ⟨x, t, h1, rfl, _⟩ := txt_back hj; exact h.up j x h1
  · obtain ⟨x, t, h1, rfl, _⟩ := txt_back hj
    obtain ⟨a1, a2, a3, a4⟩ := h.nd j x h1
    exact ⟨a1, fun z => let ⟨fr, b1, b2⟩ := a2 z; let ⟨t, b3⟩ := txt_on (k := k) (s := s) b1; ⟨_, b3, b2⟩, a3, a4⟩
  · obtain ⟨j, x, e, h1, h2⟩ := h.els i hi
    obtain ⟨t, h4⟩ := txt_on (k := k) (s := s) h1
    exact ⟨j, _, e, h4, h2⟩
  · rw [txt_at, h.doc0]
    exact congrArg some (if_neg fun z => absurd (hkt _ (z ▸ h.doc0)) (by decide))
  · obtain ⟨j, hj⟩ := List.mem_iff_getElem?.mp hx
    obtain ⟨x, t, h1, rfl, h2⟩ := txt_back hj
    rw [← Nat.add_assoc]
    exact Nat.le_trans h2 (Nat.add_le_add (h.texts x (List.mem_of_getElem? h1)) (Nat.le_trans hs (by decide : 1 ≤ 2)))
theorem set_text (hk : A.nodes[k]? = some nd) (hr : nd.kind ≠ "fragment") : setX (J F (rx A W m O) r) (nref k) (.int 4) (.str (nd.text ++ s)) = some (J F (rx (addText A k s) W m O) r) := by
  refine set_nd (X := rx A W m O) (X' := rx (addText A k s) W m O) (i := 4) hk hr (by decide) ?_ (funext fun q => ?_)
  · have : kidsO nref (addText A k s).nodes = kidsO nref A.nodes := by
      unfold kidsO; rw [txt_len]
      exact congrArg (fun f : Nat → XObj => (List.range A.nodes.length).map f) (funext fun i => by rw [kids_ups (l := (addText A k s).nodes) (m := A.nodes) (map_txt fun _ _ => rfl)])
    exact congrArg (rB (rx A W m O)) this.symm
  · unfold pt ndR
    show _ = ((addText A k s).nodes[q]?).elim _ _
    by_cases z : q = k
    · subst z
      rw [if_pos rfl, txt_self hk]; exact (if_neg hr).symm
    · rw [if_neg z, txt_ne (Ne.symm z)]; rfl
end
end Mine
end

section
set_option maxRecDepth 100000
set_option genInjectivity false
namespace Mine
section
variable {A A' F : AB} {n k j b : Nat} {W : List (Nat × String)} {m s nm : String} {O : List (List Int)} {r : XSt} {X : RX} {nd : Nd} {l : List Int} {env : XEnv}
theorem below_ne (e : env "below" = some (.ref 25 b)) (hb : b < X.nodes.length) : EV n env (J F X r) (.cmp .ne (.loc "below") (.list .nil)) (.bool (!(kidsFrom X.nodes 0 (b : Int)).isEmpty)) (J F X r) := by
  have k := k_25 (A := F) (r := r) hb
  refine E.drop ?_ (dropL (o := [.list []]) (.bool _))
  cases h : kidsFrom X.nodes 0 (b : Int) with
  | nil =>
    rw [h] at k
    exact E.neD (E.loc e) (E.to (E.list 0 .nil (Nat.zero_le _)) (over_push (b := bL F) (l := []) rfl)) (.list (xs := []) (ys := []) (fun z => absurd z.1 (by decide)) k rfl rfl fun k x y z => nomatch z)
  | cons x xs =>
    rw [h] at k
    exact E.neL (E.loc e) (E.to (E.list 0 .nil (Nat.zero_le _)) (over_push (b := bL F) (l := []) rfl)) k rfl rfl
theorem r_sign (h : Core A n) (hn : n ≤ 800) (hs : s.length ≤ 1) : CV (k + 2) "_law_add_sign" [nref A.top, .str s] (J F (rx A W m O) r) .none (J F (rx (A.sign s) W m O) r) := Cl.is <| by
  obtain ⟨top, j, nd, t⟩ := h.topItem
  refine G.enter (fn := f__law_add_sign) rfl rfl (G.asg (v := .ref 25 A.hold) (E.call (EE.one (E.loc rfl)) (by rw [t.top, t.hold]; exact below_ok (X := rx A W m O) t.at_ (by rw [t.kind]; decide))) ?_)
  have c1 := fun {env : XEnv} (e : env "below" = some (.ref 25 A.hold)) => below_ne (n := k + 2) (F := F) (r := r) (X := rx A W m O) e t.lt
  have new : lastText A A.hold = none → insT A s A.hold = A.sign s := fun z => by unfold AB.sign; rw [z]; rfl
  have go : ∀ {env : XEnv}, env "up" = some (nref A.top) → env "sign" = some (.str s) → EV (k + 2) env (J F (rx A W m O) r) (.call "_law_add" (.cons (.loc "up") (.cons (.cS "text") (.cons (.cS "") (.cons (.tup .nil) (.cons (.loc "sign") (.cons (.cI (-1)) .nil))))))) (nref A.nodes.length) (J F (rx (insT A s A.hold) W m O) r) := fun a b =>
    E.call (EE.cons (E.loc a) (EE.cons E.cS (EE.cons E.cS (EE.cons (E.tup .nil (Nat.zero_le _)) (EE.cons (E.loc b) (EE.one E.cI)))))) (r_text h (Nat.le_trans hn (by decide)))
  rcases last_at (A := A) A.hold with ⟨h1, h2⟩ | ⟨q, x, l, h1, hq, hu, h2⟩
  · refine G.iteF (E.andF (E.to2 (c1 rfl) (congrArg (fun l : List Int => XVal.bool (!l.isEmpty)) h2) rfl)) (G.expr (go rfl rfl) (G.fin ⟨rfl, congrArg (fun B => J F (rx B W m O) r) (new (lastText_no h1))⟩))
  · have hx : x.kind ≠ "fragment" := fun z => absurd (hu.symm.trans ((h.nd q x hq).un z)) (fun z => nomatch z)
    have ne : (!(kidsFrom A.nodes 0 (A.hold : Int)).isEmpty) = true := by rw [h2]; cases l <;> rfl
    have g : getL (J F (rx A W m O) r) 25 A.hold = some (l.map nref ++ [nref q]) := (getL_at (k_25 (X := rx A W m O) t.lt)).trans (congrArg some ((congrArg (List.map nref) h2).trans List.map_append))
    have bl := fun {env : XEnv} (e : env "below" = some (.ref 25 A.hold)) => E.sub (n := k + 2) (E.loc e) E.cI (sub_last g)
    have s0 : subX (J F (rx A W m O) r) (nref q) (.int 0) = some (.str x.kind) := sub_nd (X := rx A W m O) (k := 0) hq hx rfl
    have s4 : subX (J F (rx A W m O) r) (nref q) (.int 4) = some (.str x.text) := sub_nd (X := rx A W m O) (k := 4) hq hx rfl
    have lt := lastText_at h1 hq
    refine G.iteD (P := x.kind = "text") (E.andT (E.to2 (c1 rfl) (congrArg XVal.bool ne) rfl) (E.cmp (E.sub (bl rfl) E.cI s0) E.cS rfl)) (fun z => ?_) fun z => ?_
    · rw [if_pos z] at lt
      refine G.asgS (E.cat (E.sub (bl rfl) E.cI s4) (E.loc rfl) ?_) (bl rfl) E.cI (set_text hq hx) (G.fin ⟨rfl, ?_⟩)
      · exact Nat.le_trans (Nat.add_le_add (h.texts x (List.mem_of_getElem? hq)) hs) (Nat.le_trans (Nat.add_le_add_right (Nat.add_le_add_left hn 100) 1) (by decide))
      · unfold AB.sign; rw [lt]; rfl
    · rw [if_neg z] at lt
      exact G.expr (go rfl rfl) (G.fin ⟨rfl, congrArg (fun B => J F (rx B W m O) r) (new lt)⟩)
end
end Mine
end

section
set_option maxRecDepth 100000
set_option genInjectivity false
namespace Mine
noncomputable def Shape (A : AB) (ns : List String) : Prop := ShapeOk A ns ∧ A.modes = List.replicate (tmplN ns) "in template" ∧ A.fitems = List.replicate (tmplN ns) (-1)
structure Iv (A : AB) (n k : Nat) : Prop where
  core : Core A n
  shape : ∃ ns, Nams A A.items.reverse ns ∧ Shape A ns
  head : A.head ≠ -1
  errors : A.errors.length ≤ k
section
variable {A A' F : AB} {n k j b : Nat} {W : List (Nat × String)} {m s nm w x : String} {r : XSt} {nd : Nd} {l is : List Int} {ns inner lw : List String}
theorem Iv.mono {n' k' : Nat} (h : Iv A n k) (h1 : n ≤ n') (h2 : k ≤ k') : Iv A n' k' := ⟨h.core.mono h1, h.shape, h.head, Nat.le_trans h.errors h2⟩
theorem Iv.flags (h : Iv A n k) (a b : Bool) (w : String) : Iv { A with ack := a, done := b, wish := w } n k := ⟨h.core.same rfl rfl rfl, h.shape, h.head, h.errors⟩
theorem Iv.err (h : Iv A n k) : Iv (A.err w) n (k + 1) := ⟨h.core.same rfl rfl rfl, h.shape, h.head, by
  show (A.errors ++ [(w, A.mode)]).length ≤ _
  rw [len_snoc]; exact Nat.succ_le_succ h.errors⟩
theorem Iv.com (h : Iv A n k) (ht : s.length ≤ 100) : Iv (A.com s) (n + 2) k :=
  let ⟨ns, s1, s2⟩ := h.shape
  ⟨h.core.put (nd := coNd s) (c := false) (.inr ⟨of_decide_eq_false rfl, rfl⟩) (com_nodes s) rfl rfl ht (Nat.zero_le _), ⟨ns, s1.more (com_nodes s), s2⟩, h.head, h.errors⟩
theorem last_kind {p k : Nat} (h : lastText A p = some k) : ∀ x, A.nodes[k]? = some x → x.kind = "text" := fun x hx => by
  rcases last_at (A := A) p with ⟨h1, _⟩ | ⟨q, nd, l, h1, hq, _⟩
  · rw [lastText_no h1] at h; exact nomatch h
  · rw [lastText_at h1 hq] at h
    by_cases z : nd.kind = "text"
    · rw [if_pos z] at h
      rw [← Option.some.inj h, hq] at hx
      exact Option.some.inj hx ▸ z
    · rw [if_neg z] at h; exact nomatch h
theorem Nam.text {i : Int} (h : Nam A i nm) : Nam (addText A k s) i nm := by
  obtain ⟨nd, ⟨j, e, h1⟩, h2⟩ := h.is
  obtain ⟨t, h3⟩ := txt_on (k := k) (s := s) h1
  exact ⟨_, ⟨j, e, h3⟩, h2⟩
theorem Iv.sign (h : Iv A n k) (hs : s.length ≤ 1) : Iv (A.sign s) (n + 2) k := by
  obtain ⟨ns, s1, s2⟩ := h.shape
  unfold AB.sign
  cases q : lastText A A.hold with
  | some k => exact ⟨h.core.text (last_kind q) hs, ⟨ns, s1.mono fun _ _ q => q.text, s2⟩, h.head, h.errors⟩
  | none => exact ⟨h.core.put (nd := txNd s) (c := false) (.inr ⟨of_decide_eq_false rfl, rfl⟩) (insT_nodes s A.hold) rfl rfl (Nat.le_trans hs (by decide)) (Nat.zero_le _), ⟨ns, s1.more (insT_nodes s A.hold), s2⟩, h.head, h.errors⟩
theorem nam_new : Nam (A.ins nm) A.nodes.length nm := ⟨_, ⟨A.nodes.length, rfl, by rw [ins_nodes', List.getElem?_append_right (Nat.le_refl _), Nat.sub_self]; rfl⟩, rfl, rfl⟩
theorem Iv.void (h : Iv A n k) {b : Bool} : Iv { A.ins nm with items := A.items, ack := b } (n + 2) k := by
  obtain ⟨ns, s1, s2⟩ := h.shape
  refine ⟨h.core.put (nd := elNd nm (atN nm)) (c := false) (.inr ⟨by show ("element" : String) ≠ "fragment"; decide, rfl⟩) (ins_nodes nm) ins_tm rfl (Nat.zero_le _) (Nat.le_refl 1), ⟨ns, s1.more (ins_nodes' (A := A)), ?_⟩, ?_, ?_⟩
  · unfold Shape ShapeOk
    show (((A.ins nm).mode = "text" ∧ ∃ n ns', ns = n :: ns' ∧ n ≠ "template" ∧ BaseOk (A.ins nm).original ns') ∨ ((A.ins nm).mode ≠ "text" ∧ BaseOk (A.ins nm).mode ns)) ∧ (A.ins nm).modes = _ ∧ (A.ins nm).fitems = _
    rw [show (A.ins nm).mode = A.mode from addElem_same AB.mode rfl rfl, show (A.ins nm).original = A.original from addElem_same AB.original rfl rfl, show (A.ins nm).modes = A.modes from addElem_same AB.modes rfl rfl, show (A.ins nm).fitems = A.fitems from addElem_same AB.fitems rfl rfl]; exact s2
  · show (A.ins nm).head ≠ -1
    rw [show (A.ins nm).head = A.head from addElem_same AB.head rfl rfl]; exact h.head
  · show (A.ins nm).errors.length ≤ _
    rw [show (A.ins nm).errors = A.errors from addElem_same AB.errors rfl rfl]; exact h.errors
theorem Iv.push (h : Iv A n k) (e1 : A'.nodes = (A.ins nm).nodes) (e2 : A'.tm = (A.ins nm).tm) (e3 : A'.items = (A.ins nm).items) (e4 : A'.head = (A.ins nm).head) (e5 : A'.errors = (A.ins nm).errors)
    (hs : ∀ ns, Nams A A.items.reverse ns → Shape A ns → Shape A' (nm :: ns)) : Iv A' (n + 2) k := by
  obtain ⟨ns, s1, s2⟩ := h.shape
  refine ⟨h.core.put (nd := elNd nm (atN nm)) (c := true) (.inl rfl) (e1.trans (ins_nodes nm)) (e2.trans ins_tm) e3 (Nat.zero_le _) (Nat.le_refl 1), ⟨nm :: ns, ?_, hs ns s1 s2⟩, ?_, ?_⟩
  · rw [e3, show (A.ins nm).items.reverse = (A.nodes.length : Int) :: A.items.reverse from List.reverse_append]
    exact .cons ((nam_new (A := A)).eq e1) (s1.more (e1.trans ins_nodes'))
  · rw [e4, show (A.ins nm).head = A.head from addElem_same AB.head rfl rfl]; exact h.head
  · rw [e5, show (A.ins nm).errors = A.errors from addElem_same AB.errors rfl rfl]; exact h.errors
theorem ShapeOk.base (h : ShapeOk A ns) (hm : A.mode ≠ "text") : BaseOk A.mode ns := h.elim (fun z => absurd z.1 hm) And.right
theorem tmplN_ne (h : nm ≠ "template") : tmplN (nm :: ns) = tmplN ns := List.count_cons_of_ne h
theorem Shape.more (s : Shape A ns) (hn : nm ≠ "template") (h : ShapeOk A' (nm :: ns)) (e1 : A'.modes = (A.ins x).modes) (e2 : A'.fitems = (A.ins x).fitems) : Shape A' (nm :: ns) := by
  unfold Shape
  rw [tmplN_ne hn, e1, e2, show (A.ins x).modes = A.modes from addElem_same AB.modes rfl rfl, show (A.ins x).fitems = A.fitems from addElem_same AB.fitems rfl rfl]
  exact ⟨h, s.2⟩
theorem Iv.raw (h : Iv A n k) (hm : A.mode ≠ "text") (hn : nm ≠ "template") : Iv (rawA A nm) (n + 2) k :=
  h.push (nm := nm) rfl rfl rfl rfl rfl fun ns s1 s2 => s2.more (x := nm) hn (.inl ⟨rfl, nm, ns, rfl, hn, s2.1.base hm⟩) rfl rfl
theorem BaseOk.low (h : BaseOk m ns) (hm : m ≠ "in head noscript") : LowB ns ∧ resetM ns = m := h.elim (fun z => absurd z.1 hm) id
theorem Iv.openT (h : Iv A n k) (hm : A.mode ≠ "text") (hm2 : A.mode ≠ "in head noscript") : Iv (openA A) (n + 2) k := h.push (nm := "template") rfl rfl rfl rfl rfl fun ns s1 s2 => by
  have e : tmplN ("template" :: ns) = tmplN ns + 1 := List.count_cons_self
  unfold Shape
  rw [e]
  refine ⟨.inr ⟨by show ("in template" : String) ≠ "text"; decide, .inr ⟨LowB.tmpl (inner := []) (fun _ z => nomatch z) ((s2.1.base hm).low hm2).1, rfl⟩⟩, ?_, ?_⟩
  · show A.modes ++ ["in template"] = _; rw [s2.2.1]; exact List.replicate_succ'.symm
  · show A.fitems ++ [-1] = _; rw [s2.2.2]; exact List.replicate_succ'.symm
theorem LowB.inT (h : LowB ns) (hm : resetM ns = "in template") : ∃ inner low, ns = inner ++ "template" :: low ∧ (∀ n ∈ inner, n = "li" ∨ n = "div") ∧ LowB low := by
  cases h with
  | head => exact absurd hm (of_decide_eq_false rfl)
  | html => exact absurd hm (of_decide_eq_false rfl)
  | tmpl a b => exact ⟨_, _, rfl, a, b⟩
theorem Iv.sub (h : Iv A n k) (hm : A.mode = "in template") (hn : nm = "li" ∨ nm = "div") : Iv (A.ins nm) (n + 2) k := h.push (nm := nm) rfl rfl rfl rfl rfl fun ns s1 s2 => by
  have hnt : nm ≠ "template" := by rcases hn with rfl | rfl <;> decide
  have hi : (A.ins nm).mode = "in template" := (show (A.ins nm).mode = A.mode from addElem_same AB.mode rfl rfl).trans hm
  have hb := s2.1.base (by rw [hm]; decide)
  rw [hm] at hb
  obtain ⟨b1, b2⟩ := hb.low (by decide)
  refine s2.more (x := nm) hnt (.inr ⟨by rw [hi]; decide, ?_⟩) rfl rfl
  obtain ⟨inner, low, rfl, c1, c2⟩ := b1.inT b2
  rw [hi]
  exact .inr ⟨LowB.tmpl (inner := nm :: inner) (fun x hx => (List.mem_cons.mp hx).elim (fun e => e ▸ hn) (c1 x)) c2, (if_pos (modeF_li hn)).trans b2⟩
theorem BaseOk.ofHead (h : BaseOk "in head" ns) : ns = ["head", "html"] := by
  obtain ⟨a, b⟩ := h.low (by decide)
  rcases a.reset with ⟨_, z⟩ | ⟨z, _⟩ | z
  · exact z
  · exact absurd (z.symm.trans b) (by decide)
  · exact absurd (z.symm.trans b) (by decide)
theorem BaseOk.ofAfter (h : BaseOk "after head" ns) : ns = ["html"] := by
  obtain ⟨a, b⟩ := h.low (by decide)
  rcases a.reset with ⟨z, _⟩ | ⟨_, z⟩ | z
  · exact absurd (z.symm.trans b) (by decide)
  · exact z
  · exact absurd (z.symm.trans b) (by decide)
theorem BaseOk.ofNs (h : BaseOk "in head noscript" ns) : ns = ["noscript", "head", "html"] := by
  rcases h with ⟨_, z⟩ | ⟨a, b⟩
  · exact z
  · rcases a.reset with ⟨z, _⟩ | ⟨z, _⟩ | z <;> exact absurd (z.symm.trans b) (by decide)
theorem Iv.noscript (h : Iv A n k) (hm : A.mode = "in head") : Iv { A.ins "noscript" with mode := "in head noscript" } (n + 2) k := h.push (nm := "noscript") rfl rfl rfl rfl rfl fun ns s1 s2 => by
  have hb := s2.1.base (by rw [hm]; decide)
  rw [hm] at hb
  refine s2.more (x := "noscript") (by decide) ?_ rfl rfl
  rw [hb.ofHead]
  exact .inr ⟨by show ("in head noscript" : String) ≠ "text"; decide, .inl ⟨rfl, rfl⟩⟩
theorem LowB.ne (h : LowB ns) : ns ≠ [] := by
  cases h with
  | head => exact List.cons_ne_nil _ _
  | html => exact List.cons_ne_nil _ _
  | tmpl => exact List.append_ne_nil_of_right_ne_nil _ (List.cons_ne_nil _ _)
theorem Iv.pop (h : Iv A n k) (hs : ∀ ns, ShapeOk A ns → ∃ x ns', ns = x :: ns' ∧ x ≠ "template" ∧ ns' ≠ [] ∧ ∀ B : AB, B.mode = m → ShapeOk B ns') : Iv (popTo A m) n k := by
  obtain ⟨ns, s1, s2⟩ := h.shape
  obtain ⟨x, ns', rfl, hx, hne, hb⟩ := hs ns s2.1
  obtain ⟨l, j, nd, t⟩ := h.core.topItem
  have e : (popTo A m).items = l := by show A.items.dropLast = l; rw [t.items]; exact List.dropLast_concat
  rw [t.items, List.reverse_append] at s1
  cases s1 with
  | cons a b =>
    have hl : l ≠ [] := fun z => by subst z; cases b; exact hne rfl
    refine ⟨h.core.low (A' := popTo A m) (m := [(j : Int)]) rfl rfl (e ▸ t.items) (e ▸ hl), ⟨ns', e ▸ b, hb _ rfl, ?_, ?_⟩, h.head, h.errors⟩
    · show A.modes = _; rw [s2.2.1, tmplN_ne hx]
    · show A.fitems = _; rw [s2.2.2, tmplN_ne hx]
theorem Iv.popHead (h : Iv A n k) (hm : A.mode = "in head") : Iv (popTo A "after head") n k := h.pop fun ns s => by
  have hb := s.base (by rw [hm]; decide)
  rw [hm] at hb
  exact ⟨_, _, hb.ofHead, by decide, List.cons_ne_nil _ _, fun B hB => .inr ⟨by rw [hB]; decide, by rw [hB]; exact .inr ⟨.html, rfl⟩⟩⟩
theorem Iv.popNs (h : Iv A n k) (hm : A.mode = "in head noscript") : Iv (popTo A "in head") n k := h.pop fun ns s => by
  have hb := s.base (by rw [hm]; decide)
  rw [hm] at hb
  exact ⟨_, _, hb.ofNs, by decide, List.cons_ne_nil _ _, fun B hB => .inr ⟨by rw [hB]; decide, by rw [hB]; exact .inr ⟨.head, rfl⟩⟩⟩
theorem Iv.popText (h : Iv A n k) (hm : A.mode = "text") : Iv (popTo A A.original) n k := h.pop fun ns s => by
  rcases s with ⟨_, x, ns', rfl, hx, hb⟩ | ⟨z, _⟩
  · refine ⟨x, ns', rfl, hx, ?_, fun B hB => .inr ⟨?_, by rw [hB]; exact hb⟩⟩
    · rcases hb with ⟨_, rfl⟩ | ⟨z, _⟩
      · exact List.cons_ne_nil _ _
      · exact z.ne
    · rw [hB]
      rcases hb.mode with z | z | z | z <;> rw [z] <;> decide
  · exact absurd hm z
theorem names_of (h : Nams A is ns) : is.map (nameI A) = ns := by
  induction h with
  | nil => rfl
  | cons a b ih => rw [List.map_cons, nameI_of a, ih]
theorem split_no (h : Nams A is ns) : "template" ∉ ns → splitT A is = none := by
  induction h with
  | nil => exact fun _ => rfl
  | @cons i x is ns a b ih =>
    intro h
    show (if nameI A i = "template" then _ else (splitT A is).map _) = _
    rw [nameI_of a, if_neg fun z : x = "template" => h (z ▸ .head _), ih fun z => h (.tail _ z)]; rfl
theorem split_at : ∀ (inner : List String) (is : List Int), Nams A is (inner ++ "template" :: lw) → "template" ∉ inner → ∃ is1 t is2, is = is1 ++ t :: is2 ∧ Nams A is1 inner ∧ Nam A t "template" ∧ Nams A is2 lw ∧ splitT A is = some (is1, is2) := by
  intro inner
  induction inner with
  | nil =>
    intro is h _
    cases h with
    | @cons i _ is _ a b => exact ⟨[], i, is, rfl, .nil, a, b, if_pos (nameI_of a)⟩
  | cons x inner ih =>
    intro is h hn
    cases h with
    | @cons i _ is _ a b =>
      obtain ⟨is1, t, is2, rfl, h2, h3, h4, h5⟩ := ih is b fun z => hn (.tail _ z)
      refine ⟨i :: is1, t, is2, rfl, .cons a h2, h3, h4, ?_⟩
      show (if nameI A i = "template" then _ else (splitT A (is1 ++ t :: is2)).map _) = _
      rw [nameI_of a, if_neg fun z : x = "template" => hn (z ▸ .head _), h5]; rfl
theorem no_tmpl (h : ∀ n ∈ inner, n = "li" ∨ n = "div") : "template" ∉ inner := fun z => (h _ z).elim (fun q => absurd q (by decide)) fun q => absurd q (by decide)
theorem tmpl_in (h : BaseOk m ns) (hm : m ≠ "in head noscript") (ht : "template" ∈ ns) : ∃ inner low, ns = inner ++ "template" :: low ∧ (∀ n ∈ inner, n = "li" ∨ n = "div") ∧ LowB low := by
  cases (h.low hm).1 with
  | head => exact absurd ht (by decide)
  | html => exact absurd ht (by decide)
  | tmpl a b => exact ⟨_, _, rfl, a, b⟩
theorem Nams.rev (h : Nams A is ns) : Nams A is.reverse ns.reverse := by
  induction h with
  | nil => exact .nil
  | cons a b ih => rw [List.reverse_cons, List.reverse_cons]; exact ih.append (.cons a .nil)
end
end Mine
end

section
set_option maxRecDepth 100000
set_option genInjectivity false
namespace Mine
structure Small (t : Tok) : Prop where
  word : (wordT t).length ≤ 40
  char : ∀ s, t = .char s → s.length ≤ 1
  com : ∀ s, t = .comment s → s.length ≤ 40
noncomputable def Han (f : String) (A A' : AB) (t : Tok) (n k c : Nat) : Prop := Iv A' n k ∧ ∀ r, CV c f [.ref 1 0, tokV t] (BSt A r) .none (BSt A' r)
section
variable {A A' : AB} {n k c : Nat} {t : Tok} {m s x w f : String} {sl : Bool} {ns inner : List String} {r : XSt}
theorem closeA_ok (h : Iv A n k) (hm : A.mode ≠ "text") (hm2 : A.mode ≠ "in head noscript") (hk : k ≤ 900) : Iv (closeA A) n (k + 1) ∧ ∀ r, CV 4 "close_template" [.ref 1 0] (BSt A r) .none (BSt (closeA A) r) := by
  obtain ⟨ns, s1, s2, s3, s4⟩ := h.shape
  have he := Nat.lt_of_le_of_lt (Nat.le_trans h.errors hk) (by decide : 900 < 1000)
  have s1' := s1.rev
  rw [List.reverse_reverse] at s1'
  by_cases ht : "template" ∈ ns
  · obtain ⟨inner, low, rfl, c1, c2⟩ := tmpl_in (s2.base hm) hm2 ht
    obtain ⟨is1, t, is2, i1, i2, i3, i4, i5⟩ := split_at _ _ s1 (no_tmpl c1)
    have hi : A.items = is2.reverse ++ t :: is1.reverse := by rw [← List.reverse_reverse A.items, i1, List.reverse_append, List.reverse_cons, List.append_assoc]; rfl
    have hc : tmplN (inner ++ "template" :: low) = tmplN low + 1 := by
      unfold tmplN; rw [List.count_append, List.count_cons_self, List.count_eq_zero.mpr (no_tmpl c1), Nat.zero_add]
    have lf : ∀ {α : Type} {x : α} {l : List α}, l = List.replicate (tmplN (inner ++ "template" :: low)) x → l = l.dropLast ++ [x] ∧ l.dropLast = List.replicate (tmplN low) x := fun z => by
      rw [hc, List.replicate_succ'] at z
      rw [z, List.dropLast_concat]; exact ⟨rfl, rfl⟩
    obtain ⟨f1, e1⟩ := lf s4
    obtain ⟨f3, e2⟩ := lf s3
    have hcl : closeA A = { A with items := is2.reverse, fitems := A.fitems.dropLast, modes := A.modes.dropLast, mode := resetM low, errors := if "div" ∈ inner then A.errors ++ [("open-elements", A.mode)] else A.errors } := by
      unfold closeA
      rw [i5]
      show ({ A with items := is2.reverse, fitems := A.fitems.dropLast, modes := A.modes.dropLast, mode := resetM (is2.map (nameI A)), errors := if "div" ∈ is1.map (nameI A) then A.errors ++ [("open-elements", A.mode)] else A.errors } : AB) = _
      rw [names_of i4, names_of i2]
    rw [hcl]
    have hne : is2.reverse ≠ [] := fun z => by
      cases List.reverse_eq_nil_iff.mp z
      cases i4
      exact c2.ne rfl
    refine ⟨⟨h.core.low (A' := { A with items := is2.reverse, fitems := A.fitems.dropLast, modes := A.modes.dropLast, mode := resetM low, errors := if "div" ∈ inner then A.errors ++ [("open-elements", A.mode)] else A.errors }) (m := t :: is1.reverse) rfl rfl hi hne, ⟨low, (List.reverse_reverse is2).symm ▸ i4, .inr ⟨?_, .inr ⟨c2, rfl⟩⟩, e2, e1⟩, h.head, ?_⟩, fun r => ?_⟩
    · show resetM low ≠ "text"
      rcases c2.reset with ⟨z, _⟩ | ⟨z, _⟩ | z <;> rw [z] <;> decide
    · show (if "div" ∈ inner then _ else _ : List (String × String)).length ≤ _
      split
      · rw [len_snoc]; exact Nat.succ_le_succ h.errors
      · exact Nat.le_succ_of_le h.errors
    · refine closeT_ok (n := 0) (base := is2.reverse) (inner := is1) (t := t) (ns := inner) (bs := low) h.head hi i3 i2 c1 f1 f3 he ((List.reverse_reverse is2).symm ▸ i4) c2.ok (fun z => ?_) c2.reset_ne s1' (List.mem_reverse.mpr ht)
      obtain ⟨q, hq⟩ : ∃ q, tmplN low = q + 1 := Nat.exists_eq_succ_of_ne_zero (Nat.ne_of_gt (List.count_pos_iff.mpr z))
      exact ⟨List.replicate q "in template", by rw [e2, hq]; exact List.replicate_succ'⟩
  · have hcl : closeA A = A.err "unexpected-end-tag" := by unfold closeA; rw [split_no s1 ht]; rfl
    rw [hcl]
    exact ⟨h.err, fun r => (closeT_no (n := 2) s1' (fun z => ht (List.mem_reverse.mp z)) he)⟩
theorem top_of (h : Iv A n k) : Top A := by
  obtain ⟨ns, s1, _⟩ := h.shape
  obtain ⟨l, j, nd, t⟩ := h.core.topItem
  rw [t.items, List.reverse_append] at s1
  cases s1 with
  | cons a b =>
    obtain ⟨nd', a1, a2, a3⟩ := a.is
    exact ⟨⟨j, l, nd', t.items, a1, a3⟩⟩
theorem voids_ne (h : x ∈ voids) : x ≠ "template" ∧ x ≠ "html" ∧ x ≠ "noscript" ∧ x ∉ raws := by
  have : ∀ x ∈ voids, x ≠ "template" ∧ x ≠ "html" ∧ x ≠ "noscript" ∧ x ∉ raws := by decide
  exact this x h
theorem raws_ne (h : x ∈ raws) : x ≠ "html" ∧ x ≠ "noscript" ∧ x ∉ voids ∧ x ≠ "head" := by
  have : ∀ x ∈ raws, x ≠ "html" ∧ x ≠ "noscript" ∧ x ∉ voids ∧ x ≠ "head" := by decide
  exact this x h
theorem rawW_of (hx : x ≠ "noscript") : rawW A x = if x = "title" then "RCDATA" else if x ∈ (["noframes", "style"] : List String) then "RAWTEXT" else if x = "script" then "script data" else "" := by
  unfold rawW
  by_cases q : x ∈ (["noframes", "style"] : List String)
  · rw [if_pos q, if_pos (Or.inl q)]
  · rw [if_neg q, if_neg fun z : (x ∈ (["noframes", "style"] : List String) ∨ (x = "noscript" ∧ A.scripting = true)) => z.elim q fun z => hx z.1]
theorem raws_w (h : x ∈ raws) (ht : x ≠ "template") : rawW A x ≠ "" := by
  rw [rawW_of (raws_ne h).2.1]
  have : ∀ x ∈ raws, x ≠ "template" → (if x = "title" then "RCDATA" else if x ∈ (["noframes", "style"] : List String) then "RAWTEXT" else if x = "script" then "script data" else "") ≠ "" := by decide
  exact this x h ht
theorem other_w (h : x ∉ raws ∨ x = "template") (hx : x ≠ "noscript") : rawW A x = "" := by
  rw [rawW_of hx]
  rcases h with h | rfl
  · have q : ∀ y ∈ raws, x ≠ y := fun y hy e => h (e ▸ hy)
    rw [if_neg (q _ (.head _)), if_neg fun z => (List.mem_cons.mp z).elim (q _ (by decide)) fun z => q _ (by decide) (List.mem_singleton.mp z), if_neg (q _ (by decide))]
  · rfl
theorem ih_start (H : CV (c + 1) "start_in_head" [.ref 1 0, tokV (.start x sl)] (BSt A r) .none (BSt A' r)) : CV (c + 2) "in_head" [.ref 1 0, tokV (.start x sl)] (BSt A r) .none (BSt A' r) :=
  inHead_gen (fun s z => nomatch z) (fun s z => nomatch z) (fun z => nomatch z) (fun _ => H) (fun z => absurd z (of_decide_eq_false rfl)) (fun z => z.elim (fun ⟨_, z, _⟩ => nomatch z) fun z => nomatch z)
theorem ih_end (H : CV (c + 1) "end_in_head" [.ref 1 0, tokV (.fin x)] (BSt A r) .none (BSt A' r)) : CV (c + 2) "in_head" [.ref 1 0, tokV (.fin x)] (BSt A r) .none (BSt A' r) :=
  inHead_gen (fun s z => nomatch z) (fun s z => nomatch z) (fun z => nomatch z) (fun z => absurd z (of_decide_eq_false rfl)) (fun _ => H) (fun z => z.elim (fun ⟨_, z, _⟩ => nomatch z) fun z => nomatch z)
theorem count_le {a : String} (l : List String) : l.count a ≤ l.length := List.count_le_length
theorem Iv.sizes (h : Iv A n k) (hn : n ≤ 690) : A.fitems.length < 1000 ∧ A.modes.length < 1000 := by
  obtain ⟨ns, s1, s2, s3, s4⟩ := h.shape
  have hl : tmplN ns < 1000 := by
    have e := s1.length
    rw [List.length_reverse] at e
    exact Nat.lt_of_le_of_lt (Nat.le_trans (count_le ns) (e ▸ Nat.le_trans h.core.len (Nat.le_trans h.core.nodes hn))) (by decide)
  rw [s3, s4, List.length_replicate, List.length_replicate]; exact ⟨hl, hl⟩
theorem taken_ok (h : Iv A n k) (hm : A.mode ≠ "text") (hn : n ≤ 690) (hk : k ≤ 900) (ht : takesT t = true) (hns : A.mode = "in head noscript" → forHeadT t = true) : Han "in_head" A (takenA A t) t (n + 2) (k + 1) 7 := by
  have I := h.core.ins (Nat.le_trans hn (by decide))
  cases t with
  | fin x =>
    obtain rfl : x = "template" := of_decide_eq_true ht
    obtain ⟨a, b⟩ := closeA_ok h hm (fun z => nomatch hns z) hk
    exact ⟨a.mono (Nat.le_add_right _ _) (Nat.le_refl _), fun r => ih_end (end_gen (fun z => absurd z (by decide)) (fun _ => (b r).le (by decide)) (fun z => absurd z (by decide)) (fun _ z => absurd rfl z))⟩
  | start x s =>
    rcases List.mem_append.mp (of_decide_eq_true ht : x ∈ voids ++ raws) with hx | hx
    · obtain ⟨v1, v2, v3, v4⟩ := voids_ne hx
      have e1 : takenA A (.start x s) = { A.ins x with items := A.items, ack := true } := if_pos hx
      rw [e1]
      exact ⟨h.void.mono (Nat.le_refl _) (Nat.le_succ _), fun r => ih_start (start_gen (fun z => absurd z v2) (fun _ _ => ⟨_, void_ok I⟩) (fun _ z => absurd hx z) (fun _ z => absurd z v3) (fun z => absurd z v1) (fun z => absurd hx (by rw [z]; decide)) (fun _ z => absurd hx z))⟩
    · obtain ⟨v1, v2, v3, v4⟩ := raws_ne hx
      by_cases hxt : x = "template"
      · subst hxt
        have e1 : takenA A (.start "template" s) = openA A := if_neg (t := { A.ins "template" with items := A.items, ack := true }) (e := openA A) v3
        have hm2 : A.mode ≠ "in head noscript" := fun z => absurd (of_decide_eq_true (show decide ("template" ∈ headN) = true from hns z)) (by decide)
        rw [e1]
        have hr : rawW A "template" = "" := other_w (.inr rfl) v2
        exact ⟨(h.openT hm hm2).mono (Nat.le_refl _) (Nat.le_succ _), fun r => ih_start (start_gen (fun z => absurd z v1) (fun _ z => absurd z v3) (fun _ _ z => absurd hr z) (fun _ z => absurd z v2) (fun _ => openT_ok (n := 0) I (h.sizes hn).1 (h.sizes hn).2) (fun z => absurd z v4) (fun _ _ _ _ z => absurd rfl z))⟩
      · have e1 : takenA A (.start x s) = rawA A x := (if_neg v3).trans (if_neg hxt)
        rw [e1]
        exact ⟨(h.raw hm hxt).mono (Nat.le_refl _) (Nat.le_succ _), fun r => ih_start (start_gen (fun z => absurd z v1) (fun _ z => absurd z v3) (fun _ _ _ => raw_ok I) (fun _ z => absurd z v2) (fun z => absurd z hxt) (fun z => absurd z v4) (fun _ _ z => absurd z (raws_w hx hxt)))⟩
  | _ => exact nomatch ht
theorem com_len {a b w : String} (h : a.length + b.length ≤ 50) (hw : w.length ≤ 40) : (a ++ b ++ ": " ++ w).length ≤ 100 := by
  rw [String.length_append, String.length_append, String.length_append]
  exact Nat.le_trans (Nat.add_le_add (Nat.add_le_add_right h 2) hw) (by decide)
theorem mode_len (h : Iv A n k) : A.mode.length ≤ 20 := by
  obtain ⟨ns, _, s2, _⟩ := h.shape
  rcases s2 with ⟨z, _⟩ | ⟨_, z⟩
  · rw [z]; decide
  · rcases z.mode with z | z | z | z <;> rw [z] <;> decide
theorem Iv.word (h : Iv A n k) (hw : w.length ≤ 30) (ht : Small t) : Iv (wordA A w t) (n + 2) k := (h.com (s := w ++ A.mode ++ ": " ++ wordT t) (com_len (Nat.add_le_add hw (mode_len h)) ht.word)).flags A.ack (eofT t) A.wish
theorem body_ok (h : Iv A n k) (hn : n ≤ 690) (ht : Small t) : Han "_law_in_body" A (bodyA A t) t (n + 2) k 3 :=
  ⟨h.com (com_len (Nat.add_le_add (show 6 ≤ 30 by decide) (mode_len h)) ht.word), fun r => body_gen (n := 0) (h.core.ins (Nat.le_trans hn (by decide))) (Nat.le_trans (mode_len h) (by decide)) (Nat.le_trans ht.word (by decide))⟩
theorem after_ok (h : Iv A n k) (hm : A.mode = "after head") (hn : n ≤ 690) (hk : k ≤ 900) (ht : Small t) : Han "_law_after_head" A (afterA A t) t (n + 2) (k + 1) 9 := by
  have I := h.core.ins (Nat.le_trans hn (by decide))
  have hml : A.mode.length ≤ 100 := Nat.le_trans (mode_len h) (by decide)
  have hw : (wordT t).length ≤ 500 := Nat.le_trans ht.word (by decide)
  unfold afterA
  cases q : takesT t with
  | true =>
    obtain ⟨a, b⟩ := taken_ok h (by rw [hm]; decide) hn hk q (fun z => absurd (hm.symm.trans z) (by decide))
    exact ⟨a, fun r => afterHead_gen (n := 6) I hml hw (fun _ => use_ok rfl (b r)) (fun z => nomatch q.symm.trans z)⟩
  | false => exact ⟨(h.word (by decide) ht).mono (Nat.le_refl _) (Nat.le_succ _), fun r => afterHead_gen (n := 6) I hml hw (fun z => nomatch q.symm.trans z) (fun _ => rfl)⟩
theorem template_ok (h : Iv A n k) (hm : A.mode = "in template") (hn : n ≤ 690) (hk : k ≤ 900) (ht : Small t) : Han "_law_in_template" A (templateA A t) t (n + 2) (k + 1) 9 := by
  have I := h.core.ins (Nat.le_trans hn (by decide))
  have hml : A.mode.length ≤ 100 := Nat.le_trans (mode_len h) (by decide)
  have hw : (wordT t).length ≤ 500 := Nat.le_trans ht.word (by decide)
  unfold templateA
  cases q : takesT t with
  | true =>
    obtain ⟨a, b⟩ := taken_ok h (by rw [hm]; decide) hn hk q (fun z => absurd (hm.symm.trans z) (by decide))
    exact ⟨a, fun r => template_gen (n := 5) I hml hw (fun _ => use_ok rfl (b r)) (fun z => nomatch q.symm.trans z) (fun z => nomatch q.symm.trans z)⟩
  | false =>
    cases q2 : subT t with
    | true =>
      obtain ⟨x, s, e⟩ := sub_of q2
      have hx : x = "li" ∨ x = "div" := (List.mem_cons.mp (of_decide_eq_true (e ▸ q2 : subT (.start x s) = true) : x ∈ (["li", "div"] : List String))).imp id List.mem_singleton.mp
      rw [show subName t = x from by rw [e]; rfl]
      exact ⟨(h.sub hm hx).mono (Nat.le_refl _) (Nat.le_succ _), fun r => template_gen (n := 5) I hml hw (fun z => nomatch q.symm.trans z) (fun _ y s' z _ => by cases e.symm.trans z; rfl) (fun _ z => nomatch q2.symm.trans z)⟩
    | false => exact ⟨(h.word (by decide) ht).mono (Nat.le_refl _) (Nat.le_succ _), fun r => template_gen (n := 5) I hml hw (fun z => nomatch q.symm.trans z) (fun _ y s' z z2 => nomatch q2.symm.trans z2) (fun _ _ => rfl)⟩
theorem pop_eq (h : Iv A n k) (m : String) : ∃ l x, A.items = l ++ [x] ∧ popTo A m = { A with items := l, mode := m } := by
  obtain ⟨l, j, nd, t⟩ := h.core.topItem
  refine ⟨l, j, t.items, ?_⟩
  show ({ A with items := A.items.dropLast, mode := m } : AB) = _
  rw [t.items, List.dropLast_concat]
theorem leave_to (h : Iv A n k) {n' k' : Nat} (hf : lookupS m rulesD = some (.fn f)) (hp : Iv (popTo A m) n k) (H : Han f (popTo A m) A' t n' k' (c + 2)) (r : XSt) : CV (c + 5) "leave" [.ref 1 0, tokV t, .str m] (BSt A r) .none (BSt A' r) := by
  obtain ⟨l, x, e1, e2⟩ := pop_eq h m
  rw [e2] at hp H
  exact leave_ok e1 hf (top_of hp) (H.2 r)
theorem Iv.txs (h : Iv A n k) (hn : n ≤ 690) : TxOk A 900 := fun x hx => Nat.le_trans (h.core.texts x hx) (Nat.add_le_add_left (Nat.le_trans hn (by decide : 690 ≤ 800)) 100)
theorem headN_ne (h : x ∈ headN) : x ∈ voids ++ raws ∧ x ≠ "html" := by
  have : ∀ x ∈ headN, x ∈ voids ++ raws ∧ x ≠ "html" := by decide
  exact this x h
theorem forHead_han (h : Iv A n k) (hm : A.mode ≠ "text") (hn : n ≤ 690) (hk : k ≤ 900) (ht : Small t) (hf : forHeadT t = true) : Han "in_head" A (headA A t) t (n + 2) (k + 1) 7 := by
  have I := h.core.ins (Nat.le_trans hn (by decide))
  cases t with
  | comment s =>
    exact ⟨(h.com (Nat.le_trans (ht.com s rfl) (by decide))).mono (Nat.le_refl _) (Nat.le_succ _), fun r => inHead_gen (n := 5) (fun s z => nomatch z) (fun s z => by cases z; exact com_ok I) (fun z => nomatch z) (fun z => absurd z (of_decide_eq_false rfl)) (fun z => absurd z (of_decide_eq_false rfl)) (fun z => z.elim (fun ⟨_, z, _⟩ => nomatch z) fun z => nomatch z)⟩
  | char s =>
    have e0 : headA A (.char s) = A.sign s := if_pos (of_decide_eq_true hf)
    rw [e0]
    exact ⟨(h.sign (ht.char s rfl)).mono (Nat.le_refl _) (Nat.le_succ _), fun r => inHead_gen (n := 5) (fun s z _ => by cases z; exact sign_ok I (h.txs hn) (Nat.le_trans (ht.char s rfl) (by decide))) (fun s z => nomatch z) (fun z => nomatch z) (fun z => absurd z (of_decide_eq_false rfl)) (fun z => absurd z (of_decide_eq_false rfl)) (fun z => z.elim (fun ⟨_, _, z⟩ => nomatch z.symm.trans hf) fun z => nomatch z)⟩
  | start x s =>
    have hx := headN_ne (of_decide_eq_true hf)
    have htk : takesT (.start x s) = true := decide_eq_true hx.1
    have e0 : headA A (.start x s) = takenA A (.start x s) := (if_neg hx.2).trans (if_pos htk)
    rw [e0]
    exact taken_ok h hm hn hk htk (fun _ => hf)
  | _ => exact nomatch hf
end
end Mine
end

section
set_option maxRecDepth 100000
set_option genInjectivity false
namespace Mine
noncomputable def ruleOf (m : String) : String := if m = "in head" then "in_head" else if m = "in head noscript" then "in_head_noscript" else if m = "in template" then "_law_in_template" else "_law_after_head"
section
variable {A A' : AB} {n k c : Nat} {t : Tok} {m s x w f : String} {sl : Bool} {ns inner : List String} {r : XSt}
theorem Han.mk' {n' k' : Nat} (h : Iv A' n' k') (hn : n' ≤ n) (hk : k' ≤ k) (H : ∀ r, CV c f [.ref 1 0, tokV t] (BSt A r) .none (BSt A' r)) : Han f A A' t n k c := ⟨h.mono hn hk, H⟩
theorem Han.le {n' k' c' : Nat} (h : Han f A A' t n' k' c') (hn : n' ≤ n) (hk : k' ≤ k) (hc : Nat.ble c' c = true) : Han f A A' t n k c := ⟨h.1.mono hn hk, fun r => (h.2 r).le (Nat.le_of_ble_eq_true hc)⟩
theorem err_lt (h : Iv A n k) (hk : k ≤ 900) : A.errors.length < 1000 := Nat.lt_of_le_of_lt (Nat.le_trans h.errors hk) (by decide)
theorem head_fin (h : Iv A n k) (hm : A.mode = "in head") (hn : n ≤ 690) (hk : k ≤ 900) (ht : Small (.fin x)) (AF : Iv (afterA (popTo A "after head") (.fin x)) (n + 2) (k + 1)) (LV : ∀ r, CV 12 "leave" [.ref 1 0, tokV (.fin x), .str "after head"] (BSt A r) .none (BSt (afterA (popTo A "after head") (.fin x)) r)) :
    Han "in_head" A (headA A (.fin x)) (.fin x) (n + 2) (k + 1) 14 := by
  by_cases q1 : x = "head"
  · have e0 : headA A (.fin x) = popTo A "after head" := if_pos q1
    rw [e0]
    obtain ⟨l, y, e1, e2⟩ := pop_eq h "after head"
    exact .mk' (h.popHead hm) (Nat.le_add_right _ _) (Nat.le_succ _) fun r => ih_end (end_gen (fun _ => ⟨y, l, e1, e2⟩) (fun z => absurd (q1.symm.trans z) (by decide)) (fun z => absurd z (by rw [q1]; decide)) (fun z => absurd q1 z))
  by_cases q2 : x = "template"
  · have e0 : headA A (.fin x) = takenA A (.fin x) := (if_neg q1).trans (if_pos q2)
    rw [e0]
    exact (taken_ok (t := .fin x) h (by rw [hm]; decide) hn hk (decide_eq_true q2) (fun z => absurd (hm.symm.trans z) (by decide))).le (Nat.le_refl _) (Nat.le_refl _) rfl
  by_cases q3 : x ∈ (["body", "html", "br"] : List String)
  · have e0 : headA A (.fin x) = afterA (popTo A "after head") (.fin x) := (if_neg q1).trans ((if_neg q2).trans (if_pos q3))
    rw [e0]
    exact ⟨AF, fun r => ih_end (end_gen (fun z => absurd z q1) (fun z => absurd z q2) (fun _ => LV r) (fun _ _ z => absurd q3 z))⟩
  · have e0 : headA A (.fin x) = A.err "unexpected-end-tag" := (if_neg q1).trans ((if_neg q2).trans (if_neg q3))
    rw [e0]
    exact .mk' h.err (Nat.le_add_right _ _) (Nat.le_refl _) fun r => ih_end (end_gen (fun z => absurd z q1) (fun z => absurd z q2) (fun z => absurd z q3) (fun _ _ _ => error_ok (err_lt h hk)))
theorem head_start (h : Iv A n k) (hm : A.mode = "in head") (hn : n ≤ 690) (hk : k ≤ 900) (ht : Small (.start x sl)) (AF : Iv (afterA (popTo A "after head") (.start x sl)) (n + 2) (k + 1)) (LV : ∀ r, CV 12 "leave" [.ref 1 0, tokV (.start x sl), .str "after head"] (BSt A r) .none (BSt (afterA (popTo A "after head") (.start x sl)) r)) :
    Han "in_head" A (headA A (.start x sl)) (.start x sl) (n + 2) (k + 1) 14 := by
  have I := h.core.ins (Nat.le_trans hn (by decide))
  have hmt : A.mode ≠ "text" := by rw [hm]; decide
  by_cases q1 : x = "html"
  · have e0 : headA A (.start x sl) = bodyA A (.start x sl) := if_pos q1
    rw [e0]
    obtain ⟨a, b⟩ := body_ok h hn ht
    exact .mk' a (Nat.le_refl _) (Nat.le_succ _) fun r => ih_start (start_gen (fun _ => use_ok rfl ((b r).le (by decide))) (fun z => absurd q1 z) (fun z => absurd q1 z) (fun _ z => absurd (q1.symm.trans z) (by decide)) (fun z => absurd (q1.symm.trans z) (by decide)) (fun z => absurd (q1.symm.trans z) (by decide)) (fun z => absurd q1 z))
  by_cases htk : takesT (.start x sl) = true
  · have e0 : headA A (.start x sl) = takenA A (.start x sl) := (if_neg q1).trans (if_pos htk)
    rw [e0]
    exact (taken_ok h hmt hn hk htk (fun z => absurd (hm.symm.trans z) (by decide))).le (Nat.le_refl _) (Nat.le_refl _) rfl
  have hnv : x ∉ voids ++ raws := fun z => htk (decide_eq_true z)
  have nv : x ∉ voids := fun z => hnv (List.mem_append_left _ z)
  have nr : x ∉ raws := fun z => hnv (List.mem_append_right _ z)
  have nt : x ≠ "template" := fun z => nr (by rw [z]; decide)
  by_cases q2 : x = "noscript"
  · have e0 : headA A (.start x sl) = if A.scripting then rawA A x else { A.ins x with mode := "in head noscript" } := (if_neg q1).trans ((if_neg htk).trans (if_pos q2))
    rw [e0]
    cases sc : A.scripting with
    | true =>
      have hr : rawW A x = "RAWTEXT" := by
        unfold rawW
        rw [if_neg (by rw [q2]; decide), if_pos (.inr ⟨q2, sc⟩)]
      exact .mk' (h.raw hmt nt) (Nat.le_refl _) (Nat.le_succ _) fun r => ih_start (start_gen (fun z => absurd z q1) (fun _ z => absurd z nv) (fun _ _ _ => raw_ok I) (fun z => absurd (hr.symm.trans z) (by decide)) (fun z => absurd z nt) (fun z => absurd (q2.symm.trans z) (by decide)) (fun _ _ _ z => absurd q2 z))
    | false =>
      subst q2
      have hr : rawW A "noscript" = "" := by
        unfold rawW
        rw [if_neg (by decide), if_neg fun y : ("noscript" ∈ (["noframes", "style"] : List String) ∨ ("noscript" = "noscript" ∧ A.scripting = true)) => y.elim (fun y => absurd y (by decide)) fun y => Bool.false_ne_true (sc.symm.trans y.2), if_neg (by decide)]
      exact .mk' (h.noscript hm) (Nat.le_refl _) (Nat.le_succ _) fun r => ih_start (start_gen (fun z => absurd z q1) (fun _ z => absurd z nv) (fun _ _ z => absurd hr z) (fun _ _ => ⟨_, _, insTok_ok I, rfl⟩) (fun z => absurd z nt) (fun z => absurd z (by decide)) (fun _ _ _ z => absurd rfl z))
  have hr := other_w (A := A) (.inl nr) q2
  by_cases q3 : x = "head"
  · have e0 : headA A (.start x sl) = A.err "unexpected-start-tag" := (if_neg q1).trans ((if_neg htk).trans ((if_neg q2).trans (if_pos q3)))
    rw [e0]
    exact .mk' h.err (Nat.le_add_right _ _) (Nat.le_refl _) fun r => ih_start (start_gen (fun z => absurd z q1) (fun _ z => absurd z nv) (fun _ _ z => absurd hr z) (fun _ z => absurd z q2) (fun z => absurd z nt) (fun _ => error_ok (err_lt h hk)) (fun _ _ _ _ _ z => absurd q3 z))
  · have e0 : headA A (.start x sl) = afterA (popTo A "after head") (.start x sl) := (if_neg q1).trans ((if_neg htk).trans ((if_neg q2).trans (if_neg q3)))
    rw [e0]
    exact ⟨AF, fun r => ih_start (start_gen (fun z => absurd z q1) (fun _ z => absurd z nv) (fun _ _ z => absurd hr z) (fun _ z => absurd z q2) (fun z => absurd z nt) (fun z => absurd z q3) (fun _ _ _ _ _ _ => LV r))⟩
theorem head_ok (h : Iv A n k) (hm : A.mode = "in head") (hn : n ≤ 690) (hk : k ≤ 900) (ht : Small t) : Han "in_head" A (headA A t) t (n + 2) (k + 1) 14 := by
  have hmt : A.mode ≠ "text" := by rw [hm]; decide
  have P := h.popHead hm
  have AF : Han "_law_after_head" (popTo A "after head") (afterA (popTo A "after head") t) t (n + 2) (k + 1) 9 := after_ok P rfl hn hk ht
  have LV := leave_to h (c := 7) rfl P AF
  by_cases hf : forHeadT t = true
  · exact (forHead_han h hmt hn hk ht hf).le (Nat.le_refl _) (Nat.le_refl _) rfl
  cases t with
  | comment s => exact absurd rfl hf
  | char s =>
    have hs : decide (s ∈ spaces) = false := Bool.not_eq_true _ ▸ hf
    have e0 : headA A (.char s) = afterA (popTo A "after head") (.char s) := if_neg (of_decide_eq_false hs)
    rw [e0]
    exact ⟨AF.1, fun r => inHead_gen (n := 12) (fun s' z z2 => nomatch z2.symm.trans hs) (fun s z => nomatch z) (fun z => nomatch z) (fun z => absurd z (of_decide_eq_false rfl)) (fun z => absurd z (of_decide_eq_false rfl)) (fun _ => (LV r).le (by decide))⟩
  | doctype => exact .mk' (h.err (w := "unexpected-doctype")) (Nat.le_add_right _ _) (Nat.le_refl _) fun r => inHead_gen (n := 12) (fun s z => nomatch z) (fun s z => nomatch z) (fun _ => error_ok (err_lt h hk)) (fun z => absurd z (of_decide_eq_false rfl)) (fun z => absurd z (of_decide_eq_false rfl)) (fun z => z.elim (fun ⟨_, z, _⟩ => nomatch z) fun z => nomatch z)
  | eof => exact ⟨AF.1, fun r => inHead_gen (n := 12) (fun s z => nomatch z) (fun s z => nomatch z) (fun z => nomatch z) (fun z => absurd z (of_decide_eq_false rfl)) (fun z => absurd z (of_decide_eq_false rfl)) (fun _ => (LV r).le (by decide))⟩
  | fin x => exact head_fin h hm hn hk ht AF.1 LV
  | start x s => exact head_start h hm hn hk ht AF.1 LV
theorem html_not (h : htmlT t = true) : endNsT t = false ∧ forHeadT t = false := by
  cases t with
  | start x s => obtain rfl : x = "html" := of_decide_eq_true h; exact ⟨rfl, rfl⟩
  | _ => exact nomatch h
theorem endNs_not (h : endNsT t = true) : forHeadT t = false := by
  cases t with
  | fin x => rfl
  | _ => exact nomatch h
theorem ft {b : Bool} {P : Prop} (h : b = false) (h2 : b = true) : P := nomatch h.symm.trans h2
theorem noscript_ok (h : Iv A n k) (hm : A.mode = "in head noscript") (hn : n ≤ 690) (hk : k ≤ 890) (ht : Small t) : Han "in_head_noscript" A (noscriptA A t) t (n + 2) (k + 2) 18 := by
  have he := err_lt h (Nat.le_trans hk (by decide))
  unfold noscriptA
  cases q1 : htmlT t with
  | true =>
    obtain ⟨a, b⟩ := body_ok h hn ht
    exact .mk' a (Nat.le_refl _) (Nat.le_add_right _ _) fun r => noscript_gen (n := 15) (fun _ => use_ok rfl ((b r).le (by decide))) (ft (html_not q1).1) (ft (html_not q1).2) (fun z => ft z q1)
  | false =>
    cases q2 : endNsT t with
    | true =>
      obtain ⟨l, y, e1, e2⟩ := pop_eq h "in head"
      exact .mk' (h.popNs hm) (Nat.le_add_right _ _) (Nat.le_add_right _ _) fun r => noscript_gen (n := 15) (ft q1) (fun _ => ⟨y, l, e1, e2⟩) (ft (endNs_not q2)) (fun _ z => ft z q2)
    | false =>
      cases q3 : forHeadT t with
      | true =>
        obtain ⟨a, b⟩ := forHead_han h (by rw [hm]; decide) hn (Nat.le_trans hk (by decide)) ht q3
        exact .mk' a (Nat.le_refl _) (Nat.le_succ _) fun r => noscript_gen (n := 15) (ft q1) (ft q2) (fun _ => use_ok rfl ((b r).le (by decide))) (fun _ _ z => ft z q3)
      | false =>
        have E := h.err (w := unexpT t)
        cases q4 : passT t with
        | true => exact .mk' E (Nat.le_add_right _ _) (Nat.le_succ _) fun r => noscript_gen (n := 15) (ft q1) (ft q2) (ft q3) (fun _ _ _ => ⟨he, fun _ => rfl, fun z => ft z q4⟩)
        | false =>
          have P : Iv (popTo (A.err (unexpT t)) "in head") n (k + 1) := E.popNs hm
          have H := head_ok P rfl hn (Nat.le_trans (Nat.succ_le_succ hk) (by decide)) ht
          exact .mk' H.1 (Nat.le_refl _) (Nat.le_refl _) fun r => noscript_gen (n := 15) (ft q1) (ft q2) (ft q3) (fun _ _ _ => ⟨he, fun z => ft q4 z, fun _ => leave_to (c := 12) E rfl P H r⟩)
theorem ruleOf_ok (h : m = "in head" ∨ m = "in head noscript" ∨ m = "in template" ∨ m = "after head") : lookupS m rulesD = some (.fn (ruleOf m)) := by
  rcases h with rfl | rfl | rfl | rfl <;> rfl
theorem base_mode (h : Iv A n k) (hm : A.mode ≠ "text") : A.mode = "in head" ∨ A.mode = "in head noscript" ∨ A.mode = "in template" ∨ A.mode = "after head" := by
  obtain ⟨ns, _, s2, _⟩ := h.shape
  exact (s2.base hm).mode
theorem plain_ok (h : Iv A n k) (hm : A.mode ≠ "text") (hn : n ≤ 690) (hk : k ≤ 890) (ht : Small t) : Han (ruleOf A.mode) A (plainA A t) t (n + 2) (k + 2) 18 := by
  have hk9 : k ≤ 900 := Nat.le_trans hk (by decide)
  unfold plainA
  rcases base_mode h hm with z | z | z | z
  · rw [if_pos z, show ruleOf A.mode = "in_head" from if_pos z]
    exact (head_ok h z hn hk9 ht).le (Nat.le_refl _) (Nat.le_succ _) rfl
  · have e : ruleOf A.mode = "in_head_noscript" := by rw [z]; rfl
    rw [if_neg (by rw [z]; decide), if_pos z, e]
    exact noscript_ok h z hn hk ht
  · have e : ruleOf A.mode = "_law_in_template" := by rw [z]; rfl
    rw [if_neg (by rw [z]; decide), if_neg (by rw [z]; decide), if_pos z, e]
    exact (template_ok h z hn hk9 ht).le (Nat.le_refl _) (Nat.le_succ _) rfl
  · have e : ruleOf A.mode = "_law_after_head" := by rw [z]; rfl
    rw [if_neg (by rw [z]; decide), if_neg (by rw [z]; decide), if_neg (by rw [z]; decide), e]
    exact (after_ok h z hn hk9 ht).le (Nat.le_refl _) (Nat.le_succ _) rfl
theorem textMode_other (h1 : t.kind ≠ "char") (h2 : t.kind ≠ "end") (h3 : t.kind ≠ "eof") : CV c "text_mode" [.ref 1 0, tokV t] (BSt A r) .none (BSt A r) := Cl.is <|
  G.enter (fn := f_text_mode) rfl rfl (G.asg (v := .str t.kind) (E.sub (E.loc rfl) E.cI (k0 t)) (G.iteF (E.cmp (E.loc rfl) E.cS (congrArg some (decide_eq_false h1))) (G.iteF (E.cmp (E.loc rfl) E.cS (congrArg some (decide_eq_false h2))) (G.iteF (E.cmp (E.loc rfl) E.cS (congrArg some (decide_eq_false h3))) (G.fin ⟨rfl, rfl⟩)))))
theorem orig_ne (h : Iv A n k) (hm : A.mode = "text") : A.original ≠ "text" := by
  obtain ⟨ns, _, s2, _⟩ := h.shape
  rcases s2 with ⟨_, _, _, _, _, z⟩ | ⟨z, _⟩
  · rcases z.mode with z | z | z | z <;> rw [z] <;> decide
  · exact absurd hm z
theorem text_han (h : Iv A n k) (hm : A.mode = "text") (hn : n ≤ 690) (hk : k ≤ 880) (ht : Small t) : Han "text_mode" A (textA A t) t (n + 2) (k + 3) 22 := by
  have I := h.core.ins (Nat.le_trans hn (by decide))
  cases t with
  | char s => exact .mk' (h.sign (ht.char s rfl)) (Nat.le_refl _) (Nat.le_add_right _ _) fun r => text_char (sign_ok I (h.txs hn) (Nat.le_trans (ht.char s rfl) (by decide)))
  | fin x =>
    obtain ⟨l, y, e1, e2⟩ := pop_eq h A.original
    have H : ∀ r, CV 22 "text_mode" [.ref 1 0, tokV (.fin x)] (BSt A r) .none (BSt (popTo A A.original) r) := fun r => by rw [e2]; exact text_end e1
    exact .mk' (h.popText hm) (Nat.le_add_right _ _) (Nat.le_add_right _ _) H
  | eof =>
    have E := h.err (w := "unexpected-eof")
    have P : Iv (popTo (A.err "unexpected-eof") A.original) n (k + 1) := E.popText hm
    have hne : (popTo (A.err "unexpected-eof") A.original).mode ≠ "text" := orig_ne h hm
    have H := plain_ok P hne hn (Nat.le_trans (Nat.succ_le_succ hk) (by decide)) ht
    exact .mk' H.1 (Nat.le_refl _) (Nat.le_refl _) fun r => text_eof (err_lt h (Nat.le_trans hk (by decide))) (leave_to (c := 16) E (ruleOf_ok (base_mode P hne)) P H r)
  | _ => exact .mk' h (Nat.le_add_right _ _) (Nat.le_add_right _ _) fun r => textMode_other (of_decide_eq_false rfl) (of_decide_eq_false rfl) (of_decide_eq_false rfl)
theorem proc_ok (h : Iv A n k) (hn : n ≤ 690) (hk : k ≤ 880) (ht : Small t) : Iv (procA A t) (n + 2) (k + 3) ∧ ∀ r, CV 24 "Builder.process" [.ref 1 0, tokV t] (BSt A r) .none (BSt (procA A t) r) := by
  unfold procA
  by_cases hm : A.mode = "text"
  · rw [if_pos hm]
    have H := text_han h hm hn hk ht
    exact ⟨H.1, fun r => process_ok (n := 20) (f := "text_mode") (top_of h) (by rw [hm]; rfl) (H.2 r)⟩
  · rw [if_neg hm]
    have H := plain_ok h hm hn (Nat.le_trans hk (by decide)) ht
    exact ⟨H.1.mono (Nat.le_refl _) (Nat.le_succ _), fun r => process_ok (n := 20) (top_of h) (ruleOf_ok (base_mode h hm)) ((H.2 r).le (by decide))⟩
theorem Iv.slash (h : Iv A n k) (t : Tok) : Iv (A.slash t) n (k + 1) := by
  unfold AB.slash
  split
  · exact h.err
  · exact h.mono (Nat.le_refl _) (Nat.le_succ _)
theorem feed_ok (h : Iv A n k) (hn : n ≤ 690) (hk : k ≤ 880) (ht : Small t) : Iv (stepA A t) (n + 2) (k + 4) ∧ ∀ r, CV 25 "Builder.feed" [.ref 1 0, tokV t] (BSt A r) .none (BSt (stepA A t) r) := by
  unfold stepA
  by_cases hdn : A.done = true
  · rw [if_pos hdn]; exact ⟨h.mono (Nat.le_add_right _ _) (Nat.le_add_right _ _), fun r => feed_done hdn⟩
  · obtain ⟨a, b⟩ := proc_ok (h.flags false A.done A.wish) hn hk ht
    rw [if_neg hdn]
    exact ⟨a.slash t, fun r => feed_gen (Bool.not_eq_true _ ▸ hdn) (b r) (err_lt a (Nat.le_trans (Nat.add_le_add_right hk 3) (by decide)))⟩
end
end Mine
end

section
set_option maxRecDepth 100000
set_option genInjectivity false
namespace Mine
noncomputable abbrev WL := List (Nat × String)
noncomputable def AB.w0 (A : AB) : AB := { A with wish := "" }
noncomputable def stepW (S : AB × WL) (k : Nat) (t : Tok) : AB × WL := ((stepA S.1 t).w0, if (stepA S.1 t).wish = "" then S.2 else S.2 ++ [(k, (stepA S.1 t).wish)])
noncomputable def runW (S : AB × WL) (k : Nat) (l : List Tok) : AB × WL := l.rec (fun S _ => S) (fun t _ ih S k => ih (stepW S k t) (k + 1)) S k
noncomputable def passB (t : Tok) : Bool := t.casesOn (fun s => decide (s ∈ spaces)) (fun _ => true) true (fun x _ => decide (x = "html") || decide (x = "head")) (fun _ => false) false
noncomputable def passA (A : AB) (t : Tok) : AB := t.casesOn (fun s => A.sign s) (fun s => A.com s) (A.err "unexpected-doctype") (fun x s => if x = "html" then bodyA A (.start x s) else A.err "unexpected-start-tag") (fun _ => A) A
noncomputable def isT (t : Tok) (a b : String) : Bool := t.casesOn (fun s => decide ("char" = a) && decide (s = b)) (fun s => decide ("comment" = a) && decide (s = b)) (decide ("doctype" = a) && decide ("html" = b)) (fun x _ => decide ("start" = a) && decide (x = b)) (fun x => decide ("end" = a) && decide (x = b)) false
section
variable {A A' F : AB} {n k c i : Nat} {t : Tok} {m s x w f a b y : String} {sl : Bool} {env : XEnv} {st : XSt} {r : XSt} {W : WL} {O : List (List Int)} {X : RX} {T : List Tok}
theorem eqt2 {u v : String} : Eqt (.tup [.str u, .str v]) (.tup [.str a, .str b]) (decide (u = a) && decide (v = b)) := by
  have h := Eqt.tup (xs := [.str u, .str v]) (ys := [.str a, .str b]) (bs := [decide (u = a), decide (v = b)]) rfl fun k x y h1 h2 => by
    cases k with
    | zero => cases h1; cases h2; exact .str _ _
    | succ k => cases k with
      | zero => cases h1; cases h2; exact .str _ _
      | succ k => exact nomatch h1
  have e : (([decide (u = a), decide (v = b)]).all id && ([XVal.str u, .str v].length == [XVal.str a, .str b].length)) = (decide (u = a) && decide (v = b)) := by
    show ((decide (u = a) && (decide (v = b) && true)) && true) = _
    rw [Bool.and_true, Bool.and_true]
  exact e ▸ h
theorem eqt1 {u : String} : Eqt (.tup [.str u]) (.tup [.str a, .str b]) false := by
  have h := Eqt.tup (xs := [.str u]) (ys := [.str a, .str b]) (bs := [decide (u = a)]) rfl fun k x y h1 h2 => by
    cases k with
    | zero => cases h1; cases h2; exact .str _ _
    | succ k => exact nomatch h1
  have e : (([decide (u = a)]).all id && ([XVal.str u].length == [XVal.str a, .str b].length)) = false := Bool.and_false _
  exact e ▸ h
theorem E.is (h : env y = some (tokV t)) : EV n env st (.cmp .eq (.slice (.loc y) (.cI 2)) (.tup (.cons (.cS a) (.cons (.cS b) .nil)))) (.bool (isT t a b)) st := by
  have go : ∀ {xs : List XVal}, tokV t = .tup xs → Eqt (.tup (xs.take 2)) (.tup [.str a, .str b]) (isT t a b) → EV n env st (.cmp .eq (.slice (.loc y) (.cI 2)) (.tup (.cons (.cS a) (.cons (.cS b) .nil)))) (.bool (isT t a b)) st := fun {xs} e q =>
    E.eqT (E.sliceT (xs := xs) (E.loc (h.trans (congrArg some e))) E.cI (by decide)) (E.tup (EE.cons E.cS (EE.one E.cS)) (Nat.le_of_ble_eq_true rfl)) q
  cases t with
  | eof => exact go rfl eqt1
  | _ => exact go rfl eqt2
theorem is_start (h : isT t "start" x = true) : ∃ s, t = .start x s := by
  cases t with
  | start z s => exact ⟨s, congrArg (Tok.start · s) (of_decide_eq_true (show decide (z = x) = true from h))⟩
  | _ => exact absurd h Bool.false_ne_true
theorem is_end (h : isT t "end" x = true) : t = .fin x := by
  cases t with
  | fin z => exact congrArg Tok.fin (of_decide_eq_true (show decide (z = x) = true from h))
  | _ => exact absurd h Bool.false_ne_true
theorem is_st {s : Bool} : isT (.start y s) "start" x = decide (y = x) := rfl
theorem is_fin : isT (.fin y) "end" x = decide (y = x) := rfl
theorem sp_ev (h : env y = some (tokV t)) : EV n env (J F X r) (.and (.cmp .eq (.sub (.loc y) (.cI 0)) (.cS "char")) (.cmp .inn (.sub (.loc y) (.cI 1)) (.list (.cons (.cS " ") (.cons (.cS "\n") (.cons (.cS "\t") (.cons (.cS "\u000c") (.cons (.cS "\r") .nil)))))))) (.bool (spaceT t)) (J F X r) := by
  cases t with
  | char s =>
    have e : decide (s ∈ ([" ", "\n", "\t", "\u000c", "\r"] : List String)) = decide (s ∈ spaces) := decide_eq_decide.mpr ⟨(by decide : ∀ x ∈ ([" ", "\n", "\t", "\u000c", "\r"] : List String), x ∈ spaces) s, (by decide : ∀ x ∈ spaces, x ∈ ([" ", "\n", "\t", "\u000c", "\r"] : List String)) s⟩
    exact E.drop (E.andT (E.kind h rfl) (E.to2 (E.inS (l := [" ", "\n", "\t", "\u000c", "\r"]) (E.sub (E.loc h) E.cI rfl) (E.to (E.list 0 (EE.cons E.cS (EE.cons E.cS (EE.cons E.cS (EE.cons E.cS (EE.one E.cS))))) (Nat.le_of_ble_eq_true rfl)) (over_push (b := bL F) (l := []) rfl)) rfl) (congrArg XVal.bool e) rfl)) (dropL (.bool _))
  | _ => exact E.andF (E.kind h rfl)
theorem passed_ok (h : Iv A n k) (hn : n ≤ 690) (hk : k ≤ 890) (ht : Small t) : CV (c + 3) "_law_is_passed" [tokV t, .ref 22 0, nref A.top, .str A.mode] (J F (rx A W m O) r) (.bool (passB t)) (J F (if passB t then (rx (passA A t) W m O).slash t A.mode else rx A W m O) r) := Cl.is <| by
  have hl : A.errors.length < 1000 := err_lt h (Nat.le_trans hk (by decide))
  have hl1 : ∀ w : String, (A.err w).errors.length < 1000 := fun w => err_lt (h.err (w := w)) (Nat.le_trans (Nat.succ_le_succ hk) (by decide))
  have he : ∀ {env : XEnv} {w : String}, env "told" = some (.ref 22 0) → env "mode" = some (.str A.mode) → EV (c + 3) env (J F (rx A W m O) r) (.meth (.sub (.loc "told") (.cS "errors")) "append" (.cons (.tup (.cons (.cS w) (.cons (.loc "mode") .nil))) .nil)) .none (J F (rx (A.err w) W m O) r) := fun a b =>
    err_ev (X := rx A W m O) a hl (E.tup (EE.cons E.cS (EE.one (E.loc b))) (Nat.le_of_ble_eq_true rfl))
  have fin : ∀ {env : XEnv} {B : AB}, env "token" = some (tokV t) → env "told" = some (.ref 22 0) → env "mode" = some (.str A.mode) → passB t = true → passA A t = B → B.errors.length < 1000 →
      Bx (c + 3) (.cons (.expr (.call "_law_slash" (.cons (.loc "told") (.cons (.loc "token") (.cons (.loc "mode") .nil))))) (.cons (.ret (.cB true)) .nil)) env (J F (rx B W m O) r) fun fl _ st' => fl.val = .bool (passB t) ∧ st' = J F (if passB t then (rx (passA A t) W m O).slash t A.mode else rx A W m O) r := fun a b d p e z => by
    subst e; rw [p]
    exact G.expr (E.call (EE.cons (E.loc b) (EE.cons (E.loc a) (EE.one (E.loc d)))) (slash_ok z)) (G.ret E.cB ⟨rfl, rfl⟩)
  refine G.enter (fn := f__law_is_passed) rfl rfl (G.iteB (sp_ev rfl) (fun q => ?_) fun q => G.iteD (P := t.kind = "comment") (E.kind rfl rfl) (fun q1 => ?_) fun q1 => G.iteD (P := t.kind = "doctype") (E.kind rfl rfl) (fun q2 => ?_) fun q2 => G.iteB (E.is rfl) (fun q3 => ?_) fun q3 => G.iteB (E.is rfl) (fun q4 => ?_) fun q4 => ?_)
  · obtain ⟨s, e⟩ := space_of q
    exact G.expr (E.call (EE.cons (E.loc rfl) (EE.one (E.sub (E.loc rfl) E.cI (k1_of (.inl e))))) (r_sign h.core (Nat.le_trans hn (by decide)) (ht.char s e))) (fin rfl rfl rfl (by subst e; exact q) (by rw [e]; rfl) (err_lt (h.sign (ht.char s e)) (Nat.le_trans hk (by decide))))
  · obtain ⟨s, e⟩ := com_of q1
    exact G.expr (E.call (EE.cons (E.loc rfl) (EE.cons E.cS (EE.cons E.cS (EE.cons (E.tup .nil (Nat.zero_le _)) (EE.cons (E.sub (E.loc rfl) E.cI (k1_of (.inr e))) (EE.one E.cI)))))) (r_com h.core (Nat.le_trans hn (by decide)))) (fin rfl rfl rfl (by rw [e]; rfl) (by rw [e]; rfl) hl)
  · have e := dt_of q2
    exact G.expr (he rfl rfl) (fin rfl rfl rfl (by rw [e]; rfl) (by rw [e]; rfl) (hl1 _))
  · obtain ⟨s, e⟩ := is_start q3
    have hml := mode_len h
    have e3 : passA A t = A.com ("body, " ++ A.mode ++ ": start html") := by
      rw [e]
      refine congrArg A.com (Eq.trans (String.append_assoc ..) ?_)
      rfl
    have l1 : ("body, ".length + A.mode.length) ≤ 30 := Nat.add_le_add (show 6 ≤ 10 by decide) hml
    exact G.expr (E.call (EE.cons (E.loc rfl) (EE.cons E.cS (EE.cons E.cS (EE.cons (E.tup .nil (Nat.zero_le _)) (EE.cons (E.cat (E.cat E.cS (E.loc rfl) (Nat.le_trans l1 (by decide))) E.cS (by rw [String.length_append]; exact Nat.le_trans (Nat.add_le_add_right l1 12) (by decide))) (EE.one E.cI)))))) (r_com h.core (Nat.le_trans hn (by decide)))) (fin rfl rfl rfl (by rw [e]; rfl) e3 hl)
  · obtain ⟨s, e⟩ := is_start q4
    exact G.expr (he rfl rfl) (fin rfl rfl rfl (by rw [e]; rfl) (by rw [e]; rfl) (hl1 _))
  · have e : passB t = false := by
      cases t with
      | char s => exact q
      | comment => exact absurd rfl q1
      | doctype => exact absurd rfl q2
      | start y s =>
        show (decide (y = "html") || decide (y = "head")) = false
        rw [show decide (y = "html") = false from q3, show decide (y = "head") = false from q4]; rfl
      | _ => rfl
    rw [e]
    exact G.ret E.cB ⟨rfl, rfl⟩
end
end Mine
end

section
set_option maxRecDepth 100000
set_option genInjectivity false
namespace Mine
noncomputable def isRaw (scr : Bool) (x : String) : Prop := x ∈ (["title", "style", "script", "noframes"] : List String) ∨ (x = "noscript" ∧ scr = true)
structure TOK (T : List Tok) (scr : Bool) : Prop where
  small : ∀ (i : Nat) (t : Tok), T[i]? = some t → Small t
  len : T.length ≤ 80
  eof : ∀ i : Nat, T[i]? = some .eof → i + 1 = T.length
  raw : ∀ (i : Nat) (x : String) (s : Bool), T[i]? = some (.start x s) → isRaw scr x → ∃ m : Nat, (∀ j : Nat, j < m → ∃ c, T[i + 1 + j]? = some (.char c)) ∧ ∃ t, T[i + 1 + m]? = some t ∧ (t = .eof ∨ ∃ y, t = .fin y)
structure Gd (T : List Tok) (scr : Bool) (A : AB) (W : WL) (at_ s : Nat) : Prop where
  iv : Iv A (3 + 2 * at_) (6 * at_ + s)
  wish : A.wish = ""
  done : at_ < T.length → A.done = false
  le : at_ ≤ T.length
  scr : A.scripting = scr
  wl : W.length ≤ at_
noncomputable def ack0 (A : AB) : AB := { A with ack := false }
structure DoneOk (A B : AB) (t : Tok) : Prop where
  scr : B.scripting = A.scripting
  done : A.done = false → B.done = eofT t
section
variable {A A' F : AB} {T : List Tok} {scr : Bool} {at_ s n k : Nat} {t : Tok} {W W' : WL} {m c x w : String}
theorem drop_at (h : T[at_]? = some t) : T.drop at_ = t :: T.drop (at_ + 1) := by
  obtain ⟨a, b⟩ := List.getElem?_eq_some_iff.mp h
  rw [← b]; exact List.drop_eq_getElem_cons a
theorem run_at {S : AB × WL} (h : T[at_]? = some t) : runW S at_ (T.drop at_) = runW (stepW S at_ t) (at_ + 1) (T.drop (at_ + 1)) := by rw [drop_at h]; rfl
theorem ins_done : (A.ins x).done = A.done ∧ (A.ins x).scripting = A.scripting := ⟨addElem_same AB.done rfl rfl, addElem_same AB.scripting rfl rfl⟩
theorem fok_closeA : (closeA A).done = A.done ∧ (closeA A).wish = A.wish ∧ (closeA A).scripting = A.scripting := by
  unfold closeA
  cases splitT A A.items.reverse with
  | none => exact ⟨rfl, rfl, rfl⟩
  | some p => exact ⟨rfl, rfl, rfl⟩
theorem ite_of {α : Type} {P : Prop} [Decidable P] {a b : α} {p : α → Prop} (h1 : P → p a) (h2 : ¬P → p b) : p (if P then a else b) := by
  by_cases h : P
  · rw [if_pos h]; exact h1 h
  · rw [if_neg h]; exact h2 h
theorem taken_rest : (takenA A t).done = A.done ∧ (takenA A t).scripting = A.scripting := by
  cases t with
  | fin x => exact ⟨fok_closeA.1, fok_closeA.2.2⟩
  | start x s => exact ite_of (p := fun B : AB => B.done = A.done ∧ B.scripting = A.scripting) (fun _ => ins_done (x := x)) fun _ => ite_of (p := fun B : AB => B.done = A.done ∧ B.scripting = A.scripting) (fun _ => ins_done (x := "template")) fun _ => ins_done (x := x)
  | _ => exact ⟨rfl, rfl⟩
theorem sign_same {α : Type} (f : AB → α) (h1 : f (insT A c A.hold) = f A) (h2 : ∀ k, f (addText A k c) = f A) : f (A.sign c) = f A := by
  unfold AB.sign
  cases lastText A A.hold with
  | none => exact h1
  | some k => exact h2 k
theorem taken_eof (h : takesT t = true) : eofT t = false := by
  cases t <;> first | rfl | exact nomatch h
theorem DoneOk.same (h : A'.done = A.done ∧ A'.scripting = A.scripting) (e : eofT t = false) : DoneOk A A' t := ⟨h.2, fun z => (h.1.trans z).trans e.symm⟩
theorem DoneOk.ite {P : Prop} [Decidable P] {a b : AB} (h1 : P → DoneOk A a t) (h2 : ¬P → DoneOk A b t) : DoneOk A (if P then a else b) t := ite_of (p := fun B => DoneOk A B t) h1 h2
theorem after_done : DoneOk A (afterA A t) t := DoneOk.ite (fun h => .same taken_rest (taken_eof h)) fun _ => ⟨rfl, fun _ => rfl⟩
theorem head_done : DoneOk A (headA A t) t := by
  have AF : DoneOk A (afterA (popTo A "after head") t) t := let ⟨a, b⟩ := after_done (A := popTo A "after head") (t := t); ⟨a, b⟩
  cases t with
  | char c => exact DoneOk.ite (fun _ => .same ⟨sign_same AB.done rfl fun _ => rfl, sign_same AB.scripting rfl fun _ => rfl⟩ rfl) fun _ => AF
  | comment c => exact ⟨rfl, id⟩
  | doctype => exact ⟨rfl, id⟩
  | eof => exact AF
  | start x s => exact DoneOk.ite (fun _ => ⟨rfl, id⟩) fun _ => DoneOk.ite (fun _ => .same taken_rest rfl) fun _ => DoneOk.ite (fun _ => DoneOk.ite (fun _ => .same (ins_done (x := x)) rfl) fun _ => .same (ins_done (x := x)) rfl) fun _ => DoneOk.ite (fun _ => ⟨rfl, id⟩) fun _ => AF
  | fin x => exact DoneOk.ite (fun _ => ⟨rfl, id⟩) fun _ => DoneOk.ite (fun _ => .same ⟨fok_closeA.1, fok_closeA.2.2⟩ rfl) fun _ => DoneOk.ite (fun _ => AF) fun _ => ⟨rfl, id⟩
theorem DoneOk.of {B : AB} (h : DoneOk B A' t) (e1 : B.scripting = A.scripting) (e2 : B.done = A.done) : DoneOk A A' t := ⟨h.1.trans e1, fun z => h.2 (e2.trans z)⟩
theorem plain_done : DoneOk A (plainA A t) t := by
  refine DoneOk.ite (fun _ => head_done) fun _ => DoneOk.ite (fun _ => ?_) fun _ => DoneOk.ite (fun _ => DoneOk.ite (fun h => .same taken_rest (taken_eof h)) fun _ => DoneOk.ite (fun h => ?_) fun _ => ⟨rfl, fun _ => rfl⟩) fun _ => after_done
  · refine DoneOk.ite (fun h => .same ⟨rfl, rfl⟩ ?_) fun _ => DoneOk.ite (fun h => .same ⟨rfl, rfl⟩ ?_) fun _ => DoneOk.ite (fun _ => head_done) fun _ => DoneOk.ite (fun h => .same ⟨rfl, rfl⟩ ?_) fun _ => head_done.of (B := popTo (A.err (unexpT t)) "in head") rfl rfl
    all_goals cases t <;> first | rfl | exact nomatch h
  · obtain ⟨x, s, rfl⟩ := sub_of h
    exact .same ins_done rfl
theorem slash_same {α : Type} (f : AB → α) (h : f (A.err slashW) = f A) : f (A.slash t) = f A := ite_of (p := fun B => f B = f A) (fun _ => h) fun _ => rfl
theorem step_done : DoneOk A (stepA A t) t := by
  refine DoneOk.ite (fun h => ⟨rfl, fun z => nomatch h.symm.trans z⟩) fun h => ?_
  have : DoneOk A (procA { A with ack := false } t) t := by
    refine DoneOk.ite (fun _ => ?_) fun _ => plain_done.of (B := { A with ack := false }) rfl rfl
    cases t with
    | char c => exact .same ⟨sign_same (A := { A with ack := false }) AB.done rfl fun _ => rfl, sign_same (A := { A with ack := false }) AB.scripting rfl fun _ => rfl⟩ rfl
    | eof => exact plain_done.of (B := popTo (AB.err { A with ack := false } "unexpected-eof") A.original) rfl rfl
    | _ => exact ⟨rfl, id⟩
  exact ⟨(slash_same AB.scripting rfl).trans this.1, fun z => (slash_same AB.done rfl).trans (this.2 z)⟩
theorem step_was (h : A.done = true) : (stepA A t).done = true := by unfold stepA; rw [if_pos h]; exact h
theorem Gd.step (g : Gd T scr A W at_ s) (K : TOK T scr) (hs : s ≤ 2) (ht : T[at_]? = some t) : Gd T scr (stepW (A, W) at_ t).1 (stepW (A, W) at_ t).2 (at_ + 1) 0 := by
  have hl := (List.getElem?_eq_some_iff.mp ht).1
  have hle : at_ ≤ 80 := Nat.le_trans (Nat.le_of_lt hl) K.len
  obtain ⟨a, _⟩ := feed_ok g.iv (Nat.le_trans (Nat.add_le_add_left (Nat.mul_le_mul_left 2 hle) 3) (by decide)) (Nat.le_trans (Nat.add_le_add (Nat.mul_le_mul_left 6 hle) hs) (by decide)) (K.small _ _ ht)
  refine ⟨(a.flags (stepA A t).ack (stepA A t).done "").mono (Nat.le_refl _) (Nat.add_le_add_left (Nat.add_le_add_right hs 4) (6 * at_)), rfl, fun h => ?_, hl, step_done.1.trans g.scr, ?_⟩
  · have h2 := (step_done (t := t)).2 (g.done hl)
    rw [show (stepW (A, W) at_ t).1.done = (stepA A t).done from rfl, h2]
    cases t with
    | eof => exact absurd h (Nat.not_lt_of_le (Nat.le_of_eq (K.eof _ ht).symm))
    | _ => rfl
  · refine ite_of (p := fun W' : WL => W'.length ≤ at_ + 1) (fun _ => Nat.le_succ_of_le g.wl) fun _ => ?_
    rw [len_snoc]; exact Nat.succ_le_succ g.wl
end
end Mine
end

section
set_option maxRecDepth 100000
set_option genInjectivity false
namespace Mine
noncomputable def Ext (l l' : List Nd) : Prop := ∀ (j : Nat) (nd : Nd), l[j]? = some nd → ∃ t, l'[j]? = some { nd with text := t }
theorem Ext.refl (l : List Nd) : Ext l l := fun j nd h => ⟨nd.text, h⟩
theorem Ext.trans {a b c : List Nd} (h1 : Ext a b) (h2 : Ext b c) : Ext a c := fun j nd h => let ⟨t, ht⟩ := h1 j nd h; let ⟨t', ht'⟩ := h2 j _ ht; ⟨t', ht'⟩
theorem Ext.app (a m : List Nd) : Ext a (a ++ m) := fun j nd h => ⟨nd.text, by rw [List.getElem?_append_left (List.getElem?_eq_some_iff.mp h).1]; exact h⟩
noncomputable def topI (its : List Int) : Int := its.getLast?.getD (-1)
noncomputable def Toks (T : List Tok) (ti : Nat) (r : XSt) : Prop := (r 30)[ti]? = some (.list (T.map tokV))
noncomputable def rawS (x : String) : String := if x = "title" then "RCDATA" else if x = "script" then "script data" else "RAWTEXT"
structure RawI (T : List Tok) (scr : Bool) (W : WL) (its : List Int) (m0 : String) (N : List Nd) (R : AB × WL) (A : AB) (at_ : Nat) : Prop where
  gd : Gd T scr A W at_ 0
  mode : A.mode = "text"
  orig : A.original = m0
  items : A.items = its
  ext : Ext N A.nodes
  run : runW (A, W) at_ (T.drop at_) = R
structure Back (T : List Tok) (scr : Bool) (A : AB) (W : WL) (at_ : Nat) (A' : AB) (W' : WL) (at' s : Nat) : Prop where
  lt : at_ < at'
  gd : Gd T scr A' W' at' s
  mode : A'.mode = A.mode
  items : A'.items = A.items
  ext : Ext A.nodes A'.nodes
  run : runW (A, W) at_ (T.drop at_) = runW (A', W') at' (T.drop at')
section
variable {A A' B F : AB} {T : List Tok} {scr sl : Bool} {at_ s n k c ti j : Nat} {t : Tok} {W W' : WL} {m x m0 u : String} {O : List (List Int)} {r : XSt} {X : RX} {env : XEnv} {its : List Int} {N : List Nd} {R : AB × WL} {Q : XFlow → XEnv → XSt → Prop}
theorem tok_at (tk : Toks T ti r) (ht : T[at_]? = some t) : subX (J F X r) (.ref 30 ti) (.int at_) = some (tokV t) := sub_at (xs := T.map tokV) (getL_at tk) (by rw [List.getElem?_map, ht]; rfl)
theorem step_eq (h : A.done = false) : stepA A t = (procA (ack0 A) t).slash t := if_neg (by rw [h]; decide)
theorem proc_text (h : A.mode = "text") : procA A t = textA A t := if_pos h
theorem proc_plain (h : A.mode ≠ "text") : procA A t = plainA A t := if_neg h
theorem slash_no (h : slashT t = false) : A.slash t = A := if_neg (by rw [h]; exact Bool.false_ne_true)
theorem stepW_no (h : (stepA A t).wish = "") : stepW (A, W) at_ t = ((stepA A t).w0, W) := congrArg (Prod.mk _) (if_pos h)
theorem rx_slash (h : B.ack = false) : rx (B.slash t) W m O = (rx B W m O).slash t B.mode := by
  unfold AB.slash RX.slash
  rw [h]
  cases slashT t <;> rfl
theorem ext_sign (c : String) : Ext A.nodes (A.sign c).nodes := by
  unfold AB.sign
  cases lastText A A.hold with
  | none => exact insT_nodes (A := A) c A.hold ▸ Ext.app _ _
  | some k => exact fun j nd h => txt_on h
theorem ext_ins (nm : String) : Ext A.nodes (A.ins nm).nodes := ins_nodes' (A := A) (nm := nm) ▸ Ext.app _ _
theorem sign_step (K : TOK T scr) (g : RawI T scr W its m0 N R A at_) (ht : T[at_]? = some (.char x)) : RawI T scr W its m0 N R ((ack0 A).sign x).w0 (at_ + 1) := by
  have hl := (List.getElem?_eq_some_iff.mp ht).1
  have st : stepA A (.char x) = (ack0 A).sign x := by rw [step_eq (g.gd.done hl), proc_text (A := ack0 A) g.mode, slash_no rfl]; rfl
  have sw : stepW (A, W) at_ (.char x) = (((ack0 A).sign x).w0, W) := by
    rw [stepW_no (by rw [st, sign_same AB.wish rfl fun _ => rfl]; exact g.gd.wish), st]
  have g1 := g.gd.step K (Nat.zero_le _) ht
  rw [sw] at g1
  exact ⟨g1, (sign_same AB.mode rfl fun _ => rfl).trans g.mode, (sign_same AB.original rfl fun _ => rfl).trans g.orig, (sign_same AB.items rfl fun _ => rfl).trans g.items, g.ext.trans (ext_sign (A := ack0 A) x), by rw [← g.run, run_at ht, sw]⟩
theorem raw_loop (K : TOK T scr) (tk : Toks T ti r) : ∀ (mm : Nat) (A : AB) (at_ : Nat) (env : XEnv), RawI T scr W its m0 N R A at_ → (∀ j : Nat, j < mm → ∃ c, T[at_ + j]? = some (.char c)) → (∃ t, T[at_ + mm]? = some t ∧ (t = .eof ∨ ∃ y, t = .fin y)) →
    env "tokens" = some (.ref 30 ti) → env "at" = some (.int at_) → env "node" = some (nref (topI its)) → env "told" = some (.ref 22 0) →
    (∀ A' env', RawI T scr W its m0 N R A' (at_ + mm) → env' "tokens" = some (.ref 30 ti) → env' "at" = some (.int ((at_ + mm : Nat) : Int)) → env' "node" = some (nref (topI its)) → env' "told" = some (.ref 22 0) → Q .next env' (J F (rx A' W m O) r)) →
    Bw (c + 3) (.cmp .eq (.sub (.sub (.loc "tokens") (.loc "at")) (.cI 0)) (.cS "char")) (.cons (.expr (.call "_law_add_sign" (.cons (.loc "node") (.cons (.sub (.sub (.loc "tokens") (.loc "at")) (.cI 1)) .nil)))) (.cons (.aug "at" .add (.cI 1)) .nil)) env (J F (rx A W m O) r) Q := by
  intro mm
  induction mm with
  | zero =>
    intro A at_ env g hc hend e1 e2 e3 e4 hQ
    obtain ⟨t, ht, hend⟩ := hend
    refine Mine.W.stop (E.cmp (E.sub (E.sub (E.loc e1) (E.loc e2) (tok_at tk ht)) E.cI (k0 t)) E.cS ?_) (hQ A env g e1 e2 e3 e4)
    rcases hend with rfl | ⟨y, rfl⟩ <;> rfl
  | succ mm ih =>
    intro A at_ env g hc hend e1 e2 e3 e4 hQ
    obtain ⟨x, ht⟩ := hc 0 (Nat.succ_pos _)
    have ht : T[at_]? = some (.char x) := ht
    have hl := (List.getElem?_eq_some_iff.mp ht).1
    have hle : at_ ≤ 80 := Nat.le_trans (Nat.le_of_lt hl) K.len
    have g1 := sign_step K g ht
    have nv : topI its = (ack0 A).top := congrArg topI g.items.symm
    have sg := r_sign (k := c) (F := F) (A := ack0 A) (W := W) (m := m) (O := O) (r := r) (g.gd.iv.core.same (A' := ack0 A) rfl rfl rfl) (Nat.le_trans (Nat.add_le_add_left (Nat.mul_le_mul_left 2 hle) 3) (by decide)) ((K.small _ _ ht).char x rfl)
    rw [← nv] at sg
    have ee : ∀ q : Nat, at_ + (q + 1) = at_ + 1 + q := fun q => by rw [Nat.add_right_comm]; rfl
    rw [ee] at hend hQ
    exact Mine.W.turn (E.cmp (E.sub (E.sub (E.loc e1) (E.loc e2) (tok_at tk ht)) E.cI (k0 _)) E.cS rfl) (G.expr (E.call (EE.cons (E.loc e3) (EE.one (E.sub (E.sub (E.loc e1) (E.loc e2) (tok_at tk ht)) E.cI rfl))) sg) (G.aug (.inl rfl) e2 E.cI (G.fin
      (ih ((ack0 A).sign x).w0 (at_ + 1) _ g1 (fun j hj => ee j ▸ hc (j + 1) (Nat.succ_lt_succ hj)) hend e1 rfl e3 e4 hQ))))
theorem rawS_ne (x : String) : rawS x ≠ "" := by
  unfold rawS
  exact ite_of (p := fun s : String => s ≠ "") (fun _ => by decide) fun _ => ite_of (p := fun s : String => s ≠ "") (fun _ => by decide) fun _ => by decide
theorem rawW_eq (h : isRaw A.scripting x) : rawW A x = rawS x := by
  rcases h with h | ⟨rfl, h⟩
  · have : ∀ x ∈ (["title", "style", "script", "noframes"] : List String), x ≠ "noscript" ∧ (if x = "title" then "RCDATA" else if x ∈ (["noframes", "style"] : List String) then "RAWTEXT" else if x = "script" then "script data" else "") = (if x = "title" then "RCDATA" else if x = "script" then "script data" else "RAWTEXT") := by decide
    rw [rawW_of (this x h).1]; exact (this x h).2
  · unfold rawW
    rw [if_neg (by decide), if_pos (.inr ⟨rfl, h⟩)]; rfl
theorem isRaw_ne (h : isRaw scr x) : x ≠ "template" := by
  rcases h with h | ⟨rfl, _⟩
  · exact (by decide : ∀ x ∈ (["title", "style", "script", "noframes"] : List String), x ≠ "template") x h
  · decide
theorem wish_val (h1 : env "at" = some (.int at_)) (h2 : env "token" = some (tokV (.start x sl))) :
    EV n env (J F X r) (.tup (.cons (.loc "at") (.cons (.meth (.dict ["title", "script"] (.cons (.cS "RCDATA") (.cons (.cS "script data") .nil))) "get" (.cons (.sub (.loc "token") (.cI 1)) (.cons (.cS "RAWTEXT") .nil))) .nil))) (wishV (at_, rawS x)) (J F X r) := by
  have h3 : (lookupS x ((["title", "script"] : List String).zip [.str "RCDATA", .str "script data"])).getD (.str "RAWTEXT") = .str (rawS x) := by
    show (if "title" = x then some (XVal.str "RCDATA") else if "script" = x then some (.str "script data") else none).getD (.str "RAWTEXT") = _
    unfold rawS
    by_cases y1 : x = "title"
    · rw [if_pos y1.symm, if_pos y1]; rfl
    · rw [if_neg (Ne.symm y1), if_neg y1]
      by_cases y2 : x = "script"
      · rw [if_pos y2.symm, if_pos y2]; rfl
      · rw [if_neg (Ne.symm y2), if_neg y2]; rfl
  refine E.drop (E.tup (EE.cons (E.loc h1) (EE.one (E.to2 (E.get (E.to (E.dict 0 (EE.cons E.cS (EE.one E.cS)) (by decide) rfl ⟨(fun z => nomatch z), Nat.le_of_ble_eq_true rfl⟩) (over_push (b := bL F) (l := []) rfl)) rfl (E.sub (E.loc h2) E.cI rfl) E.cS rfl) h3 rfl))) (Nat.le_of_ble_eq_true rfl)) (dropL (.tup fun v hv => ?_))
  rcases List.mem_cons.mp hv with rfl | hv
  · exact .int _
  · exact List.mem_singleton.mp hv ▸ .str _
theorem up5 (h : Core A n) (hu : env u = some (nref A.top)) : EV k env (J F (rx A W m O) r) (.bin .add (.sub (.loc u) (.cI 5)) (.cI 1)) (.int A.items.length) (J F (rx A W m O) r) :=
  E.to2 (E.add (E.sub (E.loc hu) E.cI (place_top h)) E.cI) (congrArg XVal.int (Int.sub_add_cancel _ 1)) rfl
theorem eof_same (hm : A.mode = "text") (hd : A.done = false) (hw : A.original ≠ "text") (hB : B = popTo (A.err "unexpected-eof") A.original) : stepW (A, W) at_ .eof = stepW (B, W) at_ .eof := by
  have e1 : stepA A .eof = stepA B .eof := by
    subst hB
    rw [step_eq hd, step_eq (A := popTo (A.err "unexpected-eof") A.original) hd, proc_text (A := ack0 A) hm, proc_plain (A := ack0 (popTo (A.err "unexpected-eof") A.original)) hw]
    rfl
  unfold stepW
  rw [show ((A, W).1) = A from rfl, show ((B, W).1) = B from rfl, e1]
end
end Mine
end

section
set_option maxRecDepth 100000
set_option genInjectivity false
namespace Mine
section
variable {A A' B F : AB} {T : List Tok} {scr sl : Bool} {at_ s n k c ti : Nat} {j : Int} {t : Tok} {W W' : WL} {m x m0 u : String} {O : List (List Int)} {r : XSt} {X : RX} {env : XEnv} {its : List Int} {N : List Nd} {R : AB × WL}
theorem Gd.n690 (g : Gd T scr A W at_ s) (K : TOK T scr) : 3 + 2 * at_ ≤ 690 := Nat.le_trans (Nat.add_le_add_left (Nat.mul_le_mul_left 2 (Nat.le_trans g.le K.len)) 3) (by decide)
theorem Gd.k880 (g : Gd T scr A W at_ s) (K : TOK T scr) (hs : s ≤ 2) : 6 * at_ + s ≤ 880 := Nat.le_trans (Nat.add_le_add (Nat.mul_le_mul_left 6 (Nat.le_trans g.le K.len)) hs) (by decide)
theorem Gd.errs (g : Gd T scr A W at_ s) (K : TOK T scr) (hs : s ≤ 2) : A.errors.length < 1000 := err_lt g.iv (Nat.le_trans (g.k880 K hs) (by decide))
theorem Gd.core0 (g : Gd T scr A W at_ s) : Core (ack0 A) (3 + 2 * at_) := g.iv.core.same rfl rfl rfl
theorem raw_first (K : TOK T scr) (g : Gd T scr A W at_ s) (hs : s ≤ 2) (hm : A.mode ≠ "text") (ht : T[at_]? = some (.start x sl)) (hx : isRaw scr x) (hA : plainA (ack0 A) (.start x sl) = rawA (ack0 A) x) :
    RawI T scr (W ++ [(at_, rawS x)]) (A.items ++ [(A.nodes.length : Int)]) A.mode A.nodes (runW (A, W) at_ (T.drop at_)) ((rawA (ack0 A) x).slash (.start x sl)).w0 (at_ + 1) := by
  have hl := (List.getElem?_eq_some_iff.mp ht).1
  have st : stepA A (.start x sl) = (rawA (ack0 A) x).slash (.start x sl) := by rw [step_eq (g.done hl), proc_plain (A := ack0 A) hm, hA]
  have hw : ((rawA (ack0 A) x).slash (.start x sl)).wish = rawS x := (slash_same AB.wish rfl).trans (rawW_eq (A := ack0 A) (g.scr ▸ hx))
  have sw : stepW (A, W) at_ (.start x sl) = (((rawA (ack0 A) x).slash (.start x sl)).w0, W ++ [(at_, rawS x)]) := by
    unfold stepW
    rw [show ((A, W).1) = A from rfl, st, hw, if_neg (rawS_ne x)]
  have g1 := g.step K hs ht
  rw [sw] at g1
  refine ⟨g1, slash_same AB.mode rfl, slash_same AB.original rfl, slash_same AB.items rfl, ?_, by rw [run_at ht, sw]⟩
  show Ext A.nodes ((rawA (ack0 A) x).slash (.start x sl)).nodes
  rw [slash_same AB.nodes rfl]; exact ext_ins (A := ack0 A) x
theorem snoc_drop {α : Type} {l m : List α} {a : α} (h : l = m ++ [a]) : l.dropLast = m := h ▸ List.dropLast_concat
theorem raw_eof (K : TOK T scr) (g : RawI T scr W (its ++ [j]) m0 N R A at_) (h0 : m0 ≠ "text") (ht : T[at_]? = some .eof) : Gd T scr (popTo (A.err "unexpected-eof") A.original) W at_ 1 ∧ R = runW (popTo (A.err "unexpected-eof") A.original, W) at_ (T.drop at_) ∧
    rx (popTo (A.err "unexpected-eof") A.original) W m O = { rx { A with items := its } W m O with errors := A.errors ++ [("unexpected-eof", "text")] } := by
  have hl := (List.getElem?_eq_some_iff.mp ht).1
  refine ⟨⟨(g.gd.iv.err (w := "unexpected-eof")).popText g.mode, g.gd.wish, g.gd.done, g.gd.le, g.gd.scr, g.gd.wl⟩, ?_, ?_⟩
  · rw [← g.run, run_at ht, run_at ht, eof_same g.mode (g.gd.done hl) (g.orig ▸ h0) rfl]
  · show RX.mk A.nodes (placeI A.items.dropLast) (A.errors ++ [("unexpected-eof", A.mode)]) _ _ _ _ _ _ = _
    rw [snoc_drop g.items, g.mode]; rfl
theorem raw_fin (K : TOK T scr) (g : RawI T scr W (its ++ [j]) m0 N R A at_) (ht : T[at_]? = some (.fin x)) : Gd T scr (popTo (ack0 A) A.original).w0 W (at_ + 1) 0 ∧ R = runW ((popTo (ack0 A) A.original).w0, W) (at_ + 1) (T.drop (at_ + 1)) ∧
    rx (popTo (ack0 A) A.original).w0 W m O = rx { A with items := its } W m O := by
  have hl := (List.getElem?_eq_some_iff.mp ht).1
  have st : stepA A (.fin x) = popTo (ack0 A) A.original := by rw [step_eq (g.gd.done hl), proc_text (A := ack0 A) g.mode, slash_no rfl]; rfl
  have sw : stepW (A, W) at_ (.fin x) = ((popTo (ack0 A) A.original).w0, W) := by rw [stepW_no (by rw [st]; exact g.gd.wish), st]
  have g1 := g.gd.step K (Nat.zero_le _) ht
  rw [sw] at g1
  refine ⟨g1, by rw [← g.run, run_at ht, sw], ?_⟩
  show RX.mk A.nodes (placeI A.items.dropLast) _ _ _ _ _ _ _ = _
  rw [snoc_drop g.items]; rfl
theorem raw_r (K : TOK T scr) (g : Gd T scr A W at_ s) (hs : s ≤ 2) (hm : A.mode ≠ "text") (tk : Toks T ti r) (ht : T[at_]? = some (.start x sl)) (hx : isRaw scr x) (hA : plainA (ack0 A) (.start x sl) = rawA (ack0 A) x) :
    ∃ A' W' at', CV (c + 4) "_law_read_raw" [.ref 30 ti, .int at_, .ref 22 0, nref A.top, .str A.mode] (J F (rx A W m O) r) (.int (at' : Nat)) (J F (rx A' W' m O) r) ∧ Back T scr A W at_ A' W' at' 1 := by
  have g1 := raw_first K g hs hm ht hx hA
  obtain ⟨mm, hc, hend⟩ := K.raw at_ x sl ht hx
  have hl := g.errs K hs
  have top1 : ((ack0 A).ins x).top = topI (A.items ++ [(A.nodes.length : Int)]) := rfl
  have x1 : RX.slash { rx ((ack0 A).ins x) W m O with W := W ++ [(at_, rawS x)], original := A.mode } (.start x sl) "text" = rx ((rawA (ack0 A) x).slash (.start x sl)).w0 (W ++ [(at_, rawS x)]) m O :=
    (rx_slash (B := rawA (ack0 A) x) (addElem_same AB.ack rfl rfl)).symm
  have : Cl (c + 4) "_law_read_raw" [.ref 30 ti, .int at_, .ref 22 0, nref A.top, .str A.mode] (J F (rx A W m O) r) fun v st => ∃ A' W' at', v = .int (at' : Nat) ∧ st = J F (rx A' W' m O) r ∧ Back T scr A W at_ A' W' at' 1 := by
    have ri := r_ins (k := c + 2) (F := F) (W := W) (m := m) (O := O) (r := r) (nm := x) g.core0 (Nat.le_trans (g.n690 K) (by decide))
    refine G.enter (fn := f__law_read_raw) rfl rfl (G.asg (E.sub (E.loc rfl) (E.loc rfl) (tok_at tk ht)) (G.asg (E.call (EE.cons (E.loc rfl) (EE.cons E.cS (EE.cons (E.sub (E.loc rfl) E.cI rfl) (EE.cons (E.sub (E.loc rfl) E.cI rfl) (EE.cons E.cS (EE.one (up5 (A := ack0 A) g.core0 rfl))))))) ri)
      (G.expr (wish_ev (st1 := r) rfl (Nat.lt_of_le_of_lt (Nat.le_trans g.wl (Nat.le_trans g.le K.len)) (by decide)) (wish_val rfl rfl)) (G.asgS (E.loc rfl) (E.loc rfl) E.cS set_orig
      (G.expr (E.to (E.call (EE.cons (E.loc rfl) (EE.cons (E.loc rfl) (EE.one E.cS))) (slash_ok (by show ((ack0 A).ins x).errors.length < 1000; rw [show ((ack0 A).ins x).errors = A.errors from addElem_same AB.errors rfl rfl]; exact hl))) (congrArg (J F · r) x1)) (G.aug (.inl rfl) rfl E.cI
      (G.whl (raw_loop K tk mm _ (at_ + 1) _ g1 hc hend rfl rfl (congrArg (fun i => some (nref i)) top1) rfl fun A2 env' g2 e1 e2 e3 e4 => ?_))))))))
    obtain ⟨t, hte, hend'⟩ := hend
    have so : setX (J F (rx A2 (W ++ [(at_, rawS x)]) m O) r) (nref (topI (A.items ++ [(A.nodes.length : Int)]))) (.int 5) (.int (-1)) = some (J F (rx { A2 with items := A.items } (W ++ [(at_, rawS x)]) m O) r) := by
      have e : A2.top = topI (A.items ++ [(A.nodes.length : Int)]) := congrArg topI g2.items
      rw [← e]
      refine off_top g2.gd.iv.core (g2.items.trans (congrArg (fun i => A.items ++ [i]) ?_))
      rw [e]; exact (ins_top (A := A) (nm := x)).symm
    refine G.asgS E.cI (E.loc e3) E.cI so ?_
    have lt : at_ < at_ + 1 + mm := Nat.lt_of_lt_of_le (Nat.lt_succ_self _) (Nat.le_add_right _ _)
    rcases hend' with rfl | ⟨y, rfl⟩
    · obtain ⟨b1, b2, b3⟩ := raw_eof (m := m) (O := O) K g2 hm hte
      exact G.iteT (E.cmp (E.sub (E.sub (E.loc e1) (E.loc e2) (tok_at tk hte)) E.cI (k0 _)) E.cS rfl) (G.expr (err_ev (w := "unexpected-eof") (m := "text") e4 (g2.gd.errs K (Nat.zero_le _)) (E.tup (EE.cons E.cS (EE.one E.cS)) (Nat.le_of_ble_eq_true rfl)))
        (G.ret (E.loc e2) ⟨_, _, _, rfl, congrArg (J F · r) b3.symm, lt, b1, g2.orig, snoc_drop g2.items, g2.ext, b2⟩))
    · obtain ⟨b1, b2, b3⟩ := raw_fin (m := m) (O := O) K g2 hte
      exact G.iteF (E.cmp (E.sub (E.sub (E.loc e1) (E.loc e2) (tok_at tk hte)) E.cI (k0 _)) E.cS rfl)
        (G.ret (E.add (E.loc e2) E.cI) ⟨_, _, _, rfl, congrArg (J F · r) b3.symm, Nat.lt_succ_of_lt lt, ⟨b1.iv.mono (Nat.le_refl _) (Nat.le_succ _), b1.wish, b1.done, b1.le, b1.scr, b1.wl⟩, g2.orig, snoc_drop g2.items, g2.ext, b2⟩)
  obtain ⟨_, _, h, A', W', at', rfl, rfl, b⟩ := this
  exact ⟨A', W', at', h, b⟩
end
end Mine
end

section
set_option maxRecDepth 100000
set_option genInjectivity false
namespace Mine
noncomputable def RX.offs (X : RX) (l : List Int) : RX := { X with pl := fun i => if (i : Int) ∈ l then -1 else X.pl i }
structure Ran (T : List Tok) (scr : Bool) (A : AB) (W : WL) (at_ : Nat) (A' : AB) (W' : WL) : Prop where
  mode : A'.mode = "in template"
  gd : Gd T scr A' W' T.length 1
  ext : Ext A.nodes A'.nodes
  run : runW (A, W) at_ (T.drop at_) = runW (A', W') T.length (T.drop T.length)
  items : ∃ mo, A'.items = A.items ++ mo
noncomputable def TPost (T : List Tok) (scr : Bool) (F : AB) (r : XSt) (A : AB) (W : WL) (at_ : Nat) (O : List (List Int)) (v : XVal) (st : XSt) : Prop := ∃ A' W' O' at' m', v = .int (at' : Nat) ∧ st = J F (rx A' W' m' O') r ∧ (∃ more, O' = O ++ more) ∧ ((m' = "" ∧ Back T scr A W at_ A' W' at' 1) ∨ (m' = "in template" ∧ at' = T.length ∧ Ran T scr A W at_ A' W'))
noncomputable def TSpec (T : List Tok) (scr : Bool) (F : AB) (ti : Nat) (r : XSt) (n at_ : Nat) : Prop := ∀ (A : AB) (W : WL) (s : Nat) (O : List (List Int)) (sl : Bool), Gd T scr A W at_ s → s ≤ 2 → A.mode ≠ "text" → A.mode ≠ "in head noscript" → T[at_]? = some (.start "template" sl) →
  Cl n "_law_read_template" [.ref 30 ti, .int at_, .ref 22 0, nref A.top] (J F (rx A W "" O) r) (TPost T scr F r A W at_ O)
section
variable {A A' B F : AB} {T : List Tok} {scr sl : Bool} {at_ s n k c ti i j : Nat} {t : Tok} {W W' : WL} {m x m0 u : String} {O : List (List Int)} {r : XSt} {X : RX} {env : XEnv} {l : List Int} {ns : List String} {nd : Nd}
theorem push26 : (J F X r).push 26 (.list (l.map nref)) = J F { X with O := X.O ++ [l] } r := (J_push (l := X.O.map fun l => .list (l.map nref)) rfl rfl rfl).trans (by rw [map_snoc (fun l : List Int => XObj.list (l.map nref))]; rfl)
theorem set26 : (J F X r).set 26 i (.list (l.map nref)) = J F { X with O := X.O.set i l } r := (J_set (l := X.O.map fun l => .list (l.map nref)) rfl rfl rfl).trans (by rw [← List.map_set (f := fun l : List Int => XObj.list (l.map nref))]; rfl)
theorem len26 : (J F X r 26).length = X.O.length := List.length_map ..
theorem k_26 (h : X.O[i]? = some l) : (J F X r 26)[i]? = some (.list (l.map nref)) := by
  show (X.O.map _)[i]? = _
  rw [List.getElem?_map, h]; rfl
noncomputable def AtN (X : RX) (a : Int) (nm : String) : Prop := ∃ (j : Nat) (nd : Nd), a = j ∧ X.nodes[j]? = some nd ∧ nd.kind ≠ "fragment" ∧ nd.name = nm
theorem comp_names (h : X.O[i]? = some l) (hl : All2 (AtN X) l ns) : CS n env "node" (.sub (.loc "node") (.cI 2)) (IL 26 i 0) (J F X r) (ns.map .str) (J F X r) := by
  have go : ∀ (q : List Int) (ns : List String), All2 (AtN X) q ns → ∀ k, l.drop k = q → CS n env "node" (.sub (.loc "node") (.cI 2)) (IL 26 i k) (J F X r) (ns.map .str) (J F X r) := fun q ns hq => by
    induction hq with
    | nil => exact fun k hk => .done (L.end (getL_at (k_26 h)) (by rw [List.getElem?_map, List.getElem?_eq_none (List.drop_eq_nil_iff.mp hk)]; rfl))
    | @cons a nm q ns a1 b ih =>
      intro k hk
      have hk := drop_cons hk
      obtain ⟨j, nd, rfl, h1, h2, h3⟩ := a1
      exact .item (L.item (v := nref j) (getL_at (k_26 h)) (by rw [List.getElem?_map, hk.1]; rfl)) (E.sub (E.loc rfl) E.cI (sub_nd (k := 2) h1 h2 (congrArg (fun s => some (XVal.str s)) h3))) (ih (k + 1) hk.2)
  exact go l ns hl 0 rfl
theorem offs_nil : X.offs [] = X := congrArg (fun pl => RX.mk X.nodes pl X.errors X.frameOk X.original X.tc X.W X.tmode X.O) (funext fun i => if_neg fun z => nomatch z)
theorem offs_snoc {a : Nat} : (X.offs l).off a = X.offs (l ++ [(a : Int)]) := congrArg (fun pl => RX.mk X.nodes pl X.errors X.frameOk X.original X.tc X.W X.tmode X.O) (funext fun i => by
  show (if i = a then -1 else if (i : Int) ∈ l then -1 else X.pl i) = if (i : Int) ∈ l ++ [(a : Int)] then -1 else X.pl i
  by_cases h1 : i = a
  · rw [if_pos h1, if_pos (h1 ▸ List.mem_append_right _ (.head _))]
  · rw [if_neg h1]
    by_cases h2 : (i : Int) ∈ l
    · rw [if_pos h2, if_pos (List.mem_append_left _ h2)]
    · rw [if_neg h2, if_neg fun z : (i : Int) ∈ l ++ [(a : Int)] => (List.mem_append.mp z).elim h2 fun z => h1 (Int.ofNat.inj (List.mem_singleton.mp z))])
theorem off_loop {Q : XFlow → XEnv → XSt → Prop} : ∀ (l pre : List Int) (env : XEnv), (∀ a ∈ l, ∃ nm, AtN X a nm) → X.O[i]? = some (pre ++ l) → (∀ env', (∀ y, y ≠ "node" → env' y = env y) → Q .next env' (J F (X.offs (pre ++ l)) r)) →
    Bf n "node" (IL 26 i pre.length) (.cons (.asgS (.loc "node") (.cI 5) (.cI (-1))) .nil) env (J F (X.offs pre) r) Q := by
  intro l
  induction l with
  | nil =>
    intro pre env _ hO hQ
    rw [List.append_nil] at hO hQ
    exact L.stop (getL_at (k_26 (X := X.offs pre) hO)) (List.getElem?_eq_none (by rw [List.length_map]; exact Nat.le_refl _)) (hQ env fun _ _ => rfl)
  | cons a l ih =>
    intro pre env ha hO hQ
    obtain ⟨nm, j, nd, rfl, h1, h2, _⟩ := ha a (.head _)
    have e : pre ++ (j : Int) :: l = (pre ++ [(j : Int)]) ++ l := by rw [List.append_assoc]; rfl
    rw [e] at hO hQ
    have so : setX (J F (X.offs pre) r) (nref j) (.int 5) (.int (-1)) = some (J F (X.offs (pre ++ [(j : Int)])) r) := by
      rw [← offs_snoc]; exact set_off5 (X := X.offs pre) h1 h2
    refine L.turn (v := nref j) (getL_at (k_26 (X := X.offs pre) hO)) ?_ (G.asgS E.cI (E.loc rfl) E.cI so (G.fin ?_))
    · rw [← e, List.getElem?_map, List.getElem?_append_right (Nat.le_refl _), Nat.sub_self]; rfl
    · have := ih (pre ++ [(j : Int)]) (upd env "node" (nref j)) (fun b hb => ha b (.tail _ hb)) hO fun env' h => hQ env' fun y hy => (h y hy).trans (if_neg hy)
      rw [len_snoc] at this; exact this
theorem headN_html (h : forHeadT t = true) : htmlT t = false ∧ endNsT t = false := by
  cases t with
  | start x s => exact ⟨decide_eq_false (headN_ne (of_decide_eq_true h)).2, rfl⟩
  | fin x => exact nomatch h
  | _ => exact ⟨rfl, rfl⟩
theorem plain_taken (hb : A.mode = "in head" ∨ A.mode = "in head noscript" ∨ A.mode = "in template" ∨ A.mode = "after head") (ht : takesT t = true) (hns : A.mode = "in head noscript" → forHeadT t = true) : plainA A t = takenA A t := by
  have hh : headA A t = takenA A t := by
    cases t with
    | fin x => obtain rfl : x = "template" := of_decide_eq_true ht; rfl
    | start x s =>
      have hne : x ≠ "html" := (List.mem_append.mp (of_decide_eq_true ht : x ∈ voids ++ raws)).elim (fun z => (voids_ne z).2.1) fun z => (raws_ne z).1
      exact (if_neg hne).trans (if_pos ht)
    | _ => exact nomatch ht
  unfold plainA
  rcases hb with z | z | z | z
  · rw [if_pos z, hh]
  · obtain ⟨e1, e2⟩ := headN_html (hns z)
    rw [if_neg (by rw [z]; decide), if_pos z]
    unfold noscriptA
    rw [e1, e2, hns z]
    exact hh
  · rw [if_neg (by rw [z]; decide), if_neg (by rw [z]; decide), if_pos z]; exact if_pos ht
  · rw [if_neg (by rw [z]; decide), if_neg (by rw [z]; decide), if_neg (by rw [z]; decide)]; exact if_pos ht
theorem Gd.one (g : Gd T scr A W at_ 0) : Gd T scr A W at_ 1 := ⟨g.iv.mono (Nat.le_refl _) (Nat.le_succ _), g.wish, g.done, g.le, g.scr, g.wl⟩
theorem void_ev (h : env "token" = some (tokV (.start x sl))) : EV (n + 1) env (J F X r) (.cmp .inn (.sub (.loc "token") (.cI 1)) (.call "_law_voids" .nil)) (.bool (decide (x ∈ voids))) (J F X r) :=
  E.drop (E.inS (l := voids) (E.sub (E.loc h) E.cI rfl) (E.to (E.call EE.nil (voids_ok 0)) (over_push (b := bL F) (l := []) rfl)) rfl) (dropL (.bool _))
theorem taken_r (K : TOK T scr) (H : TSpec T scr F ti r (c + 4) at_) (g : Gd T scr A W at_ s) (hs : s ≤ 2) (hm : A.mode ≠ "text") (tk : Toks T ti r) (ht : T[at_]? = some t) (htk : takesT t = true) (hns : A.mode = "in head noscript" → forHeadT t = true) (hin : A.mode = "in template" → ∀ x, t ≠ .fin x) :
    Cl (c + 5) "_law_read_taken" [.ref 30 ti, .int at_, .ref 22 0, nref A.top, .str A.mode] (J F (rx A W "" O) r) (TPost T scr F r A W at_ O) := by
  have hl := (List.getElem?_eq_some_iff.mp ht).1
  have hb := base_mode g.iv hm
  have hpl : plainA (ack0 A) t = takenA (ack0 A) t := plain_taken (A := ack0 A) hb htk hns
  have st : stepA A t = (takenA (ack0 A) t).slash t := by rw [step_eq (g.done hl), proc_plain (A := ack0 A) hm, hpl]
  have g1 := g.step K hs ht
  refine G.enter (fn := f__law_read_taken) rfl rfl (G.asg (E.sub (E.loc rfl) (E.loc rfl) (tok_at tk ht)) ?_)
  cases t with
  | fin x =>
    obtain rfl : x = "template" := of_decide_eq_true htk
    have hcl : closeA (ack0 A) = (ack0 A).err "unexpected-end-tag" := by
      obtain ⟨ns, s1, s2, _⟩ := g.iv.shape
      have hbb := s2.base hm
      have nt : "template" ∉ ns := by
        rcases hb with z | z | z | z
        · rw [z] at hbb; rw [hbb.ofHead]; decide
        · exact nomatch hns z
        · exact absurd rfl (hin z _)
        · rw [z] at hbb; rw [hbb.ofAfter]; decide
      unfold closeA; rw [show splitT (ack0 A) (ack0 A).items.reverse = none from split_no (A := ack0 A) s1 nt]; rfl
    have st' : stepA A (.fin "template") = (ack0 A).err "unexpected-end-tag" := by rw [st, slash_no rfl]; exact hcl
    have sw : stepW (A, W) at_ (.fin "template") = (((ack0 A).err "unexpected-end-tag").w0, W) := by rw [stepW_no (by rw [st']; exact g.wish), st']
    rw [sw] at g1
    exact G.iteT (E.kind (t := .fin "template") rfl rfl) (G.expr (err_ev (X := rx A W "" O) (w := "unexpected-end-tag") (m := A.mode) rfl (g.errs K hs) (E.tup (EE.cons E.cS (EE.one (E.loc rfl))) (Nat.le_of_ble_eq_true rfl)))
      (G.ret (E.add (E.loc rfl) E.cI) ⟨((ack0 A).err "unexpected-end-tag").w0, W, O, at_ + 1, "", rfl, rfl, ⟨[], (List.append_nil O).symm⟩, .inl ⟨rfl, Nat.lt_succ_self _, g1.one, rfl, rfl, Ext.refl _, by rw [run_at ht, sw]⟩⟩))
  | start x sl =>
    refine G.iteF (E.kind (t := .start x sl) rfl rfl) (G.iteD (P := x ∈ voids) (void_ev rfl) (fun hx => ?_) fun hx => ?_)
    · have e1 : takenA (ack0 A) (.start x sl) = { (ack0 A).ins x with items := A.items, ack := true } := if_pos hx
      have st' : stepA A (.start x sl) = { (ack0 A).ins x with items := A.items, ack := true } := by
        rw [st, e1]; exact if_neg (by rw [Bool.not_true, Bool.and_false]; exact Bool.false_ne_true)
      have sw : stepW (A, W) at_ (.start x sl) = (({ (ack0 A).ins x with items := A.items, ack := true } : AB).w0, W) := by rw [stepW_no (by rw [st']; exact (addElem_same AB.wish rfl rfl).trans g.wish), st']
      rw [sw] at g1
      exact G.expr (E.call (EE.cons (E.loc rfl) (EE.cons E.cS (EE.cons (E.sub (E.loc rfl) E.cI rfl) (EE.cons (E.sub (E.loc rfl) E.cI rfl) (EE.cons E.cS (EE.one E.cI)))))) (r_void (A := ack0 A) (b := true) g.core0 (Nat.le_trans (g.n690 K) (by decide))))
        (G.ret (E.add (E.loc rfl) E.cI) ⟨({ (ack0 A).ins x with items := A.items, ack := true } : AB).w0, W, O, at_ + 1, "", rfl, rfl, ⟨[], (List.append_nil O).symm⟩, .inl ⟨rfl, Nat.lt_succ_self _, g1.one, addElem_same AB.mode rfl rfl, rfl, ext_ins (A := ack0 A) x, by rw [run_at ht, sw]⟩⟩)
    · refine G.iteD (P := x = "template") (E.cmp (E.sub (E.loc rfl) E.cI rfl) E.cS rfl) (fun hxt => ?_) fun hxt => ?_
      · have hm2 : A.mode ≠ "in head noscript" := fun z => absurd (of_decide_eq_true (show decide (x ∈ headN) = true from hns z)) (by rw [hxt]; decide)
        obtain ⟨v, st2, c1, c2⟩ := H A W s O sl g hs hm hm2 (hxt ▸ ht)
        exact G.ret (E.call (EE.cons (E.loc rfl) (EE.cons (E.loc rfl) (EE.cons (E.loc rfl) (EE.one (E.loc rfl))))) c1) c2
      · have hr : x ∈ raws := (List.mem_append.mp (of_decide_eq_true htk : x ∈ voids ++ raws)).resolve_left hx
        have e1 : takenA (ack0 A) (.start x sl) = rawA (ack0 A) x := (if_neg hx).trans (if_neg hxt)
        obtain ⟨A', W', at', c1, c3⟩ := raw_r (F := F) (r := r) (m := "") (O := O) (c := c) K g hs hm tk ht (.inl ((by decide : ∀ x ∈ raws, x ≠ "template" → x ∈ (["title", "style", "script", "noframes"] : List String)) x hr hxt)) (hpl.trans e1)
        exact G.ret (E.call (EE.cons (E.loc rfl) (EE.cons (E.loc rfl) (EE.cons (E.loc rfl) (EE.cons (E.loc rfl) (EE.one (E.loc rfl)))))) c1) ⟨A', W', O, at', "", rfl, rfl, ⟨[], (List.append_nil O).symm⟩, .inl ⟨rfl, c3⟩⟩
  | _ => exact nomatch htk
end
end Mine
end

section
set_option maxRecDepth 100000
set_option genInjectivity false
namespace Mine
structure TI (A : AB) (O O0 : List (List Int)) (base opens : List Int) (bs lis : List String) (m0 : String) : Prop where
  mode : A.mode = "in template"
  items : A.items = base ++ opens
  o : ∃ more, O = O0 ++ opens :: more
  names : Nams A opens.reverse (lis ++ ["template"])
  li : ∀ n ∈ lis, n = "li" ∨ n = "div"
  bn : Nams A base.reverse bs
  bm : resetM bs = m0
  ne : opens ≠ []
structure TC (T : List Tok) (scr : Bool) (N : List Nd) (R : AB × WL) (O0 : List (List Int)) (A : AB) (W : WL) (O : List (List Int)) (at_ : Nat) : Prop where
  gd : Gd T scr A W at_ 1
  ext : Ext N A.nodes
  run : runW (A, W) at_ (T.drop at_) = R
  o : ∃ more, O = O0 ++ more
section
variable {A A' B F : AB} {T : List Tok} {scr sl : Bool} {at_ s n k c ti i j : Nat} {t : Tok} {W W' : WL} {m x m0 u : String} {O O' O0 : List (List Int)} {r : XSt} {X : RX} {env : XEnv} {base opens l is lw : List Int} {bs lis ns : List String} {nd : Nd} {t0 : Int} {N : List Nd} {R : AB × WL}
theorem NamL.ext {l l' : List Nd} {i : Int} {nm : String} (h : NamL l i nm) (x : Ext l l') : NamL l' i nm :=
  let ⟨nd, ⟨j, e, h1⟩, h2⟩ := h.is; let ⟨t, ht⟩ := x j nd h1; ⟨_, ⟨j, e, ht⟩, h2⟩
theorem TI.get (h : TI A O O0 base opens bs lis m0) : O[O0.length]? = some opens := by
  obtain ⟨more, rfl⟩ := h.o
  rw [List.getElem?_append_right (Nat.le_refl _), Nat.sub_self]; rfl
theorem TI.last (h : TI A O O0 base opens bs lis m0) : ∃ l, opens = l ++ [A.top] := by
  rcases List.eq_nil_or_concat opens with z | ⟨l, a, e⟩
  · exact absurd z h.ne
  · rw [List.concat_eq_append] at e
    refine ⟨l, e.trans (congrArg (fun i => l ++ [i]) ?_)⟩
    unfold AB.top
    rw [h.items, e, ← List.append_assoc, List.getLast?_append]; rfl
theorem All2.left {α β : Type} {R : α → β → Prop} {l : List α} {m : List β} (h : All2 R l m) : ∀ a ∈ l, ∃ b, R a b := by
  induction h with
  | nil => exact fun a h => nomatch h
  | cons a b ih => exact fun x hx => (List.mem_cons.mp hx).elim (fun e => ⟨_, e ▸ a⟩) (ih x)
theorem split_li2 (h : Nams A is lis) (ht : Nam A t0 "template") : (∀ n ∈ lis, n = "li" ∨ n = "div") → splitT A (is ++ t0 :: lw) = some (is, lw) := by
  induction h with
  | nil => exact fun _ => if_pos (nameI_of ht)
  | @cons i x is lis a b ih =>
    intro h
    show (if nameI A i = "template" then _ else (splitT A (is ++ t0 :: lw)).map _) = _
    rw [nameI_of a, if_neg (by rcases h x (.head _) with z | z <;> rw [z] <;> decide), ih fun n hn => h n (.tail _ hn)]; rfl
theorem TI.names' (h : TI A O O0 base opens bs lis m0) : Nams A opens ("template" :: lis.reverse) := by
  have h1 := h.names.rev
  rw [List.reverse_reverse, List.reverse_append] at h1; exact h1
theorem TI.parts (h : TI A O O0 base opens bs lis m0) : ∃ t0 rest, opens = t0 :: rest ∧ Nams A rest.reverse lis ∧ Nam A t0 "template" := by
  have h1 := h.names'
  cases h1 with
  | @cons t0 _ rest _ a b => exact ⟨t0, rest, rfl, List.reverse_reverse lis ▸ Nams.rev b, a⟩
theorem closeA_TI (h : TI A O O0 base opens bs lis m0) : closeA A = { A with items := base, fitems := A.fitems.dropLast, modes := A.modes.dropLast, mode := m0, errors := if "div" ∈ lis then A.errors ++ [("open-elements", A.mode)] else A.errors } := by
  obtain ⟨t0, rest, rfl, h1, h2⟩ := h.parts
  have e1 : A.items.reverse = rest.reverse ++ t0 :: base.reverse := by rw [h.items, List.reverse_append, List.reverse_cons, List.append_assoc]; rfl
  unfold closeA
  rw [e1, split_li2 h1 h2 h.li]
  show ({ A with items := base.reverse.reverse, fitems := A.fitems.dropLast, modes := A.modes.dropLast, mode := resetM (base.reverse.map (nameI A)), errors := if "div" ∈ rest.reverse.map (nameI A) then A.errors ++ [("open-elements", A.mode)] else A.errors } : AB) = _
  rw [names_of h1, names_of h.bn, h.bm, List.reverse_reverse]
theorem TI.all (h : TI A O O0 base opens bs lis m0) (c : Core A n) : All2 (AtN (rx A W m O)) opens ("template" :: lis.reverse) := by
  have go : ∀ {l : List Int} {ns : List String}, Nams A l ns → (∀ i ∈ l, i ∈ A.items) → All2 (AtN (rx A W m O)) l ns := fun {l ns} hn => by
    induction hn with
    | nil => exact fun _ => .nil
    | cons a b ih =>
      intro hl
      refine .cons ?_ (ih fun i hi => hl i (.tail _ hi))
      obtain ⟨nd, ⟨j, e1, e2⟩, e3, _⟩ := a.is
      obtain ⟨j', nd', f1, f2, f3⟩ := c.els _ (hl _ (.head _))
      obtain rfl : j' = j := Int.ofNat.inj (f1.symm.trans e1)
      have : nd = nd' := Option.some.inj (e2.symm.trans f2)
      exact ⟨j', nd, e1, e2, by rw [this, f3]; decide, e3⟩
  exact go h.names' fun i hi => by rw [h.items]; exact List.mem_append_right _ hi
theorem offs_place (h : TI A O O0 base opens bs lis m0) (c : Core A n) : (fun i : Nat => if (i : Int) ∈ opens then (-1 : Int) else placeI A.items i) = placeI base := by
  funext i
  have hd := (List.pairwise_append.mp (h.items ▸ c.inc)).2.2
  rw [h.items]
  unfold placeI
  by_cases q : (i : Int) ∈ opens
  · rw [if_pos q, if_neg fun z => Int.lt_irrefl _ (hd _ z _ q)]
  · rw [if_neg q]
    by_cases z : (i : Int) ∈ base
    · rw [if_pos (List.mem_append_left _ z), if_pos z, List.idxOf_append, if_pos z]
    · rw [if_neg z, if_neg fun y => (List.mem_append.mp y).elim z q]
theorem TI.same (I : TI A O O0 base opens bs lis m0) (hm : A'.mode = A.mode) (hi : A'.items = A.items) (x : Ext A.nodes A'.nodes) {more : List (List Int)} (hO : O' = O ++ more) : TI A' O' O0 base opens bs lis m0 :=
  ⟨hm.trans I.mode, hi.trans I.items, let ⟨q, e⟩ := I.o; ⟨q ++ more, by rw [hO, e, List.append_assoc]; rfl⟩, I.names.mono fun _ _ q => q.ext x, I.li, I.bn.mono fun _ _ q => q.ext x, I.bm, I.ne⟩
theorem tclose_b (K : TOK T scr) (I : TI A O O0 base opens bs lis m0) (g : Gd T scr A W j s) (hs : s ≤ 2) (ht : T[j]? = some (.fin "template")) : stepW (A, W) j (.fin "template") = ((closeA (ack0 A)).w0, W) ∧ Gd T scr (closeA (ack0 A)).w0 W (j + 1) 1 ∧ 1 ≤ A.modes.length := by
  have hl := (List.getElem?_eq_some_iff.mp ht).1
  have hm : A.mode ≠ "text" := by rw [I.mode]; decide
  have hpl : plainA (ack0 A) (.fin "template") = closeA (ack0 A) := plain_taken (A := ack0 A) (.inr (.inr (.inl I.mode))) rfl (fun z => absurd (I.mode.symm.trans z) (by decide))
  have st : stepA A (.fin "template") = closeA (ack0 A) := by rw [step_eq (g.done hl), proc_plain (A := ack0 A) hm, hpl, slash_no rfl]
  have sw : stepW (A, W) j (.fin "template") = ((closeA (ack0 A)).w0, W) := by rw [stepW_no (by rw [st]; exact fok_closeA.2.1.trans g.wish), st]
  refine ⟨sw, ?_, ?_⟩
  · have g1 := g.step K hs ht
    rw [sw] at g1; exact g1.one
  · obtain ⟨ns', s1, s2, s3, _⟩ := g.iv.shape
    rw [s3, List.length_replicate]
    refine List.count_pos_iff.mpr ?_
    have hb := s2.base hm
    rw [I.mode] at hb
    obtain ⟨b1, b2⟩ := hb.low (by decide)
    obtain ⟨inner, low, rfl, _⟩ := b1.inT b2
    exact List.mem_append_right _ (.head _)
noncomputable def cloB : XS := (.cons (.ite (.cmp .inn (.cS "div") (.comp "node" [] (.loc "opens") (.sub (.loc "node") (.cI 2)))) (.cons (.expr (.meth (.sub (.loc "told") (.cS "errors")) "append" (.cons (.tup (.cons (.cS "open-elements") (.cons (.loc "mode") .nil))) .nil))) .nil) .nil)
    (.cons (.forL "node" (.loc "opens") (.cons (.asgS (.loc "node") (.cI 5) (.cI (-1))) .nil)) (.cons (.augS (.loc "told") (.cS "templates") .sub (.cI 1)) (.cons (.ret (.bin .add (.loc "at") (.cI 1))) .nil))))
theorem tclose {ss : XS} {Q : XFlow → XEnv → XSt → Prop} (K : TOK T scr) (I : TI A O O0 base opens bs lis m0) (C : TC T scr N R O0 A W O j) (ht : T[j]? = some (.fin "template")) (e2 : env "at" = some (.int j)) (e3 : env "told" = some (.ref 22 0)) (e4 : env "opens" = some (.ref 26 O0.length)) (e5 : env "mode" = some (.str "in template"))
    (hQ : ∀ A' env', TC T scr N R O0 A' W O (j + 1) → A'.mode = m0 → A'.items = base → Q (.ret (.int ((j + 1 : Nat) : Int))) env' (J F (rx A' W "" O) r)) : Bx k (app cloB ss) env (J F (rx A W "" O) r) Q := by
  obtain ⟨sw, g1, htc⟩ := tclose_b K I C.gd (by decide) ht
  have I0 : TI (ack0 A) O O0 base opens bs lis m0 := ⟨I.mode, I.items, I.o, I.names, I.li, I.bn, I.bm, I.ne⟩
  have hcl := closeA_TI I0
  have hal := I.all (W := W) (m := "") (O := O) C.gd.iv.core
  have hnl : (("template" :: lis.reverse).map XVal.str).length ≤ LIM := by
    rw [List.length_map, ← hal.length]
    refine Nat.le_trans ?_ (Nat.le_trans C.gd.iv.core.len (Nat.le_trans C.gd.iv.core.nodes (Nat.le_trans (C.gd.n690 K) (by decide))))
    rw [I.items, List.length_append]; exact Nat.le_add_left _ _
  have c1 : EV k env (J F (rx A W "" O) r) (.cmp .inn (.cS "div") (.comp "node" [] (.loc "opens") (.sub (.loc "node") (.cI 2)))) (.bool (decide ("div" ∈ "template" :: lis.reverse))) (J F (rx A W "" O) r) :=
    E.drop (E.inS E.cS (E.to (E.comp 0 (E.loc e4) (.inl ⟨26, O0.length, _, rfl, getL_at (k_26 (X := rx A W "" O) I.get), rfl⟩) (comp_names I.get hal) hnl) (over_push (b := bL F) (l := []) rfl)) rfl) (dropL (.bool _))
  have rest : ∀ er : List (String × String), er = (if "div" ∈ lis then A.errors ++ [("open-elements", A.mode)] else A.errors) → Bx k (app (.cons (.forL "node" (.loc "opens") (.cons (.asgS (.loc "node") (.cI 5) (.cI (-1))) .nil)) (.cons (.augS (.loc "told") (.cS "templates") .sub (.cI 1)) (.cons (.ret (.bin .add (.loc "at") (.cI 1))) .nil))) ss) env (J F { rx A W "" O with errors := er } r) Q := fun er her => by
    have lp := off_loop (F := F) (r := r) (n := k) (X := { rx A W "" O with errors := er }) (Q := Aft (fun env' st' => Bx k (app (.cons (.augS (.loc "told") (.cS "templates") .sub (.cI 1)) (.cons (.ret (.bin .add (.loc "at") (.cI 1))) .nil)) ss) env' st' Q) Q) opens [] env hal.left I.get fun env' q3 => ?_
    · rw [offs_nil] at lp
      exact G.forL (E.loc e4) (getL_at (k_26 (X := { rx A W "" O with errors := er }) I.get)) lp
    · have e2' : env' "at" = some (.int j) := (q3 _ (by decide)).trans e2
      have e3' : env' "told" = some (.ref 22 0) := (q3 _ (by decide)).trans e3
      obtain ⟨q, hq⟩ := Nat.exists_eq_add_of_le htc
      refine G.augS (.inr rfl) (E.loc e3') E.cS rfl E.cI ((congrArg (setX _ _ _) (congrArg XVal.int (?_ : (A.modes.length : Int) - 1 = ((A.modes.length - 1 : Nat) : Int)))).trans set_tc) (G.ret (E.add (E.loc e2') E.cI) ?_)
      · rw [hq, Nat.add_comm, sub1, Nat.add_sub_cancel]
      · have eX : { ({ rx A W "" O with errors := er } : RX).offs ([] ++ opens) with tc := A.modes.length - 1 } = rx (closeA (ack0 A)).w0 W "" O := by
          rw [hcl]
          show RX.mk A.nodes (fun i : Nat => if (i : Int) ∈ opens then (-1 : Int) else placeI A.items i) er _ _ _ _ _ _ = RX.mk A.nodes (placeI base) _ _ _ (A.modes.dropLast.length) _ _ _
          rw [offs_place I C.gd.iv.core, her, List.length_dropLast]; rfl
        rw [show ((J F { ({ rx A W "" O with errors := er } : RX).offs ([] ++ opens) with tc := A.modes.length - 1 } r)) = _ from congrArg (J F · r) eX]
        refine hQ (closeA (ack0 A)).w0 env' ⟨g1, ?_, by rw [← C.run, run_at ht, sw], C.o⟩ ?_ ?_
        · rw [hcl]; exact C.ext
        · rw [hcl]; rfl
        · rw [hcl]; rfl
  have hdiv : ("div" ∈ "template" :: lis.reverse) ↔ "div" ∈ lis := ⟨fun z => (List.mem_cons.mp z).elim (fun z => absurd z (by decide)) List.mem_reverse.mp, fun z => .tail _ (List.mem_reverse.mpr z)⟩
  refine G.iteD c1 (fun q => ?_) fun q => ?_
  · exact G.expr (err_ev (X := rx A W "" O) (w := "open-elements") (m := "in template") e3 (C.gd.errs K (by decide)) (E.tup (EE.cons E.cS (EE.one (E.loc e5))) (Nat.le_of_ble_eq_true rfl))) (rest (A.errors ++ [("open-elements", "in template")]) (by rw [if_pos (hdiv.mp q), I.mode]))
  · exact rest A.errors (by rw [if_neg fun z => q (hdiv.mpr z)])
end
end Mine
end

section
set_option maxRecDepth 100000
set_option genInjectivity false
namespace Mine
noncomputable def tailB : XS := (.cons (.expr (.call "_law_slash" (.cons (.loc "told") (.cons (.loc "token") (.cons (.loc "mode") .nil))))) (.cons (.aug "at" .add (.cI 1)) .nil))
noncomputable def tTest : XE := .cmp .lt (.loc "at") (.len (.loc "tokens"))
noncomputable def subB : XS := (.cons (.ite (.and (.cmp .eq (.sub (.loc "token") (.cI 0)) (.cS "start")) (.cmp .inn (.sub (.loc "token") (.cI 1)) (.list (.cons (.cS "li") (.cons (.cS "div") .nil))))) (.cons (.expr (.meth (.loc "opens") "append" (.cons (.call "_law_add" (.cons (.loc "holder") (.cons (.cS "element") (.cons (.sub (.loc "token") (.cI 1)) (.cons (.sub (.loc "token") (.cI 2)) (.cons (.cS "") (.cons (.bin .add (.sub (.loc "holder") (.cI 5)) (.cI 1)) .nil))))))) .nil))) .nil)
    (.cons (.expr (.call "_law_add" (.cons (.loc "holder") (.cons (.cS "comment") (.cons (.cS "") (.cons (.tup .nil) (.cons (.bin .add (.cS "template, in template: ") (.call "_law_word" (.cons (.loc "token") .nil))) (.cons (.cI (-1)) .nil)))))))) .nil)) tailB)
noncomputable def tBody : XS := (.cons (.asg "token" (.sub (.loc "tokens") (.loc "at"))) (.cons (.asg "holder" (.sub (.loc "opens") (.cI (-1))))
    (.cons (.ite (.cmp .eq (.slice (.loc "token") (.cI 2)) (.tup (.cons (.cS "end") (.cons (.cS "template") .nil)))) cloB .nil)
    (.cons (.ite (.call "_law_takes" (.cons (.loc "token") .nil)) (.cons (.asg "at" (.call "_law_read_taken" (.cons (.loc "tokens") (.cons (.loc "at") (.cons (.loc "told") (.cons (.loc "holder") (.cons (.loc "mode") .nil))))))) .nil) subB)
    .nil))))
section
variable {A A' B F : AB} {T : List Tok} {scr sl : Bool} {at_ s n k c ti i j : Nat} {t : Tok} {W W' : WL} {m x m0 u : String} {O O' O0 : List (List Int)} {r : XSt} {X : RX} {env : XEnv} {base opens l is lw : List Int} {bs lis ns : List String} {nd : Nd} {t0 : Int} {N : List Nd} {R : AB × WL}
theorem lt_ev (tk : Toks T ti r) (h1 : env "at" = some (.int j)) (h2 : env "tokens" = some (.ref 30 ti)) {q : Bool} (hq : decide (j < T.length) = q) : EV n env (J F X r) tTest (.bool q) (J F X r) :=
  E.cmp (E.loc h1) (E.len (E.loc h2) (len_L (getL_at tk))) (congrArg some ((decide_eq_decide.mpr (by rw [List.length_map]; exact Int.ofNat_lt)).trans hq))
theorem plain_w (hd : A.done = false) (hm : A.mode ≠ "text") (hB : plainA (ack0 A) t = B) (hw : B.wish = "") : stepW (A, W) j t = ((B.slash t).w0, W) := by
  have st : stepA A t = B.slash t := by rw [step_eq hd, proc_plain (A := ack0 A) hm, hB]
  rw [stepW_no (by rw [st]; exact (slash_same AB.wish rfl).trans hw), st]
theorem tail_ok {Q : XFlow → XEnv → XSt → Prop} (ha : B.ack = false) (hl : B.errors.length < 1000) (e1 : env "told" = some (.ref 22 0)) (e2 : env "token" = some (tokV t)) (e3 : env "mode" = some (.str B.mode)) (e4 : env "at" = some (.int j)) (k : Q .next (upd env "at" (.int ((j + 1 : Nat) : Int))) (J F (rx (B.slash t).w0 W m O) r)) :
    Bx (n + 1) tailB env (J F (rx B W m O) r) Q := by
  have e : (rx B W m O).slash t B.mode = rx (B.slash t).w0 W m O := (rx_slash (B := B) ha).symm
  exact G.expr (E.to (E.call (EE.cons (E.loc e1) (EE.cons (E.loc e2) (EE.one (E.loc e3)))) (slash_ok hl)) (congrArg (J F · r) e)) (G.aug (.inl rfl) e4 E.cI (G.fin k))
theorem TC.next (K : TOK T scr) (C : TC T scr N R O0 A W O j) (ht : T[j]? = some t) (sw : stepW (A, W) j t = ((B.slash t).w0, W)) (x : Ext A.nodes B.nodes) (hO : ∃ more, O' = O0 ++ more) : TC T scr N R O0 (B.slash t).w0 W O' (j + 1) := by
  have g1 := C.gd.step K (by decide) ht
  rw [sw] at g1
  refine ⟨g1.one, C.ext.trans ?_, by rw [← C.run, run_at ht, sw], hO⟩
  show Ext A.nodes (B.slash t).nodes
  rw [slash_same AB.nodes rfl]; exact x
theorem TC.back {at' : Nat} (C : TC T scr N R O0 A W O j) (h : Back T scr A W j A' W' at' 1) (hO : ∃ more, O' = O ++ more) : TC T scr N R O0 A' W' O' at' :=
  ⟨h.gd, C.ext.trans h.ext, h.run.symm.trans C.run, let ⟨a, e1⟩ := C.o; let ⟨b, e2⟩ := hO; ⟨a ++ b, by rw [e2, e1, List.append_assoc]⟩⟩
theorem tloop {j0 : Nat} {Q : XFlow → XEnv → XSt → Prop} (K : TOK T scr) (tk : Toks T ti r) (HS : ∀ i, j0 ≤ i → TSpec T scr F ti r (c + 4) i)
    (hR : ∀ A' W' O' (at' : Nat) env', j0 ≤ at' → TC T scr N R O0 A' W' O' at' → A'.mode = m0 → A'.items = base → Q (.ret (.int at')) env' (J F (rx A' W' "" O') r))
    (hN : ∀ A' W' O' m' env', TC T scr N R O0 A' W' O' T.length → (m' = "" ∨ m' = "in template") → A'.mode = "in template" → (∃ mo, A'.items = base ++ mo) → env' "told" = some (.ref 22 0) → env' "mode" = some (.str "in template") → env' "at" = some (.int T.length) → Q .next env' (J F (rx A' W' m' O') r)) :
    ∀ (M j : Nat) (A : AB) (W : WL) (O : List (List Int)) (env : XEnv) (opens : List Int) (lis : List String), T.length ≤ j + M → j0 ≤ j → TC T scr N R O0 A W O j → TI A O O0 base opens bs lis m0 →
      env "tokens" = some (.ref 30 ti) → env "at" = some (.int j) → env "told" = some (.ref 22 0) → env "opens" = some (.ref 26 O0.length) → env "mode" = some (.str "in template") → Bw (c + 6) tTest tBody env (J F (rx A W "" O) r) Q := by
  intro M
  induction M with
  | zero =>
    intro j A W O env opens lis hM hj C I e1 e2 e3 e4 e5
    obtain rfl : j = T.length := Nat.le_antisymm C.gd.le hM
    exact Mine.W.stop (lt_ev tk e2 e1 (decide_eq_false (Nat.lt_irrefl _))) (hN A W O "" env C (.inl rfl) I.mode ⟨opens, I.items⟩ e3 e5 e2)
  | succ M IH =>
    intro j A W O env opens lis hM hj C I e1 e2 e3 e4 e5
    by_cases hjl : j < T.length
    case neg =>
      obtain rfl : j = T.length := Nat.le_antisymm C.gd.le (Nat.le_of_not_lt hjl)
      exact Mine.W.stop (lt_ev tk e2 e1 (decide_eq_false hjl)) (hN A W O "" env C (.inl rfl) I.mode ⟨opens, I.items⟩ e3 e5 e2)
    have ht : T[j]? = some T[j] := List.getElem?_eq_getElem hjl
    generalize T[j] = t at ht
    have hm : A.mode ≠ "text" := by rw [I.mode]; decide
    have hM' : ∀ {at' : Nat}, j < at' → T.length ≤ at' + M := fun h => Nat.le_trans hM (by rw [← Nat.add_assoc, Nat.add_right_comm]; exact Nat.add_le_add_right h M)
    obtain ⟨l0, hl0⟩ := I.last
    have top : getL (J F (rx A W "" O) r) 26 O0.length = some (l0.map nref ++ [nref A.top]) := (getL_at (k_26 (X := rx A W "" O) I.get)).trans (congrArg some (by rw [hl0, List.map_append]; rfl))
    refine Mine.W.turn (lt_ev tk e2 e1 (decide_eq_true hjl)) (G.asg (E.sub (E.loc e1) (E.loc e2) (tok_at tk ht)) (G.asg (E.sub (E.loc e4) E.cI (sub_last top)) (G.iteB (E.is rfl) (fun hT => ?_) fun hT => ?_)))
    · exact tclose K I C (is_end hT ▸ ht) e2 e3 e4 e5 fun A' env' C' h1 h2 => hR A' W O (j + 1) env' (Nat.le_succ_of_le hj) C' h1 h2
    refine G.iteB (E.call (EE.one (E.loc rfl)) takes_ok) (fun htk => ?_) fun htk => ?_
    · have hin : A.mode = "in template" → ∀ x, t ≠ .fin x := fun _ x z => by
        subst z
        rw [is_fin] at hT
        exact absurd (of_decide_eq_true htk : x = "template") (of_decide_eq_false hT)
      have tr := taken_r (F := F) (c := c) (O := O) K (HS j hj) C.gd (by decide) hm tk ht htk (fun z => absurd (I.mode.symm.trans z) (by decide)) hin
      rw [I.mode] at tr
      obtain ⟨v, st2, c1, A', W', O', at', m', rfl, rfl, ⟨more, hmo⟩, hc⟩ := tr
      refine G.asg (E.call (EE.cons (E.loc e1) (EE.cons (E.loc e2) (EE.cons (E.loc e3) (EE.cons (E.loc rfl) (EE.one (E.loc e5)))))) c1) (G.fin ?_)
      rcases hc with ⟨rfl, b⟩ | ⟨rfl, rfl, b⟩
      · exact IH at' A' W' O' _ opens lis (hM' b.lt) (Nat.le_trans hj (Nat.le_of_lt b.lt)) (C.back b ⟨more, hmo⟩) (I.same b.mode b.items b.ext hmo) e1 rfl e3 e4 e5
      · refine Mine.W.stop (lt_ev (env := upd (upd (upd env "token" (tokV t)) "holder" (nref A.top)) "at" (.int T.length)) tk rfl e1 (decide_eq_false (Nat.lt_irrefl _))) (hN A' W' O' "in template" _ ⟨b.gd, C.ext.trans b.ext, b.run.symm.trans C.run, ?_⟩ (.inr rfl) b.mode ?_ e3 e5 rfl)
        · obtain ⟨q, e⟩ := C.o; exact ⟨q ++ more, by rw [hmo, e, List.append_assoc]⟩
        · obtain ⟨mo, e⟩ := b.items; exact ⟨opens ++ mo, by rw [e, I.items, List.append_assoc]⟩
    · have hcore := C.gd.core0
      have n899 : 3 + 2 * j ≤ 899 := Nat.le_trans (C.gd.n690 K) (by decide)
      have hl := C.gd.errs K (by decide)
      have hpl : plainA (ack0 A) t = templateA (ack0 A) t := by
        have : (ack0 A).mode = "in template" := I.mode
        unfold plainA
        rw [this]; rfl
      refine G.iteB (sub_ev rfl) (fun hs => ?_) fun hs => ?_
      · obtain ⟨y, sl, rfl⟩ := sub_of hs
        have hy : y = "li" ∨ y = "div" := (List.mem_cons.mp (of_decide_eq_true hs : y ∈ (["li", "div"] : List String))).imp id List.mem_singleton.mp
        have hB : plainA (ack0 A) (.start y sl) = (ack0 A).ins y := hpl.trans ((if_neg (by rw [htk]; exact Bool.false_ne_true)).trans (if_pos hs))
        have sw := plain_w (W := W) (j := j) (C.gd.done hjl) hm hB ((addElem_same AB.wish rfl rfl).trans C.gd.wish)
        obtain ⟨q, hq⟩ := C.o
        obtain ⟨q, hq⟩ := I.o
        have hOs : O.set O0.length (opens ++ [(A.nodes.length : Int)]) = O0 ++ (opens ++ [(A.nodes.length : Int)]) :: q := by rw [hq, List.set_append_right _ _ (Nat.le_refl _), Nat.sub_self]; rfl
        have hop : opens.length < LIM := Nat.lt_of_le_of_lt (Nat.le_trans (by rw [I.items, List.length_append]; exact Nat.le_add_left _ _) (Nat.le_trans C.gd.iv.core.len (Nat.le_trans C.gd.iv.core.nodes n899))) (by decide)
        have apd : (J F (rx ((ack0 A).ins y) W "" O) r).set 26 O0.length (.list (opens.map nref ++ [nref ((ack0 A).ins y).top])) = J F (rx ((ack0 A).ins y) W "" (O.set O0.length (opens ++ [(A.nodes.length : Int)]))) r := by
          have := set26 (F := F) (X := rx ((ack0 A).ins y) W "" O) (r := r) (i := O0.length) (l := opens ++ [(A.nodes.length : Int)])
          rw [List.map_append] at this
          rw [ins_top]; exact this
        have md : ((ack0 A).ins y).mode = "in template" := (addElem_same AB.mode rfl rfl : ((ack0 A).ins y).mode = (ack0 A).mode).trans I.mode
        refine G.expr (E.to (E.append (E.loc e4) (k_26 (X := rx A W "" O) I.get) (E.call (EE.cons (E.loc rfl) (EE.cons E.cS (EE.cons (E.sub (E.loc rfl) E.cI rfl) (EE.cons (E.sub (E.loc rfl) E.cI rfl) (EE.cons E.cS (EE.one (up5 (A := ack0 A) hcore rfl))))))) (r_ins (A := ack0 A) hcore n899)) (k_26 (X := rx ((ack0 A).ins y) W "" O) I.get) (by rw [List.length_map]; exact hop)) apd) ?_
        refine tail_ok (B := (ack0 A).ins y) (addElem_same AB.ack rfl rfl) ((congrArg List.length (addElem_same AB.errors rfl rfl : ((ack0 A).ins y).errors = A.errors)).symm ▸ hl) e3 rfl (e5.trans (congrArg (fun s => some (XVal.str s)) md.symm)) e2 ?_
        have x1 : Ext A.nodes ((((ack0 A).ins y).slash (.start y sl)).w0).nodes := by
          show Ext A.nodes (((ack0 A).ins y).slash (.start y sl)).nodes
          rw [slash_same AB.nodes rfl]; exact ext_ins (A := ack0 A) y
        refine IH (j + 1) _ W _ _ (opens ++ [(A.nodes.length : Int)]) (y :: lis) (hM' (Nat.lt_succ_self _)) (Nat.le_succ_of_le hj) (C.next K ht sw (ext_ins (A := ack0 A) y) ⟨_, hOs⟩) ⟨(slash_same AB.mode rfl).trans md, (slash_same AB.items rfl).trans ?_, ⟨q, hOs⟩, ?_, fun z hz => (List.mem_cons.mp hz).elim (fun e => e ▸ hy) (I.li z), I.bn.mono fun _ _ q => q.ext x1, I.bm, List.append_ne_nil_of_right_ne_nil _ (List.cons_ne_nil _ _)⟩ e1 rfl e3 e4 e5
        · show A.items ++ _ = _; rw [I.items, List.append_assoc]; rfl
        · rw [List.reverse_append]
          refine .cons ?_ (I.names.mono fun _ _ q => q.ext x1)
          show NamL (((ack0 A).ins y).slash (.start y sl)).nodes _ _
          rw [slash_same AB.nodes rfl]; exact nam_new (A := ack0 A)
      · have hsm := K.small j t ht
        have hB : plainA (ack0 A) t = wordA (ack0 A) "template, " t := hpl.trans ((if_neg (by rw [htk]; exact Bool.false_ne_true)).trans (if_neg (by rw [hs]; exact Bool.false_ne_true)))
        have eB : wordA (ack0 A) "template, " t = { (ack0 A).com ("template, in template: " ++ wordT t) with done := eofT t } := by
          unfold wordA
          rw [show (ack0 A).mode = "in template" from I.mode]; rfl
        have sw := plain_w (W := W) (j := j) (C.gd.done hjl) hm (hB.trans eB) C.gd.wish
        have x0 : Ext A.nodes ((ack0 A).com ("template, in template: " ++ wordT t)).nodes := com_nodes (A := ack0 A) _ ▸ Ext.app _ _
        refine G.expr (E.call (EE.cons (E.loc rfl) (EE.cons E.cS (EE.cons E.cS (EE.cons (E.tup .nil (Nat.zero_le _)) (EE.cons (E.cat E.cS (E.call (EE.one (E.loc rfl)) (word_ok (Nat.le_trans hsm.word (by decide)))) (Nat.le_trans (Nat.add_le_add (show 23 ≤ 23 by decide) hsm.word) (by decide))) (EE.one E.cI)))))) (r_com (A := ack0 A) hcore n899)) ?_
        refine tail_ok (B := { (ack0 A).com ("template, in template: " ++ wordT t) with done := eofT t }) rfl hl e3 rfl (e5.trans (congrArg (fun s => some (XVal.str s)) I.mode.symm)) e2 ?_
        have x1 : Ext A.nodes ((({ (ack0 A).com ("template, in template: " ++ wordT t) with done := eofT t } : AB).slash t).w0).nodes := by
          show Ext A.nodes (({ (ack0 A).com ("template, in template: " ++ wordT t) with done := eofT t } : AB).slash t).nodes
          rw [slash_same AB.nodes rfl]; exact x0
        exact IH (j + 1) _ W O _ opens lis (hM' (Nat.lt_succ_self _)) (Nat.le_succ_of_le hj) (C.next K ht sw x0 C.o) (I.same (slash_same AB.mode rfl) (slash_same AB.items rfl) x1 (List.append_nil O).symm) e1 rfl e3 e4 e5
end
end Mine
end

section
set_option maxRecDepth 100000
set_option genInjectivity false
namespace Mine
section
variable {A A' B F : AB} {T : List Tok} {scr sl : Bool} {at_ s n k c ti i j : Nat} {t : Tok} {W W' : WL} {m x m0 u : String} {O O' O0 : List (List Int)} {r : XSt}
theorem topen_b (K : TOK T scr) (g : Gd T scr A W at_ s) (hs : s ≤ 2) (hm : A.mode ≠ "text") (hm2 : A.mode ≠ "in head noscript") (ht : T[at_]? = some (.start "template" sl)) :
    ∃ bs, TC T scr A.nodes (runW (A, W) at_ (T.drop at_)) O ((openA (ack0 A)).slash (.start "template" sl)).w0 W (O ++ [[(A.nodes.length : Int)]]) (at_ + 1) ∧ TI ((openA (ack0 A)).slash (.start "template" sl)).w0 (O ++ [[(A.nodes.length : Int)]]) O A.items [(A.nodes.length : Int)] bs [] A.mode ∧
    RX.slash { rx ((ack0 A).ins "template") W "" (O ++ [[(A.nodes.length : Int)]]) with tc := A.modes.length + 1, frameOk := false } (.start "template" sl) "in template" = rx ((openA (ack0 A)).slash (.start "template" sl)).w0 W "" (O ++ [[(A.nodes.length : Int)]]) := by
  have hl := (List.getElem?_eq_some_iff.mp ht).1
  have hpl : plainA (ack0 A) (.start "template" sl) = openA (ack0 A) := plain_taken (A := ack0 A) (base_mode (A := A) g.iv hm) rfl (fun z => absurd z hm2)
  have sw := plain_w (W := W) (j := at_) (g.done hl) hm hpl ((addElem_same AB.wish rfl rfl).trans g.wish)
  have g1 := g.step K hs ht
  rw [sw] at g1
  have x1 : Ext A.nodes (((openA (ack0 A)).slash (.start "template" sl)).w0).nodes := by
    show Ext A.nodes ((openA (ack0 A)).slash (.start "template" sl)).nodes
    rw [slash_same AB.nodes rfl]; exact ext_ins (A := ack0 A) "template"
  obtain ⟨bs, s1, s2, _⟩ := g.iv.shape
  refine ⟨bs, ⟨g1.one, x1, by rw [run_at ht, sw], ⟨_, rfl⟩⟩, ⟨slash_same AB.mode rfl, slash_same AB.items rfl, ⟨[], rfl⟩, ?_, (fun _ z => nomatch z), s1.mono fun _ _ q => q.ext x1, ((s2.base hm).low hm2).2, List.cons_ne_nil _ _⟩, ?_⟩
  · refine .cons ?_ .nil
    show NamL ((openA (ack0 A)).slash (.start "template" sl)).nodes _ _
    rw [slash_same AB.nodes rfl]; exact nam_new (A := ack0 A)
  · refine Eq.trans ?_ (rx_slash (B := openA (ack0 A)) (m := "") (W := W) (O := O ++ [[(A.nodes.length : Int)]]) (t := .start "template" sl) (addElem_same AB.ack rfl rfl)).symm
    refine congrArg (fun X => RX.slash X _ _) ?_
    show RX.mk _ _ _ _ _ _ _ _ _ = RX.mk _ _ _ _ _ ((A.modes ++ ["in template"]).length) _ _ _
    rw [len_snoc]; rfl
theorem template_r (K : TOK T scr) (tk : Toks T ti r) : ∀ (M at_ : Nat), T.length ≤ at_ + M → TSpec T scr F ti r (2 * M + 10) at_ := by
  intro M
  induction M with
  | zero =>
    intro at_ hM A W s O sl g hs hm hm2 ht
    exact absurd (List.getElem?_eq_some_iff.mp ht).1 (Nat.not_lt_of_le hM)
  | succ M IH =>
    intro at_ hM A W s O sl g hs hm hm2 ht
    obtain ⟨bs, C, I, e⟩ := topen_b (O := O) K g hs hm hm2 ht
    have hl : ((ack0 A).ins "template").errors.length < 1000 := (congrArg List.length (addElem_same AB.errors rfl rfl : ((ack0 A).ins "template").errors = A.errors)).symm ▸ g.errs K hs
    have ps : (J F (rx ((ack0 A).ins "template") W "" O) r).push 26 (.list [nref ((ack0 A).ins "template").top]) = J F (rx ((ack0 A).ins "template") W "" (O ++ [[(A.nodes.length : Int)]])) r := by
      rw [ins_top]; exact push26 (X := rx ((ack0 A).ins "template") W "" O) (l := [(A.nodes.length : Int)])
    have hmod : (((ack0 A).ins "template").modes.length : Int) + 1 = ((A.modes.length + 1 : Nat) : Int) := by rw [show ((ack0 A).ins "template").modes = A.modes from addElem_same AB.modes rfl rfl]; rfl
    have hM' : ∀ i, at_ + 1 ≤ i → T.length ≤ i + M := fun i hi => Nat.le_trans hM (by rw [← Nat.add_assoc, Nat.add_right_comm]; exact Nat.add_le_add_right hi M)
    show Cl (2 * M + 12) _ _ _ _
    refine G.enter (fn := f__law_read_template) rfl rfl (G.asg E.cS (G.asg (E.to2 (E.list 26 (EE.one (E.call (EE.cons (E.loc rfl) (EE.cons E.cS (EE.cons E.cS (EE.cons (E.sub (E.sub (E.loc rfl) (E.loc rfl) (tok_at tk ht)) E.cI rfl) (EE.cons E.cS (EE.one (up5 (A := ack0 A) g.core0 rfl))))))) (r_ins (A := ack0 A) g.core0 (Nat.le_trans (g.n690 K) (by decide))))) (Nat.le_of_ble_eq_true rfl)) (congrArg (XVal.ref 26) (len26 (X := rx ((ack0 A).ins "template") W "" O))) ps)
      (G.augS (.inl rfl) (E.loc rfl) E.cS rfl E.cI ((congrArg (setX _ _ _) (congrArg XVal.int hmod)).trans set_tc) (G.asgS E.cB (E.loc rfl) E.cS set_fok (G.expr (E.to (E.call (EE.cons (E.loc rfl) (EE.cons (E.sub (E.loc rfl) (E.loc rfl) (tok_at tk ht)) (EE.one (E.loc rfl)))) (slash_ok hl)) (congrArg (J F · r) e)) (G.aug (.inl rfl) rfl E.cI (G.whl
      (tloop (c := 2 * M + 6) (bs := bs) (j0 := at_ + 1) (base := A.items) (m0 := A.mode) (N := A.nodes) (R := runW (A, W) at_ (T.drop at_)) (O0 := O) K tk (fun i hi => IH i (hM' i hi)) (fun A' W' O' at' env' hj C' h1 h2 => ⟨A', W', O', at', "", rfl, rfl, C'.o, .inl ⟨rfl, hj, C'.gd, h1, h2, C'.ext, C'.run.symm⟩⟩) (fun A' W' O' m' env' C' hm' h1 h2 e1 e2 e3 => ?_)
        M (at_ + 1) _ W _ _ [(A.nodes.length : Int)] [] (hM' _ (Nat.le_refl _)) (Nat.le_refl _) C I rfl rfl rfl rfl rfl))))))))
    have eo : (rx A' W' m' O').out "in template" = rx A' W' "in template" O' := by rcases hm' with rfl | rfl <;> rfl
    exact G.expr (E.to (E.call (EE.cons (E.loc e1) (EE.one (E.loc e2))) out_ok) (congrArg (J F · r) eo)) (G.ret (E.loc e3) ⟨A', W', O', T.length, "in template", rfl, rfl, C'.o, .inr ⟨rfl, rfl, h1, C'.gd, C'.ext, C'.run.symm, h2⟩⟩)
end
end Mine
end

section
set_option maxRecDepth 100000
set_option genInjectivity false
namespace Mine
noncomputable def Fr (r r' : XSt) : Prop := ∀ q, q ≠ 27 → r' q = r q
noncomputable def hnT (t : Tok) : Bool := t.casesOn (fun _ => false) (fun _ => false) false (fun x _ => decide (x ∈ headN)) (fun _ => false) false
noncomputable def p4T (t : Tok) : Bool := t.casesOn (fun _ => false) (fun _ => false) false (fun x _ => decide (x = "noscript")) (fun x => !decide (x = "br")) false
section
variable {A A' B F : AB} {T : List Tok} {scr sl : Bool} {at_ s n k c ti i j : Nat} {t : Tok} {W W' : WL} {m x m0 u : String} {O O' O0 : List (List Int)} {r r' : XSt} {X : RX} {env : XEnv} {b : List (List XObj)} {l : List XObj} {o : XObj} {N : List Nd} {R : AB × WL}
theorem Fr.refl : Fr r r := fun _ _ => rfl
theorem Fr.trans {r2 : XSt} (h : Fr r r') (h2 : Fr r' r2) : Fr r r2 := fun q hq => (h2 q hq).trans (h q hq)
theorem Toks.fr (h : Toks T ti r) (f : Fr r r') : Toks T ti r' := by unfold Toks; rw [f 30 (by decide)]; exact h
theorem J_tmp : (J F X r).push 27 o = J F X (r.push 27 o) := by
  rw [push_pt, pt_B (by decide), show RSt X r = glue (over (rB X (kidsO nref X.nodes)) r) (ndR X.pl X.nodes) from rfl, pt_lo (by decide)]
  refine congrArg (fun f => BSt F (glue f (ndR X.pl X.nodes))) (funext fun q => ?_)
  by_cases e : q = 27
  · subst e; rfl
  · show (if q = 27 then _ else over _ r q) = _
    rw [if_neg e]
    show _ = ((rB X (kidsO nref X.nodes))[q]?).getD (if q = 27 then _ else r q)
    rw [if_neg e]; rfl
theorem Fr.push : Fr r (r.push 27 o) := fun q hq => if_neg hq
theorem hn_ev (h : env "token" = some (tokV t)) (h2 : env "kind" = some (.str t.kind)) : EV n env (J F X r) (.and (.cmp .eq (.loc "kind") (.cS "start")) (.cmp .inn (.sub (.loc "token") (.cI 1)) (.list (.cons (.cS "basefont") (.cons (.cS "bgsound") (.cons (.cS "link") (.cons (.cS "meta") (.cons (.cS "noframes") (.cons (.cS "style") .nil))))))))) (.bool (hnT t)) (J F X r) := by
  cases t with
  | start x s => exact E.drop (E.andT (E.cmp (E.loc h2) E.cS rfl) (E.inS (l := headN) (E.sub (E.loc h) E.cI rfl) (E.to (E.list 0 (EE.cons E.cS (EE.cons E.cS (EE.cons E.cS (EE.cons E.cS (EE.cons E.cS (EE.one E.cS)))))) (Nat.le_of_ble_eq_true rfl)) (over_push (b := bL F) (l := []) rfl)) rfl)) (dropL (.bool _))
  | _ => exact E.andF (E.cmp (E.loc h2) E.cS rfl)
theorem p4_ev (h : env "token" = some (tokV t)) (h2 : env "kind" = some (.str t.kind)) : EV n env (J F X r) (.or (.cmp .eq (.slice (.loc "token") (.cI 2)) (.tup (.cons (.cS "start") (.cons (.cS "noscript") .nil)))) (.and (.cmp .eq (.loc "kind") (.cS "end")) (.cmp .ne (.sub (.loc "token") (.cI 1)) (.cS "br")))) (.bool (p4T t)) (J F X r) := by
  cases t with
  | start x s =>
    by_cases q : x = "noscript"
    · exact E.to2 (E.orT (E.to2 (E.is h) (congrArg XVal.bool (decide_eq_true q : isT (.start x s) "start" "noscript" = true)) rfl)) (congrArg XVal.bool (decide_eq_true q).symm) rfl
    · exact E.to2 (E.orF (E.to2 (E.is h) (congrArg XVal.bool (decide_eq_false q : isT (.start x s) "start" "noscript" = false)) rfl) (E.andF (E.cmp (E.loc h2) E.cS rfl))) (congrArg XVal.bool (decide_eq_false q).symm) rfl
  | fin x => exact E.orF (E.is h) (E.andT (E.cmp (E.loc h2) E.cS rfl) (E.cmp (E.sub (E.loc h) E.cI rfl) E.cS rfl))
  | _ => exact E.orF (E.is h) (E.andF (E.cmp (E.loc h2) E.cS rfl))
theorem passA_same {α : Type} (f : AB → α) (h1 : ∀ c, f (A.sign c) = f A) (h2 : ∀ c, f (A.com c) = f A) (h3 : ∀ w, f (A.err w) = f A) : f (passA A t) = f A := by
  cases t with
  | char c => exact h1 c
  | comment c => exact h2 c
  | doctype => exact h3 _
  | start x sl => exact ite_of (p := fun B : AB => f B = f A) (fun _ => h2 _) fun _ => h3 _
  | _ => rfl
theorem ext_com : Ext A.nodes (A.com x).nodes := com_nodes (A := A) x ▸ Ext.app _ _
theorem ext_pass : Ext A.nodes (passA A t).nodes := by
  cases t with
  | char c => exact ext_sign c
  | comment c => exact ext_com
  | doctype => exact Ext.refl _
  | start x sl => exact ite_of (p := fun B : AB => Ext A.nodes B.nodes) (fun _ => ext_com) fun _ => Ext.refl _
  | _ => exact Ext.refl _
theorem pass_st (h : passB (.start x sl) = true) : x = "html" ∨ x = "head" := (Bool.or_eq_true_iff.mp h).imp of_decide_eq_true of_decide_eq_true
theorem head_pass (h : passB t = true) : headA A t = passA A t := by
  cases t with
  | char c => exact if_pos (of_decide_eq_true h)
  | comment c => rfl
  | doctype => rfl
  | start x sl => rcases pass_st h with rfl | rfl <;> rfl
  | _ => exact nomatch h
theorem noscript_pass (h : passB t = true) : noscriptA A t = passA A t := by
  cases t with
  | char c =>
    have : noscriptA A (.char c) = headA A (.char c) := if_pos (show forHeadT (.char c) = true from h)
    rw [this]; exact if_pos (of_decide_eq_true h)
  | comment c => rfl
  | doctype => rfl
  | start x sl => rcases pass_st h with rfl | rfl <;> rfl
  | _ => exact nomatch h
theorem ns_ways (h1 : hnT t = false) (h2 : isT t "end" "noscript" = false) (h3 : passB t = false) : noscriptA A t = if p4T t then A.err (unexpT t) else headA (popTo (A.err (unexpT t)) "in head") t := by
  cases t with
  | start x sl =>
    have e := Bool.or_eq_false_iff.mp (h3 : (decide (x = "html") || decide (x = "head")) = false)
    have e4 : passT (.start x sl) = decide (x = "noscript") := decide_eq_decide.mpr ⟨fun z => (List.mem_cons.mp z).elim (fun z => absurd z (of_decide_eq_false e.2)) List.mem_singleton.mp, fun z => z ▸ .tail _ (.head _)⟩
    unfold noscriptA
    rw [show htmlT (.start x sl) = false from e.1, show endNsT (.start x sl) = false from rfl, show forHeadT (.start x sl) = false from h1, e4]; rfl
  | fin x =>
    unfold noscriptA
    rw [show endNsT (.fin x) = false from h2]; rfl
  | char c =>
    unfold noscriptA
    rw [show forHeadT (.char c) = false from h3]; rfl
  | eof => rfl
  | _ => exact nomatch h3
theorem unexp_p4 (h : p4T t = true) : unexpT t = "unexpected-" ++ t.kind ++ "-tag" := by
  cases t <;> first | rfl | exact nomatch h
theorem unexp_not (h : p4T t = false) (h3 : passB t = false) : (lookupS t.kind ((["char", "eof"] : List String).zip [.str "unexpected-text", .str "unexpected-eof"])).getD (.str ("unexpected-" ++ t.kind ++ "-tag")) = .str (unexpT t) := by
  cases t <;> first | rfl | exact nomatch h3
theorem kind_len (t : Tok) : t.kind.length ≤ 10 := by
  have h : ∀ s ∈ (["char", "comment", "doctype", "start", "end", "eof"] : List String), s.length ≤ 10 := by decide
  refine h _ ?_
  cases t with
  | char => exact .head _
  | comment => exact .tail _ (.head _)
  | doctype => exact .tail _ (.tail _ (.head _))
  | start => exact .tail _ (.tail _ (.tail _ (.head _)))
  | fin => exact .tail _ (.tail _ (.tail _ (.tail _ (.head _))))
  | eof => exact .tail _ (.tail _ (.tail _ (.tail _ (.tail _ (.head _)))))
theorem msg_ev (h2 : env "kind" = some (.str t.kind)) : EV n env (J F X r) (.bin .add (.bin .add (.cS "unexpected-") (.loc "kind")) (.cS "-tag")) (.str ("unexpected-" ++ t.kind ++ "-tag")) (J F X r) := by
  have h : 11 + t.kind.length ≤ 21 := Nat.add_le_add_left (kind_len t) 11
  exact E.cat (E.cat E.cS (E.loc h2) (Nat.le_trans h (by decide))) E.cS (by rw [String.length_append]; exact Nat.le_trans (Nat.add_le_add_right h 4) (by decide))
end
end Mine
end

section
set_option maxRecDepth 100000
set_option genInjectivity false
namespace Mine
noncomputable def nBody : XS := (.cons (.asg "token" (.sub (.loc "tokens") (.loc "at"))) (.cons (.asg "kind" (.sub (.loc "token") (.cI 0)))
    (.cons (.ite (.and (.cmp .eq (.loc "kind") (.cS "start")) (.cmp .inn (.sub (.loc "token") (.cI 1)) (.list (.cons (.cS "basefont") (.cons (.cS "bgsound") (.cons (.cS "link") (.cons (.cS "meta") (.cons (.cS "noframes") (.cons (.cS "style") .nil))))))))) (.cons (.asg "at" (.call "_law_read_taken" (.cons (.loc "tokens") (.cons (.loc "at") (.cons (.loc "told") (.cons (.loc "node") (.cons (.loc "mode") .nil))))))) .nil)
    (.cons (.ite (.cmp .eq (.slice (.loc "token") (.cI 2)) (.tup (.cons (.cS "end") (.cons (.cS "noscript") .nil)))) (.cons (.asgS (.loc "node") (.cI 5) (.cI (-1))) (.cons (.ret (.bin .add (.loc "at") (.cI 1))) .nil))
    (.cons (.ite (.call "_law_is_passed" (.cons (.loc "token") (.cons (.loc "told") (.cons (.loc "node") (.cons (.loc "mode") .nil))))) (.cons (.aug "at" .add (.cI 1)) .nil)
    (.cons (.ite (.or (.cmp .eq (.slice (.loc "token") (.cI 2)) (.tup (.cons (.cS "start") (.cons (.cS "noscript") .nil)))) (.and (.cmp .eq (.loc "kind") (.cS "end")) (.cmp .ne (.sub (.loc "token") (.cI 1)) (.cS "br")))) (.cons (.expr (.meth (.sub (.loc "told") (.cS "errors")) "append" (.cons (.tup (.cons (.bin .add (.bin .add (.cS "unexpected-") (.loc "kind")) (.cS "-tag")) (.cons (.loc "mode") .nil))) .nil))) tailB)
    (.cons (.asg "words" (.dict ["char", "eof"] (.cons (.cS "unexpected-text") (.cons (.cS "unexpected-eof") .nil))))
    (.cons (.expr (.meth (.sub (.loc "told") (.cS "errors")) "append" (.cons (.tup (.cons (.meth (.loc "words") "get" (.cons (.loc "kind") (.cons (.bin .add (.bin .add (.cS "unexpected-") (.loc "kind")) (.cS "-tag")) .nil))) (.cons (.loc "mode") .nil))) .nil)))
    (.cons (.asgS (.loc "node") (.cI 5) (.cI (-1))) (.cons (.ret (.loc "at")) .nil)))))
    .nil)) .nil)) .nil)) .nil)))
section
variable {A A' B F : AB} {T : List Tok} {scr sl : Bool} {at_ s n k c ti i j : Nat} {t : Tok} {W W' : WL} {m x m0 u : String} {O O' O0 : List (List Int)} {r r' : XSt} {X : RX} {env : XEnv} {base : List Int} {tp : Int} {N : List Nd} {R : AB × WL}
theorem top_of_snoc (h : A.items = base ++ [tp]) : A.top = tp := by
  unfold AB.top
  rw [h, List.getLast?_append]; rfl
theorem off_at (h : Core A n) (hi : A.items = base ++ [tp]) : setX (J F (rx A W m O) r) (nref tp) (.int 5) (.int (-1)) = some (J F (rx { A with items := base } W m O) r) := by
  have e := top_of_snoc hi
  rw [← e] at hi ⊢
  exact off_top h hi
theorem nloop {j0 : Nat} {Q : XFlow → XEnv → XSt → Prop} (K : TOK T scr) (tk : Toks T ti r)
    (hR : ∀ A' W' O' (at' : Nat) env' r', j0 ≤ at' → Fr r r' → Gd T scr A' W' at' 2 → Ext N A'.nodes → runW (A', W') at' (T.drop at') = R → A'.mode = "in head" → A'.items = base → Q (.ret (.int at')) env' (J F (rx A' W' "" O') r'))
    (hN : ∀ A' W' O' m' env', Gd T scr A' W' T.length 2 → Ext N A'.nodes → runW (A', W') T.length (T.drop T.length) = R → ((m' = "" ∧ A'.mode = "in head noscript") ∨ (m' = "in template" ∧ A'.mode = m')) → (∃ mo, A'.items = base ++ mo) → env' "told" = some (.ref 22 0) → env' "mode" = some (.str "in head noscript") → env' "at" = some (.int T.length) → Q .next env' (J F (rx A' W' m' O') r)) :
    ∀ (M j : Nat) (A : AB) (W : WL) (O : List (List Int)) (env : XEnv), T.length ≤ j + M → j0 ≤ j → TC T scr N R [] A W O j → A.mode = "in head noscript" → A.items = base ++ [tp] →
      env "tokens" = some (.ref 30 ti) → env "at" = some (.int j) → env "told" = some (.ref 22 0) → env "node" = some (nref tp) → env "mode" = some (.str "in head noscript") → Bw 172 tTest nBody env (J F (rx A W "" O) r) Q := by
  have two : ∀ {A : AB} {W : WL} {j : Nat}, Gd T scr A W j 1 → Gd T scr A W j 2 := fun g => ⟨g.iv.mono (Nat.le_refl _) (Nat.le_succ _), g.wish, g.done, g.le, g.scr, g.wl⟩
  intro M
  induction M with
  | zero =>
    intro j A W O env hM hj C hmd hi e1 e2 e3 e4 e5
    obtain rfl : j = T.length := Nat.le_antisymm C.gd.le hM
    exact Mine.W.stop (lt_ev tk e2 e1 (decide_eq_false (Nat.lt_irrefl _))) (hN A W O "" env (two C.gd) C.ext C.run (.inl ⟨rfl, hmd⟩) ⟨_, hi⟩ e3 e5 e2)
  | succ M IH =>
    intro j A W O env hM hj C hmd hi e1 e2 e3 e4 e5
    by_cases hjl : j < T.length
    case neg =>
      obtain rfl : j = T.length := Nat.le_antisymm C.gd.le (Nat.le_of_not_lt hjl)
      exact Mine.W.stop (lt_ev tk e2 e1 (decide_eq_false hjl)) (hN A W O "" env (two C.gd) C.ext C.run (.inl ⟨rfl, hmd⟩) ⟨_, hi⟩ e3 e5 e2)
    have ht : T[j]? = some T[j] := List.getElem?_eq_getElem hjl
    generalize T[j] = t at ht
    have hm : A.mode ≠ "text" := by rw [hmd]; decide
    have hM' : ∀ {at' : Nat}, j < at' → T.length ≤ at' + M := fun h => Nat.le_trans hM (by rw [← Nat.add_assoc, Nat.add_right_comm]; exact Nat.add_le_add_right h M)
    have hpl : plainA (ack0 A) t = noscriptA (ack0 A) t := by
      have : (ack0 A).mode = "in head noscript" := hmd
      unfold plainA
      rw [this]; rfl
    have hl := C.gd.errs K (by decide)
    have hnv : nref A.top = nref tp := congrArg nref (top_of_snoc hi)
    refine Mine.W.turn (lt_ev tk e2 e1 (decide_eq_true hjl)) (G.asg (E.sub (E.loc e1) (E.loc e2) (tok_at tk ht)) (G.asg (v := .str t.kind) (E.sub (E.loc rfl) E.cI (k0 t)) (G.iteB (hn_ev rfl rfl) (fun hn => ?_) fun hn => G.iteB (E.is rfl) (fun q2 => ?_) fun q2 => ?_)))
    · have hf : forHeadT t = true ∧ takesT t = true ∧ ∀ x, t ≠ .fin x := by
        cases t with
        | start x sl => exact ⟨hn, decide_eq_true (headN_ne (of_decide_eq_true hn)).1, fun x z => nomatch z⟩
        | _ => exact nomatch hn
      have tr := taken_r (F := F) (c := 166) (O := O) K (template_r K tk 80 j (Nat.le_trans K.len (Nat.le_add_left _ _))) C.gd (by decide) hm tk ht hf.2.1 (fun _ => hf.1) (fun _ => hf.2.2)
      rw [hmd, hnv] at tr
      obtain ⟨v, st2, c1, A', W', O', at', m', rfl, rfl, ⟨more, hmo⟩, hc⟩ := tr
      refine G.asg (E.call (EE.cons (E.loc e1) (EE.cons (E.loc e2) (EE.cons (E.loc e3) (EE.cons (E.loc e4) (EE.one (E.loc e5)))))) c1) (G.fin ?_)
      rcases hc with ⟨rfl, b⟩ | ⟨rfl, rfl, b⟩
      · exact IH at' A' W' O' _ (hM' b.lt) (Nat.le_trans hj (Nat.le_of_lt b.lt)) (C.back b ⟨more, hmo⟩) (b.mode.trans hmd) (b.items.trans hi) e1 rfl e3 e4 e5
      · refine Mine.W.stop (lt_ev (env := upd (upd (upd env "token" (tokV t)) "kind" (.str t.kind)) "at" (.int T.length)) tk rfl e1 (decide_eq_false (Nat.lt_irrefl _))) (hN A' W' O' "in template" _ (two b.gd) (C.ext.trans b.ext) (b.run.symm.trans C.run) (.inr ⟨rfl, b.mode⟩) ?_ e3 e5 rfl)
        obtain ⟨mo, e⟩ := b.items; exact ⟨tp :: mo, by rw [e, hi, List.append_assoc]; rfl⟩
    · have e := is_end q2
      have hp : plainA (ack0 A) t = popTo (ack0 A) "in head" := by rw [hpl, e]; rfl
      have sw := plain_w (W := W) (j := j) (C.gd.done hjl) hm hp C.gd.wish
      have C1 := C.next K ht sw (Ext.refl _) ⟨O, rfl⟩
      rw [slash_no (by rw [e]; rfl)] at C1
      have hb : A.items.dropLast = base := snoc_drop hi
      refine G.asgS E.cI (E.loc e4) E.cI (off_at C.gd.iv.core hi) (G.ret (E.add (E.loc e2) E.cI) ?_)
      have ex : rx { A with items := base } W "" O = rx (popTo (ack0 A) "in head").w0 W "" O := by
        rw [← hb]; rfl
      rw [ex]
      exact hR _ W O (j + 1) _ r (Nat.le_succ_of_le hj) .refl (two C1.gd) C1.ext C1.run rfl hb
    · have hsm := K.small j t ht
      have ps := passed_ok (c := 168) (F := F) (W := W) (m := "") (O := O) (r := r) (A := ack0 A) (C.gd.iv.flags false A.done A.wish) (C.gd.n690 K) (Nat.le_trans (C.gd.k880 K (by decide)) (by decide)) hsm
      rw [show (ack0 A).mode = "in head noscript" from hmd, show nref (ack0 A).top = nref tp from hnv] at ps
      refine G.iteB (E.call (EE.cons (E.loc rfl) (EE.cons (E.loc e3) (EE.cons (E.loc e4) (EE.one (E.loc e5))))) ps) (fun q3 => ?_) fun q3 => ?_
      · have sw := plain_w (W := W) (j := j) (C.gd.done hjl) hm (hpl.trans (noscript_pass q3)) ((passA_same AB.wish (fun _ => sign_same AB.wish rfl fun _ => rfl) (fun _ => rfl) fun _ => rfl).trans C.gd.wish)
        have pm : (passA (ack0 A) t).mode = "in head noscript" := (passA_same AB.mode (fun _ => sign_same AB.mode rfl fun _ => rfl) (fun _ => rfl) fun _ => rfl : (passA (ack0 A) t).mode = (ack0 A).mode).trans hmd
        have pi : (passA (ack0 A) t).items = base ++ [tp] := (passA_same AB.items (fun _ => sign_same AB.items rfl fun _ => rfl) (fun _ => rfl) fun _ => rfl : (passA (ack0 A) t).items = (ack0 A).items).trans hi
        have pa : (passA (ack0 A) t).ack = false := passA_same AB.ack (fun _ => sign_same AB.ack rfl fun _ => rfl) (fun _ => rfl) fun _ => rfl
        rw [if_pos q3, show (rx (passA (ack0 A) t) W "" O).slash t "in head noscript" = rx ((passA (ack0 A) t).slash t).w0 W "" O from pm ▸ (rx_slash (B := passA (ack0 A) t) pa).symm]
        exact G.aug (.inl rfl) e2 E.cI (G.fin (IH (j + 1) _ W O _ (hM' (Nat.lt_succ_self _)) (Nat.le_succ_of_le hj) (C.next K ht sw (ext_pass (A := ack0 A)) ⟨O, rfl⟩) ((slash_same AB.mode rfl).trans pm) ((slash_same AB.items rfl).trans pi) e1 rfl e3 e4 e5))
      · rw [if_neg (by rw [q3]; exact Bool.false_ne_true)]
        have hw := ns_ways (A := ack0 A) hn q2 q3
        have er : ∀ w, (rx A W "" O).err w "in head noscript" = rx ((ack0 A).err w) W "" O := fun w => by
          unfold RX.err AB.err
          rw [show (ack0 A).mode = "in head noscript" from hmd]; rfl
        refine G.iteB (p4_ev rfl rfl) (fun q4 => ?_) fun q4 => ?_
        · rw [if_pos q4] at hw
          have sw := plain_w (W := W) (j := j) (C.gd.done hjl) hm (hpl.trans hw) C.gd.wish
          refine G.expr (E.to (err_ev (X := rx A W "" O) (w := unexpT t) (m := "in head noscript") e3 hl (E.tup (EE.cons (E.to2 (msg_ev rfl) (congrArg XVal.str (unexp_p4 q4).symm) rfl) (EE.one (E.loc e5))) (Nat.le_of_ble_eq_true rfl))) (congrArg (J F · r) (er _))) ?_
          exact tail_ok (B := (ack0 A).err (unexpT t)) rfl (err_lt (A := A.err (unexpT t)) (C.gd.iv.err (w := unexpT t)) (Nat.le_trans (Nat.succ_le_succ (C.gd.k880 K (by decide))) (by decide))) e3 rfl (e5.trans (congrArg (fun s => some (XVal.str s)) hmd.symm)) e2
            (IH (j + 1) _ W O _ (hM' (Nat.lt_succ_self _)) (Nat.le_succ_of_le hj) (C.next K ht sw (Ext.refl _) ⟨O, rfl⟩) ((slash_same AB.mode rfl).trans hmd) ((slash_same AB.items rfl).trans hi) e1 rfl e3 e4 e5)
        · rw [if_neg (by rw [q4]; exact Bool.false_ne_true)] at hw
          have hpp := hpl.trans hw
          have g1 : Gd T scr (popTo (A.err (unexpT t)) "in head") W j 2 := ⟨(C.gd.iv.err (w := unexpT t)).popNs hmd, C.gd.wish, C.gd.done, C.gd.le, C.gd.scr, C.gd.wl⟩
          have same : stepW (A, W) j t = stepW (popTo (A.err (unexpT t)) "in head", W) j t := by
            have e9 : stepA A t = stepA (popTo (A.err (unexpT t)) "in head") t := by
              rw [step_eq (C.gd.done hjl), step_eq (A := popTo (A.err (unexpT t)) "in head") (C.gd.done hjl), proc_plain (A := ack0 A) hm, proc_plain (A := ack0 (popTo (A.err (unexpT t)) "in head")) (of_decide_eq_false rfl), hpp]
              rfl
            unfold stepW
            rw [show ((A, W).1) = A from rfl, show ((popTo (A.err (unexpT t)) "in head", W).1) = popTo (A.err (unexpT t)) "in head" from rfl, e9]
          refine G.asg (E.to (E.dict 27 (EE.cons E.cS (EE.one E.cS)) (by decide) rfl ⟨(fun z => nomatch z), Nat.le_of_ble_eq_true rfl⟩) J_tmp) ?_
          have gd27 : (J F (rx A W "" O) (r.push 27 (.sdict ((["char", "eof"] : List String).zip [.str "unexpected-text", .str "unexpected-eof"]))) 27)[(J F (rx A W "" O) r 27).length]? = some (.sdict ((["char", "eof"] : List String).zip [.str "unexpected-text", .str "unexpected-eof"])) := by
            show (r 27 ++ [_])[(r 27).length]? = _
            exact List.getElem?_concat_length
          refine G.expr (E.to (err_ev (X := rx A W "" O) (w := unexpT t) (m := "in head noscript") e3 hl (E.tup (EE.cons (E.to2 (E.get (E.loc rfl) gd27 (E.loc rfl) (msg_ev rfl) gd27) (unexp_not q4 q3) rfl) (EE.one (E.loc e5))) (Nat.le_of_ble_eq_true rfl))) (congrArg (J F · _) (er _))) ?_
          refine G.asgS E.cI (E.loc e4) E.cI (off_at (A := A.err (unexpT t)) (C.gd.iv.err (w := unexpT t)).core hi) (G.ret (E.loc e2) ?_)
          have hb : A.items.dropLast = base := snoc_drop hi
          have ex : rx { A.err (unexpT t) with items := base } W "" O = rx (popTo (A.err (unexpT t)) "in head") W "" O := by
            rw [← hb]; rfl
          rw [ex]
          exact hR _ W O j _ _ hj Fr.push g1 C.ext (by rw [← C.run, run_at ht, run_at ht, same]) rfl hb
end
end Mine
end

section
set_option maxRecDepth 100000
set_option genInjectivity false
namespace Mine
noncomputable def NPost (T : List Tok) (scr : Bool) (F : AB) (r : XSt) (A : AB) (W : WL) (at_ : Nat) (v : XVal) (st : XSt) : Prop := ∃ A' W' O' at' m' r', v = .int (at' : Nat) ∧ st = J F (rx A' W' m' O') r' ∧ Fr r r' ∧
  ((m' = "" ∧ Back T scr A W at_ A' W' at' 2) ∨ (m' ≠ "" ∧ A'.mode = m' ∧ at' = T.length ∧ Gd T scr A' W' at' 2 ∧ Ext A.nodes A'.nodes ∧ runW (A, W) at_ (T.drop at_) = runW (A', W') at' (T.drop at') ∧ ∃ mo, A'.items = A.items ++ mo))
section
variable {A A' B F : AB} {T : List Tok} {scr sl : Bool} {at_ s n k c ti i j : Nat} {t : Tok} {W W' : WL} {m x m0 u : String} {O O' O0 : List (List Int)} {r r' : XSt} {X : RX} {env : XEnv} {base : List Int} {tp : Int} {N : List Nd} {R : AB × WL}
theorem noscript_r (K : TOK T scr) (hscr : scr = false) (g : Gd T scr A W at_ s) (hs : s ≤ 2) (hmd : A.mode = "in head") (tk : Toks T ti r) (ht : T[at_]? = some (.start "noscript" sl)) :
    Cl 172 "_law_read_noscript" [.ref 30 ti, .int at_, .ref 22 0, nref A.top] (J F (rx A W "" O) r) (NPost T scr F r A W at_) := by
  have hl := (List.getElem?_eq_some_iff.mp ht).1
  have hm : A.mode ≠ "text" := by rw [hmd]; decide
  have hpl : plainA (ack0 A) (.start "noscript" sl) = { (ack0 A).ins "noscript" with mode := "in head noscript" } := by
    have e1 : plainA (ack0 A) (.start "noscript" sl) = headA (ack0 A) (.start "noscript" sl) := if_pos hmd
    have e2 : headA (ack0 A) (.start "noscript" sl) = (if (ack0 A).scripting then rawA (ack0 A) "noscript" else { (ack0 A).ins "noscript" with mode := "in head noscript" }) := rfl
    rw [e1, e2, show (ack0 A).scripting = false from g.scr.trans hscr]; rfl
  have sw := plain_w (W := W) (j := at_) (g.done hl) hm hpl ((addElem_same AB.wish rfl rfl).trans g.wish)
  have g1 := g.step K hs ht
  rw [sw] at g1
  have x1 : Ext A.nodes ((({ (ack0 A).ins "noscript" with mode := "in head noscript" } : AB).slash (.start "noscript" sl)).w0).nodes := by
    show Ext A.nodes (({ (ack0 A).ins "noscript" with mode := "in head noscript" } : AB).slash (.start "noscript" sl)).nodes
    rw [slash_same AB.nodes rfl]; exact ext_ins (A := ack0 A) "noscript"
  have hX : (rx ((ack0 A).ins "noscript") W "" O).slash (.start "noscript" sl) "in head noscript" = rx (({ (ack0 A).ins "noscript" with mode := "in head noscript" } : AB).slash (.start "noscript" sl)).w0 W "" O :=
    (rx_slash (B := { (ack0 A).ins "noscript" with mode := "in head noscript" }) (addElem_same AB.ack rfl rfl)).symm
  have he : ((ack0 A).ins "noscript").errors.length < 1000 := (congrArg List.length (addElem_same AB.errors rfl rfl : ((ack0 A).ins "noscript").errors = A.errors)).symm ▸ g.errs K hs
  refine G.enter (fn := f__law_read_noscript) rfl rfl (G.asg E.cS (G.asg (v := nref (A.nodes.length : Int)) (E.to2 (E.call (EE.cons (E.loc rfl) (EE.cons E.cS (EE.cons E.cS (EE.cons (E.sub (E.sub (E.loc rfl) (E.loc rfl) (tok_at tk ht)) E.cI rfl) (EE.cons E.cS (EE.one (up5 (A := ack0 A) g.core0 rfl))))))) (r_ins (A := ack0 A) g.core0 (Nat.le_trans (g.n690 K) (by decide)))) (congrArg nref (ins_top (A := ack0 A))) rfl)
    (G.expr (E.to (E.call (EE.cons (E.loc rfl) (EE.cons (E.sub (E.loc rfl) (E.loc rfl) (tok_at tk ht)) (EE.one (E.loc rfl)))) (slash_ok he)) (congrArg (J F · r) hX)) (G.aug (.inl rfl) rfl E.cI (G.whl
    (nloop (base := A.items) (tp := (A.nodes.length : Int)) (N := A.nodes) (R := runW (A, W) at_ (T.drop at_)) (j0 := at_ + 1) K tk
      (fun A' W' O' at' env' r' q1 q2 q3 q4 q5 q6 q7 => ⟨A', W', O', at', "", r', rfl, rfl, q2, .inl ⟨rfl, ⟨q1, q3, q6.trans hmd.symm, q7, q4, q5.symm⟩⟩⟩) (fun A' W' O' m' env' q1 q2 q3 q4 q5 e1 e2 e3 => ?_)
      80 (at_ + 1) _ W O _ (Nat.le_trans K.len (Nat.le_add_left _ _)) (Nat.le_refl _) ⟨g1.one, x1, by rw [run_at ht, sw], ⟨O, rfl⟩⟩ (slash_same AB.mode rfl) (slash_same AB.items rfl) rfl rfl rfl rfl rfl))))))
  have hm' : (if m' = "" then "in head noscript" else m') ≠ "" ∧ A'.mode = (if m' = "" then "in head noscript" else m') := by
    rcases q4 with ⟨rfl, z⟩ | ⟨rfl, z⟩
    · exact ⟨by decide, z⟩
    · exact ⟨by decide, z⟩
  exact G.expr (E.call (EE.cons (E.loc e1) (EE.one (E.loc e2))) out_ok) (G.ret (E.loc e3) ⟨A', W', O', T.length, (if m' = "" then "in head noscript" else m'), r, rfl, rfl, .refl, .inr ⟨hm'.1, hm'.2, rfl, q1, q2, q3.symm, q5⟩⟩)
theorem out_ways (h1 : takesT t = false) (h2 : isT t "start" "noscript" = false) (h3 : passB t = false) (h4 : ∀ x, t = .fin x → x ∈ (["head", "body", "html", "br"] : List String)) : headA A t = if isT t "end" "head" = true then popTo A "after head" else afterA (popTo A "after head") t := by
  cases t with
  | char c => exact if_neg (of_decide_eq_false h3)
  | eof => rfl
  | start x sl =>
    have e := Bool.or_eq_false_iff.mp (h3 : (decide (x = "html") || decide (x = "head")) = false)
    exact (if_neg (of_decide_eq_false e.1)).trans ((if_neg (by rw [h1]; exact Bool.false_ne_true)).trans ((if_neg (of_decide_eq_false (show decide (x = "noscript") = false from h2))).trans (if_neg (of_decide_eq_false e.2))))
  | fin x =>
    have hx := h4 x rfl
    have hnt : x ≠ "template" := of_decide_eq_false h1
    show _ = if decide (x = "head") = true then popTo A "after head" else afterA (popTo A "after head") (.fin x)
    by_cases y : x = "head"
    · rw [if_pos (decide_eq_true y)]; exact if_pos y
    · rw [if_neg fun z => y (of_decide_eq_true z)]
      exact (if_neg y).trans ((if_neg hnt).trans (if_pos ((List.mem_cons.mp hx).resolve_left y)))
  | _ => exact nomatch h3
end
end Mine
end

section
set_option maxRecDepth 100000
set_option genInjectivity false
namespace Mine
noncomputable def endB : XS := (.cons (.asgS (.loc "head") (.cI 5) (.cI (-1))) (.cons (.ret (.ife (.cmp .eq (.slice (.loc "token") (.cI 2)) (.tup (.cons (.cS "end") (.cons (.cS "head") .nil)))) (.bin .add (.loc "at") (.cI 1)) (.loc "at"))) .nil))
noncomputable def hBody : XS := (.cons (.asg "token" (.sub (.loc "tokens") (.loc "at")))
    (.cons (.ite (.call "_law_takes" (.cons (.loc "token") .nil)) (.cons (.asg "at" (.call "_law_read_taken" (.cons (.loc "tokens") (.cons (.loc "at") (.cons (.loc "told") (.cons (.loc "head") (.cons (.loc "mode") .nil))))))) .nil)
    (.cons (.ite (.and (.cmp .eq (.slice (.loc "token") (.cI 2)) (.tup (.cons (.cS "start") (.cons (.cS "noscript") .nil)))) (.loc "is_scripting")) (.cons (.asg "at" (.call "_law_read_raw" (.cons (.loc "tokens") (.cons (.loc "at") (.cons (.loc "told") (.cons (.loc "head") (.cons (.loc "mode") .nil))))))) .nil)
    (.cons (.ite (.cmp .eq (.slice (.loc "token") (.cI 2)) (.tup (.cons (.cS "start") (.cons (.cS "noscript") .nil)))) (.cons (.asg "at" (.call "_law_read_noscript" (.cons (.loc "tokens") (.cons (.loc "at") (.cons (.loc "told") (.cons (.loc "head") .nil)))))) .nil)
    (.cons (.ite (.call "_law_is_passed" (.cons (.loc "token") (.cons (.loc "told") (.cons (.loc "head") (.cons (.loc "mode") .nil))))) (.cons (.aug "at" .add (.cI 1)) .nil)
    (.cons (.ite (.and (.cmp .eq (.sub (.loc "token") (.cI 0)) (.cS "end")) (.cmp .notIn (.sub (.loc "token") (.cI 1)) (.list (.cons (.cS "head") (.cons (.cS "body") (.cons (.cS "html") (.cons (.cS "br") .nil))))))) (.cons (.expr (.meth (.sub (.loc "told") (.cS "errors")) "append" (.cons (.tup (.cons (.cS "unexpected-end-tag") (.cons (.loc "mode") .nil))) .nil))) (.cons (.aug "at" .add (.cI 1)) .nil)) endB)
    .nil)) .nil)) .nil)) .nil)) .nil))
noncomputable def f5T (t : Tok) : Bool := t.casesOn (fun _ => false) (fun _ => false) false (fun _ _ => false) (fun x => !decide (x ∈ (["head", "body", "html", "br"] : List String))) false
structure HC (T : List Tok) (scr : Bool) (N : List Nd) (R : AB × WL) (A : AB) (W : WL) (at_ : Nat) : Prop where
  gd : Gd T scr A W at_ 2
  ext : Ext N A.nodes
  run : runW (A, W) at_ (T.drop at_) = R
section
variable {A A' B F : AB} {T : List Tok} {scr sl : Bool} {at_ s n k c ti i j : Nat} {t : Tok} {W W' : WL} {m x m0 u : String} {O O' O0 : List (List Int)} {r r' : XSt} {X : RX} {env : XEnv} {base : List Int} {tp : Int} {N : List Nd} {R : AB × WL}
theorem Gd.two (g : Gd T scr A W j s) (hs : s ≤ 2) : Gd T scr A W j 2 := ⟨g.iv.mono (Nat.le_refl _) (Nat.add_le_add_left hs _), g.wish, g.done, g.le, g.scr, g.wl⟩
theorem HC.next (K : TOK T scr) (C : HC T scr N R A W j) (ht : T[j]? = some t) (sw : stepW (A, W) j t = ((B.slash t).w0, W)) (x : Ext A.nodes B.nodes) : HC T scr N R (B.slash t).w0 W (j + 1) := by
  have g1 := C.gd.step K (Nat.le_refl _) ht
  rw [sw] at g1
  refine ⟨g1.two (by decide), C.ext.trans ?_, by rw [← C.run, run_at ht, sw]⟩
  show Ext A.nodes (B.slash t).nodes
  rw [slash_same AB.nodes rfl]; exact x
theorem HC.back {at' : Nat} (C : HC T scr N R A W j) (h : Back T scr A W j A' W' at' s) (hs : s ≤ 2) : HC T scr N R A' W' at' := ⟨h.gd.two hs, C.ext.trans h.ext, h.run.symm.trans C.run⟩
theorem f5_ev (h : env "token" = some (tokV t)) : EV n env (J F X r) (.and (.cmp .eq (.sub (.loc "token") (.cI 0)) (.cS "end")) (.cmp .notIn (.sub (.loc "token") (.cI 1)) (.list (.cons (.cS "head") (.cons (.cS "body") (.cons (.cS "html") (.cons (.cS "br") .nil))))))) (.bool (f5T t)) (J F X r) := by
  cases t with
  | fin x => exact E.drop (E.andT (E.kind h rfl) (E.ninS (l := ["head", "body", "html", "br"]) (E.sub (E.loc h) E.cI rfl) (E.to (E.list 0 (EE.cons E.cS (EE.cons E.cS (EE.cons E.cS (EE.one E.cS)))) (Nat.le_of_ble_eq_true rfl)) (over_push (b := bL F) (l := []) rfl)) rfl)) (dropL (.bool _))
  | _ => exact E.andF (E.kind h rfl)
theorem ns_ev (h : env "token" = some (tokV t)) (h2 : env "is_scripting" = some (.bool scr)) : EV n env (J F X r) (.and (.cmp .eq (.slice (.loc "token") (.cI 2)) (.tup (.cons (.cS "start") (.cons (.cS "noscript") .nil)))) (.loc "is_scripting")) (.bool (isT t "start" "noscript" && scr)) (J F X r) := by
  cases q : isT t "start" "noscript" with
  | true => exact E.andT (E.to2 (E.is h) (congrArg XVal.bool q) rfl) (E.loc h2)
  | false => exact E.andF (E.to2 (E.is h) (congrArg XVal.bool q) rfl)
theorem f5_of (h : f5T t = true) (h1 : takesT t = false) : headA A t = A.err "unexpected-end-tag" ∧ slashT t = false := by
  cases t with
  | fin x =>
    have hx : x ∉ (["head", "body", "html", "br"] : List String) := of_decide_eq_false ((Bool.not_eq_true' _).mp h)
    exact ⟨(if_neg fun z : x = "head" => hx (z ▸ .head _)).trans ((if_neg (of_decide_eq_false h1)).trans (if_neg fun z => hx (.tail _ z))), rfl⟩
  | _ => exact nomatch h
theorem f5_not (h : f5T t = false) : ∀ x, t = .fin x → x ∈ (["head", "body", "html", "br"] : List String) := fun x e => by
  subst e
  exact of_decide_eq_true ((Bool.not_eq_false' _).mp h)
theorem hloop {r0 : XSt} {Q : XFlow → XEnv → XSt → Prop} (K : TOK T scr) (tk0 : Toks T ti r0)
    (hR : ∀ A' W' O' (at' : Nat) env' r', Fr r0 r' → HC T scr N R A' W' at' → A'.mode = "after head" → A'.items = base → Q (.ret (.int at')) env' (J F (rx A' W' "" O') r'))
    (hN : ∀ A' W' O' m' env' r', Fr r0 r' → HC T scr N R A' W' T.length → ((m' = "" ∧ A'.mode = "in head") ∨ (m' ≠ "" ∧ A'.mode = m')) → (∃ mo, A'.items = (base ++ [tp]) ++ mo) → env' "told" = some (.ref 22 0) → env' "mode" = some (.str "in head") → env' "at" = some (.int T.length) → Q .next env' (J F (rx A' W' m' O') r')) :
    ∀ (M j : Nat) (A : AB) (W : WL) (O : List (List Int)) (r : XSt) (env : XEnv), T.length ≤ j + M → Fr r0 r → HC T scr N R A W j → A.mode = "in head" → A.items = base ++ [tp] →
      env "tokens" = some (.ref 30 ti) → env "at" = some (.int j) → env "told" = some (.ref 22 0) → env "head" = some (nref tp) → env "mode" = some (.str "in head") → env "is_scripting" = some (.bool scr) → Bw 173 tTest hBody env (J F (rx A W "" O) r) Q := by
  intro M
  induction M with
  | zero =>
    intro j A W O r env hM hf C hmd hi e1 e2 e3 e4 e5 e6
    obtain rfl : j = T.length := Nat.le_antisymm C.gd.le hM
    exact Mine.W.stop (lt_ev (tk0.fr hf) e2 e1 (decide_eq_false (Nat.lt_irrefl _))) (hN A W O "" env r hf C (.inl ⟨rfl, hmd⟩) ⟨[], by rw [hi, List.append_nil]⟩ e3 e5 e2)
  | succ M IH =>
    intro j A W O r env hM hf C hmd hi e1 e2 e3 e4 e5 e6
    have tk := tk0.fr hf
    by_cases hjl : j < T.length
    case neg =>
      obtain rfl : j = T.length := Nat.le_antisymm C.gd.le (Nat.le_of_not_lt hjl)
      exact Mine.W.stop (lt_ev tk e2 e1 (decide_eq_false hjl)) (hN A W O "" env r hf C (.inl ⟨rfl, hmd⟩) ⟨[], by rw [hi, List.append_nil]⟩ e3 e5 e2)
    have ht : T[j]? = some T[j] := List.getElem?_eq_getElem hjl
    generalize T[j] = t at ht
    have hm : A.mode ≠ "text" := by rw [hmd]; decide
    have hM' : ∀ {at' : Nat}, j < at' → T.length ≤ at' + M := fun h => Nat.le_trans hM (by rw [← Nat.add_assoc, Nat.add_right_comm]; exact Nat.add_le_add_right h M)
    have hpl : plainA (ack0 A) t = headA (ack0 A) t := if_pos hmd
    have hl := C.gd.errs K (Nat.le_refl _)
    have hnv : nref A.top = nref tp := congrArg nref (top_of_snoc hi)
    refine Mine.W.turn (lt_ev tk e2 e1 (decide_eq_true hjl)) (G.asg (E.sub (E.loc e1) (E.loc e2) (tok_at tk ht)) (G.iteB (E.call (EE.one (E.loc rfl)) takes_ok) (fun htk => ?_) fun htk => G.iteB (ns_ev rfl e6) (fun q2 => ?_) fun q2 => G.iteB (E.is rfl) (fun q3 => ?_) fun q3 => ?_))
    · have tr := taken_r (F := F) (c := 166) (O := O) K (template_r K tk 80 j (Nat.le_trans K.len (Nat.le_add_left _ _))) C.gd (Nat.le_refl _) hm tk ht htk (fun z => absurd (hmd.symm.trans z) (by decide)) (fun z => absurd (hmd.symm.trans z) (by decide))
      rw [hmd, hnv] at tr
      obtain ⟨v, st2, c1, A', W', O', at', m', rfl, rfl, _, hc⟩ := tr
      refine G.asg (E.call (EE.cons (E.loc e1) (EE.cons (E.loc e2) (EE.cons (E.loc e3) (EE.cons (E.loc e4) (EE.one (E.loc e5)))))) (c1.le (by decide))) (G.fin ?_)
      rcases hc with ⟨rfl, b⟩ | ⟨rfl, rfl, b⟩
      · exact IH at' A' W' O' r _ (hM' b.lt) hf (C.back b (by decide)) (b.mode.trans hmd) (b.items.trans hi) e1 rfl e3 e4 e5 e6
      · refine Mine.W.stop (lt_ev (env := upd (upd env "token" (tokV t)) "at" (.int T.length)) tk rfl e1 (decide_eq_false (Nat.lt_irrefl _))) (hN A' W' O' "in template" _ r hf ⟨b.gd.two (by decide), C.ext.trans b.ext, b.run.symm.trans C.run⟩ (.inr ⟨by decide, b.mode⟩) ?_ e3 e5 rfl)
        obtain ⟨mo, e⟩ := b.items; exact ⟨mo, by rw [e, hi]⟩
    · obtain ⟨q, hsc⟩ := an q2
      obtain ⟨sl, rfl⟩ := is_start q
      subst hsc
      have hA : plainA (ack0 A) (.start "noscript" sl) = rawA (ack0 A) "noscript" := by
        rw [hpl]
        have e : headA (ack0 A) (.start "noscript" sl) = (if (ack0 A).scripting then rawA (ack0 A) "noscript" else { (ack0 A).ins "noscript" with mode := "in head noscript" }) := rfl
        rw [e, show (ack0 A).scripting = true from C.gd.scr]; rfl
      obtain ⟨A', W', at', c1, b⟩ := raw_r (F := F) (r := r) (m := "") (O := O) (c := 168) K C.gd (Nat.le_refl _) hm tk ht (.inr ⟨rfl, rfl⟩) hA
      rw [hmd, hnv] at c1
      exact G.asg (E.call (EE.cons (E.loc e1) (EE.cons (E.loc e2) (EE.cons (E.loc e3) (EE.cons (E.loc e4) (EE.one (E.loc e5)))))) c1) (G.fin (IH at' A' W' O r _ (hM' b.lt) hf (C.back b (by decide)) (b.mode.trans hmd) (b.items.trans hi) e1 rfl e3 e4 e5 e6))
    · obtain ⟨sl, rfl⟩ := is_start q3
      have hsc : scr = false := by
        rw [q3, Bool.true_and] at q2; exact q2
      have tr := noscript_r (F := F) (O := O) K hsc C.gd (Nat.le_refl _) hmd tk ht
      rw [hnv] at tr
      obtain ⟨v, st2, c1, A', W', O', at', m', r', rfl, rfl, f', hc⟩ := tr
      refine G.asg (E.call (EE.cons (E.loc e1) (EE.cons (E.loc e2) (EE.cons (E.loc e3) (EE.one (E.loc e4))))) c1) (G.fin ?_)
      rcases hc with ⟨rfl, b⟩ | ⟨h1, h2, rfl, h3, h4, h5, mo, h6⟩
      · exact IH at' A' W' O' r' _ (hM' b.lt) (hf.trans f') (C.back b (Nat.le_refl _)) (b.mode.trans hmd) (b.items.trans hi) e1 rfl e3 e4 e5 e6
      · exact Mine.W.stop (lt_ev (env := upd (upd env "token" (tokV (.start "noscript" sl))) "at" (.int T.length)) (tk.fr f') rfl e1 (decide_eq_false (Nat.lt_irrefl _))) (hN A' W' O' m' _ r' (hf.trans f') ⟨h3, C.ext.trans h4, h5.symm.trans C.run⟩ (.inr ⟨h1, h2⟩) ⟨mo, by rw [h6, hi]⟩ e3 e5 rfl)
    · have ps := passed_ok (c := 169) (F := F) (W := W) (m := "") (O := O) (r := r) (A := ack0 A) (C.gd.iv.flags false A.done A.wish) (C.gd.n690 K) (Nat.le_trans (C.gd.k880 K (Nat.le_refl _)) (by decide)) (K.small j t ht)
      rw [show (ack0 A).mode = "in head" from hmd, show nref (ack0 A).top = nref tp from hnv] at ps
      refine G.iteB (E.call (EE.cons (E.loc rfl) (EE.cons (E.loc e3) (EE.cons (E.loc e4) (EE.one (E.loc e5))))) ps) (fun q4 => ?_) fun q4 => ?_
      · have sw := plain_w (W := W) (j := j) (C.gd.done hjl) hm (hpl.trans (head_pass q4)) ((passA_same AB.wish (fun _ => sign_same AB.wish rfl fun _ => rfl) (fun _ => rfl) fun _ => rfl).trans C.gd.wish)
        have pm : (passA (ack0 A) t).mode = "in head" := (passA_same AB.mode (fun _ => sign_same AB.mode rfl fun _ => rfl) (fun _ => rfl) fun _ => rfl : (passA (ack0 A) t).mode = (ack0 A).mode).trans hmd
        have pi : (passA (ack0 A) t).items = base ++ [tp] := (passA_same AB.items (fun _ => sign_same AB.items rfl fun _ => rfl) (fun _ => rfl) fun _ => rfl : (passA (ack0 A) t).items = (ack0 A).items).trans hi
        have pa : (passA (ack0 A) t).ack = false := passA_same AB.ack (fun _ => sign_same AB.ack rfl fun _ => rfl) (fun _ => rfl) fun _ => rfl
        rw [if_pos q4, show (rx (passA (ack0 A) t) W "" O).slash t "in head" = rx ((passA (ack0 A) t).slash t).w0 W "" O from pm ▸ (rx_slash (B := passA (ack0 A) t) pa).symm]
        exact G.aug (.inl rfl) e2 E.cI (G.fin (IH (j + 1) _ W O r _ (hM' (Nat.lt_succ_self _)) hf (C.next K ht sw (ext_pass (A := ack0 A))) ((slash_same AB.mode rfl).trans pm) ((slash_same AB.items rfl).trans pi) e1 rfl e3 e4 e5 e6))
      · rw [if_neg (by rw [q4]; exact Bool.false_ne_true)]
        refine G.iteB (f5_ev rfl) (fun q5 => ?_) fun q5 => ?_
        · obtain ⟨hw, hs⟩ := f5_of (A := ack0 A) q5 htk
          have sw := plain_w (W := W) (j := j) (C.gd.done hjl) hm (hpl.trans hw) C.gd.wish
          have C1 := C.next K ht sw (Ext.refl _)
          rw [slash_no hs] at C1
          have er : (rx A W "" O).err "unexpected-end-tag" "in head" = rx ((ack0 A).err "unexpected-end-tag").w0 W "" O := by
            unfold RX.err AB.err
            rw [show (ack0 A).mode = "in head" from hmd]; rfl
          exact G.expr (E.to (err_ev (X := rx A W "" O) (w := "unexpected-end-tag") (m := "in head") e3 hl (E.tup (EE.cons E.cS (EE.one (E.loc e5))) (Nat.le_of_ble_eq_true rfl))) (congrArg (J F · r) er)) (G.aug (.inl rfl) e2 E.cI (G.fin (IH (j + 1) _ W O r _ (hM' (Nat.lt_succ_self _)) hf C1 hmd hi e1 rfl e3 e4 e5 e6)))
        · have hw := out_ways (A := ack0 A) htk q3 q4 (f5_not q5)
          have hb : A.items.dropLast = base := snoc_drop hi
          refine G.asgS E.cI (E.loc e4) E.cI (off_at (A := A) C.gd.iv.core hi) ?_
          cases q6 : isT t "end" "head" with
          | true =>
            rw [if_pos q6] at hw
            have e := is_end q6
            have sw := plain_w (W := W) (j := j) (C.gd.done hjl) hm (hpl.trans hw) C.gd.wish
            have C1 := C.next K ht sw (Ext.refl _)
            rw [slash_no (by rw [e]; rfl)] at C1
            have ex : rx { A with items := base } W "" O = rx (popTo (ack0 A) "after head").w0 W "" O := by rw [← hb]; rfl
            rw [ex]
            exact G.ret (E.ifT (E.to2 (E.is rfl) (congrArg XVal.bool q6) rfl) (E.add (E.loc e2) E.cI)) (hR _ W O (j + 1) _ r hf C1 rfl hb)
          | false =>
            rw [if_neg (by rw [q6]; exact Bool.false_ne_true)] at hw
            have hpp := hpl.trans hw
            have g1 : Gd T scr (popTo A "after head") W j 2 := ⟨C.gd.iv.popHead hmd, C.gd.wish, C.gd.done, C.gd.le, C.gd.scr, C.gd.wl⟩
            have same : stepW (A, W) j t = stepW (popTo A "after head", W) j t := by
              have e9 : stepA A t = stepA (popTo A "after head") t := by
                rw [step_eq (C.gd.done hjl), step_eq (A := popTo A "after head") (C.gd.done hjl), proc_plain (A := ack0 A) hm, proc_plain (A := ack0 (popTo A "after head")) (of_decide_eq_false rfl), hpp]
                rfl
              unfold stepW
              rw [show ((A, W).1) = A from rfl, show ((popTo A "after head", W).1) = popTo A "after head" from rfl, e9]
            have ex : rx { A with items := base } W "" O = rx (popTo A "after head") W "" O := by rw [← hb]; rfl
            rw [ex]
            exact G.ret (E.ifF (E.to2 (E.is rfl) (congrArg XVal.bool q6) rfl) (E.loc e2)) (hR _ W O j _ r hf ⟨g1, C.ext, by rw [← C.run, run_at ht, run_at ht, same]⟩ rfl hb)
end
end Mine
end

section
set_option maxRecDepth 100000
set_option genInjectivity false
namespace Mine
noncomputable def HPost (T : List Tok) (scr : Bool) (F : AB) (r : XSt) (A : AB) (W : WL) (base : List Int) (v : XVal) (st : XSt) : Prop := ∃ A' W' O' at' m' r', v = .int (at' : Nat) ∧ st = J F (rx A' W' m' O') r' ∧ Fr r r' ∧ HC T scr A.nodes (runW (A, W) 0 T) A' W' at' ∧
  ((m' = "" ∧ A'.mode = "after head" ∧ A'.items = base) ∨ (m' ≠ "" ∧ A'.mode = m' ∧ at' = T.length ∧ ∃ mo, A'.items = A.items ++ mo))
noncomputable def bBody : XS := (.cons (.ite (.call "_law_takes" (.cons (.sub (.loc "tokens") (.loc "at")) .nil)) (.cons (.asg "at" (.call "_law_read_taken" (.cons (.loc "tokens") (.cons (.loc "at") (.cons (.loc "told") (.cons (.loc "root") (.cons (.cS "after head") .nil))))))) .nil)
    (.cons (.expr (.call "_law_add" (.cons (.loc "root") (.cons (.cS "comment") (.cons (.cS "") (.cons (.tup .nil) (.cons (.bin .add (.cS "after, after head: ") (.call "_law_word" (.cons (.sub (.loc "tokens") (.loc "at")) .nil))) (.cons (.cI (-1)) .nil))))))))
    (.cons (.expr (.call "_law_slash" (.cons (.loc "told") (.cons (.sub (.loc "tokens") (.loc "at")) (.cons (.cS "after head") .nil))))) (.cons (.aug "at" .add (.cI 1)) .nil)))) .nil)
section
variable {A A' B F : AB} {T : List Tok} {scr sl : Bool} {at_ s n k c ti i j : Nat} {t : Tok} {W W' : WL} {m x m0 u : String} {O O' O0 : List (List Int)} {r r' : XSt} {X : RX} {env : XEnv} {base : List Int} {tp : Int} {N : List Nd} {R : AB × WL}
theorem head_r (K : TOK T scr) (g : Gd T scr A W 0 0) (hmd : A.mode = "in head") (hi : A.items = base ++ [tp]) (tk : Toks T ti r) : Cl 173 "_law_read_head" [.ref 30 ti, .ref 22 0, nref tp, .bool scr] (J F (rx A W "" O) r) (HPost T scr F r A W base) := by
  refine G.enter (fn := f__law_read_head) rfl rfl (G.asg E.cS (G.asg E.cI (G.whl (hloop (N := A.nodes) (R := runW (A, W) 0 T) (base := base) (tp := tp) (r0 := r) K tk (fun A' W' O' at' env' r' q1 q2 q3 q4 => ⟨A', W', O', at', "", r', rfl, rfl, q1, q2, .inl ⟨rfl, q3, q4⟩⟩)
    (fun A' W' O' m' env' r' q1 q2 q3 q4 e1 e2 e3 => ?_) 80 0 A W O r _ (Nat.le_trans K.len (Nat.le_add_left _ _)) .refl ⟨g.two (by decide), Ext.refl _, rfl⟩ hmd hi rfl rfl rfl rfl rfl rfl))))
  have hm' : (if m' = "" then "in head" else m') ≠ "" ∧ A'.mode = (if m' = "" then "in head" else m') := by
    rcases q3 with ⟨rfl, z⟩ | ⟨z1, z⟩
    · exact ⟨by decide, z⟩
    · rw [if_neg z1]; exact ⟨z1, z⟩
  exact G.expr (E.call (EE.cons (E.loc e1) (EE.one (E.loc e2))) out_ok) (G.ret (E.loc e3) ⟨A', W', O', T.length, (if m' = "" then "in head" else m'), r', rfl, rfl, q1, q2, .inr ⟨hm'.1, hm'.2, rfl, hi ▸ q4⟩⟩)
theorem bloop {Q : XFlow → XEnv → XSt → Prop} (K : TOK T scr) (tk : Toks T ti r)
    (hN : ∀ A' W' O' m' env', HC T scr N R A' W' T.length → ((m' = "" ∧ A'.mode = "after head") ∨ (m' = "in template" ∧ A'.mode = m')) → env' "told" = some (.ref 22 0) → Q .next env' (J F (rx A' W' m' O') r)) :
    ∀ (M j : Nat) (A : AB) (W : WL) (O : List (List Int)) (env : XEnv), T.length ≤ j + M → HC T scr N R A W j → A.mode = "after head" → A.top = tp →
      env "tokens" = some (.ref 30 ti) → env "at" = some (.int j) → env "told" = some (.ref 22 0) → env "root" = some (nref tp) → Bw 173 tTest bBody env (J F (rx A W "" O) r) Q := by
  intro M
  induction M with
  | zero =>
    intro j A W O env hM C hmd hi e1 e2 e3 e4
    obtain rfl : j = T.length := Nat.le_antisymm C.gd.le hM
    exact Mine.W.stop (lt_ev tk e2 e1 (decide_eq_false (Nat.lt_irrefl _))) (hN A W O "" env C (.inl ⟨rfl, hmd⟩) e3)
  | succ M IH =>
    intro j A W O env hM C hmd hi e1 e2 e3 e4
    by_cases hjl : j < T.length
    case neg =>
      obtain rfl : j = T.length := Nat.le_antisymm C.gd.le (Nat.le_of_not_lt hjl)
      exact Mine.W.stop (lt_ev tk e2 e1 (decide_eq_false hjl)) (hN A W O "" env C (.inl ⟨rfl, hmd⟩) e3)
    have ht : T[j]? = some T[j] := List.getElem?_eq_getElem hjl
    generalize T[j] = t at ht
    have hm : A.mode ≠ "text" := by rw [hmd]; decide
    have hM' : ∀ {at' : Nat}, j < at' → T.length ≤ at' + M := fun h => Nat.le_trans hM (by rw [← Nat.add_assoc, Nat.add_right_comm]; exact Nat.add_le_add_right h M)
    have hnv : nref A.top = nref tp := congrArg nref hi
    have tok := fun {env : XEnv} {X : RX} (e1 : env "tokens" = some (.ref 30 ti)) (e2 : env "at" = some (.int j)) => E.sub (n := 173) (st := J F X r) (E.loc e1) (E.loc e2) (tok_at tk ht)
    refine Mine.W.turn (lt_ev tk e2 e1 (decide_eq_true hjl)) (G.iteB (E.call (EE.one (tok e1 e2)) takes_ok) (fun htk => ?_) fun htk => ?_)
    · have tr := taken_r (F := F) (c := 166) (O := O) K (template_r K tk 80 j (Nat.le_trans K.len (Nat.le_add_left _ _))) C.gd (Nat.le_refl _) hm tk ht htk (fun z => absurd (hmd.symm.trans z) (by decide)) (fun z => absurd (hmd.symm.trans z) (by decide))
      rw [hmd, hnv] at tr
      obtain ⟨v, st2, c1, A', W', O', at', m', rfl, rfl, _, hc⟩ := tr
      refine G.asg (E.call (EE.cons (E.loc e1) (EE.cons (E.loc e2) (EE.cons (E.loc e3) (EE.cons (E.loc e4) (EE.one E.cS))))) (c1.le (by decide))) (G.fin ?_)
      rcases hc with ⟨rfl, b⟩ | ⟨rfl, rfl, b⟩
      · exact IH at' A' W' O' _ (hM' b.lt) (C.back b (by decide)) (b.mode.trans hmd) ((congrArg topI b.items : A'.top = A.top).trans hi) e1 rfl e3 e4
      · exact Mine.W.stop (lt_ev (env := upd env "at" (.int T.length)) tk rfl e1 (decide_eq_false (Nat.lt_irrefl _))) (hN A' W' O' "in template" _ ⟨b.gd.two (by decide), C.ext.trans b.ext, b.run.symm.trans C.run⟩ (.inr ⟨rfl, b.mode⟩) e3)
    · have hsm := K.small j t ht
      have hB : plainA (ack0 A) t = { (ack0 A).com ("after, after head: " ++ wordT t) with done := eofT t } := by
        have e9 : plainA (ack0 A) t = afterA (ack0 A) t := by
          unfold plainA
          rw [show (ack0 A).mode = "after head" from hmd]; rfl
        rw [e9]
        refine (if_neg (by rw [htk]; exact Bool.false_ne_true)).trans ?_
        unfold wordA
        rw [show (ack0 A).mode = "after head" from hmd]; rfl
      have sw := plain_w (W := W) (j := j) (C.gd.done hjl) hm hB C.gd.wish
      have ad := r_com (F := F) (W := W) (m := "") (O := O) (r := r) (k := 171) (s := "after, after head: " ++ wordT t) C.gd.core0 (Nat.le_trans (C.gd.n690 K) (by decide))
      rw [show nref (ack0 A).top = nref tp from hnv] at ad
      have hX : (rx ((ack0 A).com ("after, after head: " ++ wordT t)) W "" O).slash t "after head" = rx (({ (ack0 A).com ("after, after head: " ++ wordT t) with done := eofT t } : AB).slash t).w0 W "" O :=
        Eq.trans (congrArg (RX.slash _ t) hmd.symm) (rx_slash (B := { (ack0 A).com ("after, after head: " ++ wordT t) with done := eofT t }) rfl).symm
      exact G.expr (E.call (EE.cons (E.loc e4) (EE.cons E.cS (EE.cons E.cS (EE.cons (E.tup .nil (Nat.zero_le _)) (EE.cons (E.cat E.cS (E.call (EE.one (tok e1 e2)) (word_ok (Nat.le_trans hsm.word (by decide)))) (Nat.le_trans (Nat.add_le_add (show 19 ≤ 19 by decide) hsm.word) (by decide))) (EE.one E.cI)))))) ad)
        (G.expr (E.to (E.call (EE.cons (E.loc e3) (EE.cons (tok e1 e2) (EE.one E.cS))) (slash_ok (C.gd.errs K (Nat.le_refl _)))) (congrArg (J F · r) hX)) (G.aug (.inl rfl) e2 E.cI (G.fin
        (IH (j + 1) _ W O _ (hM' (Nat.lt_succ_self _)) (C.next K ht sw ext_com) ((slash_same AB.mode rfl).trans hmd) ((congrArg topI (slash_same AB.items rfl)).trans hi) e1 rfl e3 e4))))
theorem behind_r (K : TOK T scr) (C : HC T scr N R A W j) (hmd : A.mode = "after head") (tk : Toks T ti r) :
    Cl 173 "_law_read_behind" [.ref 30 ti, .int j, .ref 22 0, nref A.top] (J F (rx A W "" O) r) fun v st => v = .none ∧ ∃ A' W' O', st = J F (rx A' W' A'.mode O') r ∧ HC T scr N R A' W' T.length := by
  refine G.enter (fn := f__law_read_behind) rfl rfl (G.whl (bloop (N := N) (R := R) (tp := A.top) K tk (fun A' W' O' m' env' q1 q2 e1 => ?_) 80 j A W O _ (Nat.le_trans K.len (Nat.le_add_left _ _)) C hmd rfl rfl rfl rfl rfl))
  have hX : (rx A' W' m' O').out "after head" = rx A' W' A'.mode O' := by
    rcases q2 with ⟨rfl, z⟩ | ⟨rfl, z⟩ <;> rw [z] <;> rfl
  exact G.expr (E.to (E.call (EE.cons (E.loc e1) (EE.one E.cS)) out_ok) (congrArg (J F · r) hX)) (G.fin ⟨rfl, A', W', O', rfl, q1⟩)
end
end Mine
end

section
set_option maxRecDepth 100000
set_option genInjectivity false
namespace Mine
structure G28 (r r' : XSt) : Prop where
  off : ∀ q, q ≠ 28 → r' q = r q
  on : ∀ (i : Nat) (o : XObj), (r 28)[i]? = some o → (r' 28)[i]? = some o
section
variable {A A' B F : AB} {s n k c i j f : Nat} {W W' : WL} {m x u : String} {O : List (List Int)} {r r' r2 : XSt} {X : RX} {env : XEnv} {o : XObj} {nd : Nd} {st : XSt} {xs ys : List XVal} {p q : Nat}
theorem G28.refl : G28 r r := ⟨fun _ _ => rfl, fun _ _ h => h⟩
theorem G28.trans (h : G28 r r') (h2 : G28 r' r2) : G28 r r2 := ⟨fun q hq => (h2.off q hq).trans (h.off q hq), fun i o e => h2.on i o (h.on i o e)⟩
theorem G28.push : G28 r (r.push 28 o) := ⟨fun q hq => if_neg hq, fun i o' e => by
  show (r 28 ++ [o])[i]? = _
  rw [List.getElem?_append_left (List.getElem?_eq_some_iff.mp e).1]; exact e⟩
theorem J_28 : (J F X r).push 28 o = J F X (r.push 28 o) := by
  rw [push_pt, pt_B (by decide), show RSt X r = glue (over (rB X (kidsO nref X.nodes)) r) (ndR X.pl X.nodes) from rfl, pt_lo (by decide)]
  refine congrArg (fun f => BSt F (glue f (ndR X.pl X.nodes))) (funext fun q => ?_)
  by_cases e : q = 28
  · subst e; rfl
  · show (if q = 28 then _ else over _ r q) = _
    rw [if_neg e]
    show _ = ((rB X (kidsO nref X.nodes))[q]?).getD (if q = 28 then _ else r q)
    rw [if_neg e]; rfl
theorem new28 : ((r.push 28 o) 28)[(r 28).length]? = some o := List.getElem?_concat_length
theorem q_str {a : String} : Eqv st n (.str a) (.str a) := .el (.sc ((decide_eq_true (rfl : a = a)) ▸ Eqs.str a a))
theorem q_int {a : Int} : Eqv st n (.int a) (.int a) := .el (.sc ((decide_eq_true (rfl : a = a)) ▸ Eqs.int a a))
theorem q_list (ne : p ≠ q) (h1 : (st p)[i]? = some (.list xs)) (h2 : (st q)[j]? = some (.list ys)) (h : All2 (Eqv st n) xs ys) : Eqv st (n + 1) (.ref p i) (.ref q j) := by
  refine .list (fun z => ne z.1) h1 h2 h.length ?_
  clear h1 h2
  induction h with
  | nil => exact fun k x y z => nomatch z
  | cons a b ih =>
    intro k x y h1 h2
    cases k with
    | zero => cases h1; cases h2; exact a
    | succ k => exact ih k x y h1 h2
theorem q_pair (a : String × String) : Eqv st n (pairV a) (pairV a) := by
  have h := eqt2 (u := a.1) (v := a.2) (a := a.1) (b := a.2)
  rw [decide_eq_true (rfl : a.1 = a.1), decide_eq_true (rfl : a.2 = a.2)] at h
  exact .el h
theorem q_pairs (l : List (String × String)) : All2 (Eqv st n) (l.map pairV) (l.map pairV) := by
  induction l with
  | nil => exact .nil
  | cons a l ih => exact .cons (q_pair a) ih
theorem idx_at {l : List Int} {a : Int} (h : a ∈ l) : ∃ bs : List Bool, All2 (fun x c => Eqt x (.int a) c) (l.map .int) bs ∧ bs[l.idxOf a]? = some true ∧ ∀ m, m < l.idxOf a → bs[m]? = some false := by
  induction l with
  | nil => exact nomatch h
  | cons b l ih =>
    rw [List.idxOf_cons]
    by_cases e : b = a
    · subst e
      rw [beq_self_eq_true]
      have hr : ∃ bs : List Bool, All2 (fun x c => Eqt x (.int b) c) (l.map .int) bs := ⟨l.map fun i => decide (i = b), by
        clear ih h
        induction l with
        | nil => exact .nil
        | cons c l ih => exact .cons (.sc (.int c b)) ih⟩
      obtain ⟨bs, hb⟩ := hr
      exact ⟨true :: bs, .cons (.sc ((decide_eq_true (rfl : b = b)) ▸ Eqs.int b b)) hb, rfl, fun m hm => absurd hm (Nat.not_lt_zero m)⟩
    · obtain ⟨bs, h1, h2, h3⟩ := ih ((List.mem_cons.mp h).resolve_left (Ne.symm e))
      rw [beq_false_of_ne e]
      refine ⟨false :: bs, .cons (.sc ((decide_eq_false e) ▸ Eqs.int b a)) h1, h2, fun m hm => ?_⟩
      cases m with
      | zero => rfl
      | succ m => exact h3 m (Nat.lt_of_succ_lt_succ hm)
theorem place_r : CV n "OpenStack.place" [.ref 3 0, .int j] (BSt F r) (.int (placeI F.items j)) (BSt F r) := Cl.is <|
  G.enter (fn := f_OpenStack_place) rfl rfl (G.iteD (P := (j : Int) ∈ F.items) (E.inI (E.loc rfl) (E.attr (E.loc rfl) rfl) rfl)
    (fun q => let ⟨bs, h1, h2, h3⟩ := idx_at q; G.ret (E.index (ys := F.items.map .int) (E.attr (E.loc rfl) rfl) rfl (E.loc rfl) rfl h1 h2 h3) ⟨congrArg XVal.int (if_pos q).symm, rfl⟩) fun q => G.ret E.cI ⟨congrArg XVal.int (if_neg q).symm, rfl⟩)
noncomputable def Lk (F : AB) (X : RX) (r : XSt) (f : Nat) (v : XVal) (c : Int) : Prop := ∀ r2, G28 r r2 → Eqv (J F X r2) f v (nref c)
theorem comp_kids (hi : i < F.nodes.length) (he : env "builder" = some (.ref 1 0)) : ∀ (cs : List Int) (k : Nat) (r : XSt), (kidsFrom F.nodes 0 (i : Int)).drop k = cs → (∀ c ∈ cs, ∀ r, ∃ v r', CV n "_law_plain" [.ref 1 0, .int c] (J F X r) v (J F X r') ∧ G28 r r' ∧ Lk F X r' f v c) →
    ∃ vs r', CS (n + 1) (narrow env ["builder"]) "child" (.call "_law_plain" (.cons (.loc "builder") (.cons (.loc "child") .nil))) (IL 14 i k) (J F X r) vs (J F X r') ∧ G28 r r' ∧ All2 (Lk F X r' f) vs cs := by
  intro cs
  induction cs with
  | nil => exact fun k r hk _ => ⟨[], r, .done (L.end (g_14 hi) (by rw [List.getElem?_map, List.getElem?_eq_none (List.drop_eq_nil_iff.mp hk)]; rfl)), .refl, .nil⟩
  | cons c cs ih =>
    intro k r hk H
    have hk := drop_cons hk
    obtain ⟨v, r1, h1, h2, h3⟩ := H c (.head _) r
    obtain ⟨vs, r2, i1, i2, i3⟩ := ih (k + 1) r1 hk.2 fun c' hc => H c' (.tail _ hc)
    exact ⟨v :: vs, r2, .item (L.item (v := .int c) (g_14 hi) (by rw [List.getElem?_map, hk.1]; rfl)) (E.call (EE.cons (E.loc he) (EE.one (E.loc rfl))) h1) i1, h2.trans i2, .cons (fun r3 g => h3 r3 (i2.trans g)) i3⟩
theorem q_kids {vs : List XVal} {cs : List Int} (h : All2 (Lk F X r f) vs cs) (g : G28 r r2) : All2 (Eqv (J F X r2) f) vs (cs.map nref) := by
  induction h with
  | nil => exact .nil
  | cons a b ih => exact .cons (a r2 g) ih
end
end Mine
end

section
set_option maxRecDepth 100000
set_option genInjectivity false
namespace Mine
section
variable {A A' B F : AB} {s n k c i j f b : Nat} {W : List (Nat × String)} {m u : String} {O : List (List Int)} {r r' r2 : XSt} {X : RX} {env : XEnv} {o : XObj} {nd : Nd} {st : XSt} {xs ys : List XVal} {p q : Nat} {a1 a2 b1 b2 c1 c2 cV : XVal}
theorem row_eq {k s nm tx : String} {pl : Int} (ne : p ≠ q) (h1 : (st p)[i]? = some (.list [.str k, .str s, .str nm, a1, .str tx, .int pl, b1, c1])) (h2 : (st q)[j]? = some (.list [.str k, .str s, .str nm, a2, .str tx, .int pl, b2, c2])) (ha : Eqv st f a1 a2) (hb : Eqv st f b1 b2) (hc : Eqv st f c1 c2) : Eqv st (f + 1) (.ref p i) (.ref q j) :=
  q_list ne h1 h2 (.cons q_str (.cons q_str (.cons q_str (.cons ha (.cons q_str (.cons q_int (.cons hb (.cons hc .nil))))))))
theorem kid_at {c : Int} (C : Core F n) (h : c ∈ kidsFrom F.nodes 0 (i : Int)) : ∃ (q : Nat) (nq : Nd), c = q ∧ F.nodes[q]? = some nq ∧ i < q ∧ nq.kind ≠ "fragment" := by
  obtain ⟨q, nq, e, h1, h2⟩ := kids_mem F.nodes 0 h
  rw [Nat.zero_add] at e
  have hu := C.up q nq h1
  rw [h2] at hu
  exact ⟨q, nq, e, h1, Int.ofNat_lt.mp hu.2, fun z => absurd ((C.nd q nq h1).un z) (by rw [h2]; exact fun y => nomatch y)⟩
theorem hi28 {j : Nat} : 28 ≠ 100 + j := fun z => absurd z (Nat.ne_of_lt (Nat.lt_of_lt_of_le (by decide) (Nat.le_add_right 100 j)))
theorem hi13 {j : Nat} : 13 ≠ 100 + j := fun z => absurd z (Nat.ne_of_lt (Nat.lt_of_lt_of_le (by decide) (Nat.le_add_right 100 j)))
theorem upd_ne {x y : String} {v : XVal} (h : ¬ y = x) : upd env x v y = env y := if_neg h
theorem at28 : (J F X r) 28 = r 28 := rfl
theorem g_13 (h : F.nodes[j]? = some nd) : (J F X r 13)[j]? = some (.list (nd.attrs.map pairV)) := by
  show (F.nodes.map fun n => XObj.list (n.attrs.map pairV))[j]? = _
  rw [List.getElem?_map, h]; rfl
theorem plain_tail (hj : F.nodes[j]? = some nd) (hk : nd.kind ≠ "fragment") (X0 : X.nodes = F.nodes) (X1 : X.pl = placeI F.items) (e1 : env "builder" = some (.ref 1 0)) (e2 : env "node" = some (.int j)) (e3 : env "tree" = some (.ref 2 0)) (e4 : env "below" = some (.ref 28 b)) (e5 : env "contents" = some cV)
    (hb : ∀ r2, G28 r r2 → Eqv (J F X r2) (f + 1) (.ref 28 b) (.ref 25 j)) (hc : ∀ r2, G28 r r2 → Eqv (J F X r2) (f + 1) cV (if nd.name = "template" then .ref 25 (j + 1) else .none)) :
    Bx (n + 1) (.cons (.asg "row" (.list (.cons (.sub (.attr (.loc "tree") "kinds") (.loc "node")) (.cons (.sub (.attr (.loc "tree") "spaces") (.loc "node")) (.cons (.sub (.attr (.loc "tree") "names") (.loc "node")) (.cons (.sub (.attr (.loc "tree") "attrs") (.loc "node")) (.cons (.sub (.attr (.loc "tree") "texts") (.loc "node")) .nil)))))))
      (.cons (.ret (.bin .add (.loc "row") (.list (.cons (.meth (.attr (.loc "builder") "stack") "place" (.cons (.loc "node") .nil)) (.cons (.loc "below") (.cons (.loc "contents") .nil)))))) .nil)) env (J F X r) fun fl _ st => ∃ r', st = J F X r' ∧ G28 r r' ∧ Lk F X r' (f + 2) fl.val j := by
  have hX : X.nodes[j]? = some nd := X0 ▸ hj
  have hat : F.at (j : Int) nd := ⟨j, rfl, hj⟩
  have hjl := (List.getElem?_eq_some_iff.mp hj).1
  have s8 : subX (J F X r) (.ref 8 0) (.int j) = some (.ref 13 j) := sub_at rfl (refs_at hjl)
  refine G.asg (E.to (E.list 28 (EE.cons (E.sub (E.attr (E.loc e3) rfl) (E.loc e2) (s_5 hat)) (EE.cons (E.sub (E.attr (E.loc e3) rfl) (E.loc e2) (s_6 hat)) (EE.cons (E.sub (E.attr (E.loc e3) rfl) (E.loc e2) (s_7 hat)) (EE.cons (E.sub (E.attr (E.loc e3) rfl) (E.loc e2) s8) (EE.one (E.sub (E.attr (E.loc e3) rfl) (E.loc e2) (s_9 hat))))))) (Nat.le_of_ble_eq_true rfl)) J_28) ?_
  generalize hr1 : r.push 28 (.list [.str nd.kind, .str nd.space, .str nd.name, .ref 13 j, .str nd.text]) = r1
  have g1 : G28 r r1 := hr1 ▸ G28.push
  have l1 : (r1 28)[(r 28).length]? = some (.list [.str nd.kind, .str nd.space, .str nd.name, .ref 13 j, .str nd.text]) := hr1 ▸ new28
  have c2 : EV (n + 1) (upd env "row" (.ref 28 (r 28).length)) (J F X r1) (.list (.cons (.meth (.attr (.loc "builder") "stack") "place" (.cons (.loc "node") .nil)) (.cons (.loc "below") (.cons (.loc "contents") .nil)))) _ _ := E.to (E.list 28 (EE.cons (E.own (cl := "OpenStack") (E.attr (E.loc ((upd_ne (by decide)).trans e1)) rfl) rfl (EE.one (E.loc ((upd_ne (by decide)).trans e2))) (place_r (F := F) (r := RSt X r1))) (EE.cons (E.loc ((upd_ne (by decide)).trans e4)) (EE.one (E.loc ((upd_ne (by decide)).trans e5))))) (Nat.le_of_ble_eq_true rfl)) J_28
  generalize hr2 : r1.push 28 (.list [.int (placeI F.items j), .ref 28 b, cV]) = r2 at c2
  have g2 : G28 r1 r2 := hr2 ▸ G28.push
  have l2 : (r2 28)[(r1 28).length]? = some (.list [.int (placeI F.items j), .ref 28 b, cV]) := hr2 ▸ new28
  refine G.ret (E.to (E.catL 28 (E.loc rfl) c2 (g2.on _ _ l1) l2 (Nat.le_of_ble_eq_true rfl)) J_28) ⟨_, rfl, g1.trans (g2.trans G28.push), fun r3 g => ?_⟩
  have l3 := g.on _ _ (new28 (r := r2))
  have g4 : G28 r r3 := g1.trans (g2.trans (G28.push.trans g))
  refine row_eq hi28 l3 ((getL_some (g_nd (X := X) hX hk)).trans (by rw [X1]; rfl)) (q_list hi13 (g_13 hj) ?_ (q_pairs nd.attrs)) (hb r3 g4) (hc r3 g4)
  show (BSt F (glue _ _) (100 + j))[0]? = _
  rw [J_hi, ndR_at hX hk]; rfl
theorem q_below {vs : List XVal} (hi : i < X.nodes.length) (X0 : X.nodes = F.nodes) (h : All2 (Lk F X r f) vs (kidsFrom F.nodes 0 (i : Int))) (hb : ((r.push 28 (.list vs)) 28)[b]? = some (.list vs)) : ∀ r2, G28 (r.push 28 (.list vs)) r2 → Eqv (J F X r2) (f + 1) (.ref 28 b) (.ref 25 i) :=
  fun r2 g => q_list (by decide) (show (r2 28)[b]? = _ from g.on _ _ hb) (k_25 hi) (X0 ▸ q_kids h (G28.push.trans g))
theorem in_tm {n : Int} {l : List Int} : (lookupI n (tmD l)).isSome = decide (n ∈ l) := by
  rw [look_tm]
  by_cases h : n ∈ l
  · rw [if_pos h, decide_eq_true h]; rfl
  · rw [if_neg h, decide_eq_false h]; rfl
theorem plain_r (C : Core F n) (hn : n ≤ 900) (X0 : X.nodes = F.nodes) (X1 : X.pl = placeI F.items) : ∀ (M j : Nat) (nd : Nd), F.nodes.length ≤ j + M → F.nodes[j]? = some nd → nd.kind ≠ "fragment" → ∀ r, ∃ v r', CV (M + 5) "_law_plain" [.ref 1 0, .int j] (J F X r) v (J F X r') ∧ G28 r r' ∧ Lk F X r' (2 * M + 2) v j := by
  intro M
  induction M with
  | zero => exact fun j nd h1 h2 => absurd (List.getElem?_eq_some_iff.mp h2).1 (Nat.not_lt.mpr h1)
  | succ M ih =>
    intro j nd hM hj hk r
    have hjl := (List.getElem?_eq_some_iff.mp hj).1
    have kid : ∀ i, j ≤ i → ∀ c ∈ kidsFrom F.nodes 0 ((i : Nat) : Int), ∀ r, ∃ v r', CV (M + 5) "_law_plain" [.ref 1 0, .int c] (J F X r) v (J F X r') ∧ G28 r r' ∧ Lk F X r' (2 * M + 2) v c := fun i hi c hc r => by
      obtain ⟨q, nq, rfl, h1, h2, h3⟩ := kid_at C hc
      exact ih q nq (Nat.le_trans hM (by rw [← Nat.add_assoc, Nat.add_right_comm]; exact Nat.add_le_add_right (Nat.succ_le_of_lt (Nat.lt_of_le_of_lt hi h2)) M)) h1 h3 r
    have lim : ∀ {vs : List XVal} {i : Nat} {r}, All2 (Lk F X r (2 * M + 2)) vs (kidsFrom F.nodes 0 (i : Int)) → vs.length ≤ LIM := fun h => by
      rw [h.length]
      exact Nat.le_trans (kids_len F.nodes _ 0) (Nat.le_trans C.nodes (Nat.le_trans hn (by decide)))
    suffices h : Cl (M + 1 + 5) "_law_plain" [.ref 1 0, .int j] (J F X r) fun v st => ∃ r', st = J F X r' ∧ G28 r r' ∧ Lk F X r' (2 * (M + 1) + 2) v j from by
      obtain ⟨v, _, h1, r', rfl, h2, h3⟩ := h
      exact ⟨v, r', h1, h2, h3⟩
    obtain ⟨vs, r1, k1, k2, k3⟩ := comp_kids (X := X) (n := M + 5) (env := upd (envOf [("builder", .ref 1 0), ("node", .int j)]) "tree" (.ref 2 0)) hjl rfl _ 0 r rfl (kid j (Nat.le_refl j))
    refine G.enter (fn := f__law_plain) rfl rfl (G.asg (E.attr (E.loc rfl) rfl) (G.asgC 28 (E.sub (E.attr (E.loc rfl) rfl) (E.loc rfl) (s_11 hjl)) (.inl ⟨14, j, _, rfl, g_14 hjl, rfl⟩) k1 (lim k3) ?_))
    rw [J_28]
    have b1 := q_below (X0 ▸ hjl) X0 k3 new28
    have n1 := new28 (r := r1) (o := .list vs)
    have g1 : G28 r (r1.push 28 (.list vs)) := k2.trans .push
    generalize r1.push 28 (.list vs) = r2 at b1 n1 g1
    have tm := (C.nd j nd hj).tm
    refine G.asg E.cN (G.iteD (P := (j : Int) ∈ F.tm) (E.to2 (E.inD (es := tmD F.tm) (E.loc rfl) (E.attr (E.loc rfl) rfl) rfl) (congrArg XVal.bool in_tm) rfl) (fun t => ?_) fun t => ?_)
    · obtain ⟨fr, f1, f2⟩ := (C.nd j nd hj).fr (tm.mp t)
      have hfl := (List.getElem?_eq_some_iff.mp f1).1
      obtain ⟨ws, r3, m1, m2, m3⟩ := comp_kids (X := X) (n := M + 5) (env := upd (upd (upd (envOf [("builder", .ref 1 0), ("node", .int j)]) "tree" (.ref 2 0)) "below" (.ref 28 (r1 28).length)) "contents" .none) hfl rfl _ 0 r2 rfl (kid (j + 1) (Nat.le_succ j))
      refine G.asgC 28 (E.sub (E.attr (E.loc rfl) rfl) (E.sub (E.attr (E.loc rfl) rfl) (E.loc rfl) (look_tm.trans (if_pos t))) (s_11 hfl)) (.inl ⟨14, j + 1, _, rfl, g_14 hfl, rfl⟩) m1 (lim m3) ?_
      rw [J_28]
      have b2 := q_below (X0 ▸ hfl) X0 m3 new28
      refine (plain_tail hj hk X0 X1 rfl rfl rfl rfl rfl (fun r4 g => b1 r4 (m2.trans (G28.push.trans g))) fun r4 g => ?_).mono ?_
      · rw [if_pos (tm.mp t)]; exact b2 r4 g
      · exact fun fl env st ⟨r', h1, h2, h3⟩ => ⟨r', h1, g1.trans (m2.trans (G28.push.trans h2)), h3⟩
    · refine (plain_tail hj hk X0 X1 rfl rfl rfl rfl rfl b1 fun r4 g => ?_).mono ?_
      · rw [if_neg fun z => t (tm.mpr z)]; exact .el (.sc .none)
      · exact fun fl env st ⟨r', h1, h2, h3⟩ => ⟨r', h1, g1.trans h2, h3⟩
end
end Mine
end

section
set_option maxRecDepth 100000
set_option genInjectivity false
namespace Mine
noncomputable def A0 (scr : Bool) : AB := ⟨[docNd], [], [], [], [], [], "initial", "", -1, true, scr, "", false, false⟩
noncomputable def bT (a1 a2 : List XObj) : List (List XObj) := [[], a1, a2, [], [], [], [], [], [], [], [], [], [], [], [], [], [], [], [], [], [], [.sdict rulesD]]
noncomputable def bU (a1 a3 a4 a15 a16 a17 a18 a19 a20 : List XObj) : List (List XObj) := [[], a1, [.inst "Tree" tF], a3, a4, [.list [.str "document"]], [.list [.str ""]], [.list [.str ""]], [.list [.ref 13 0]], [.list [.str ""]], [.list [.int (-1)]], [.list [.ref 14 0]], [.idict []], [.list []], [.list []], a15, a16, a17, a18, a19, a20, [.sdict rulesD]]
noncomputable def bW (a1 : List XObj) (i j : Nat) : List (List XObj) := [] :: a1 :: [.inst "Tree" (tF.take i)] :: [] :: [] :: (List.replicate i [.list []] ++ List.replicate j [] ++ [[.sdict rulesD]])
noncomputable def bM (a1 a5 a6 a7 a8 a9 a10 a11 a13 a14 : List XObj) : List (List XObj) := [[], a1, [.inst "Tree" tF], [], [], a5, a6, a7, a8, a9, a10, a11, [.idict []], a13, a14, [], [], [], [], [], [], [.sdict rulesD]]
noncomputable def bi (scr : Bool) (i : Nat) : List XObj := [.inst "Builder" ((bF (A0 scr)).take i)]
noncomputable def lE : List XObj := [.list []]
noncomputable def i3 : List XObj := [.inst "OpenStack" [("tree", .ref 2 0), ("items", .ref 15 0)]]
noncomputable def i4 : List XObj := [.inst "Formatting" [("tree", .ref 2 0), ("items", .ref 16 0)]]
section
variable {b : List (List XObj)} {r st st2 : XSt} {k n : Nat} {cn a : String} {v : XVal} {fs : List (String × XVal)} {es : XE} {vs : List XVal} {env : XEnv} {a1 a3 a4 a15 a16 : List XObj} {scr : Bool}
theorem over_at {l : List XObj} (h : b[k]? = some l) : over b r k = l := by unfold over; rw [h]; rfl
theorem o_att (h : b[k]? = some [.inst cn fs]) (hl : Nat.ble fs.length 100 = true) : setAttrX (over b r) (.ref k 0) a v = some (over (b.set k [.inst cn (storeS a v fs)]) r) := by
  show ((over b r k)[0]?.bind _) = _
  rw [over_at h]
  show (if fs.length ≤ 100 then some (XObj.inst cn (storeS a v fs)) else none).map (fun o => (over b r).set k 0 o) = _
  rw [if_pos (Nat.le_of_ble_eq_true hl)]
  exact congrArg some (over_set h)
theorem E.newO (k : Nat) (h : b[k]? = some []) (h1 : EVS (n + 2) env st es vs (over b r)) (h2 : CV n (cn ++ ".__init__") (.ref k 0 :: vs) (over (b.set k [.inst cn []]) r) .none st2) : EV (n + 2) env st (.new cn es) (.ref k 0) st2 := by
  have e : (over b r k).length = 0 := by rw [over_at h]; rfl
  have := E.new (cn := cn) (st2 := st2) k h1
  rw [e, over_push h] at this
  exact this h2
theorem E.listO (k : Nat) (h : b[k]? = some []) : EV n env (over b r) (.list .nil) (.ref k 0) (over (b.set k [.list []]) r) := by
  have := E.list (n := n) (env := env) (st := over b r) k .nil (Nat.zero_le _)
  rw [over_at h, over_push h] at this
  exact this
theorem E.edictO (k : Nat) (h : b[k]? = some []) : EV n env (over b r) .edict (.ref k 0) (over (b.set k [.idict []]) r) := by
  have := E.edict (n := n) (env := env) (st := over b r) k
  rw [over_at h, over_push h] at this
  exact this
theorem o_init {q j : Nat} {f : String} {fn : XFn} {cl : String} (hf : progT.lookup f = some fn) (hp : fn.params = ["self", "tree"]) (hd : fn.dflts = []) (hb : fn.body = .cons (.asgA (.loc "self") "tree" (.loc "tree")) (.cons (.asgA (.loc "self") "items" (.list .nil)) .nil)) (hq : b[q]? = some [.inst cl []]) (hj : b[j]? = some []) (ne : q ≠ j) :
    CV n f [.ref q 0, .ref 2 0] (over b r) .none (over (((b.set q [.inst cl [("tree", .ref 2 0)]]).set j [.list []]).set q [.inst cl [("tree", .ref 2 0), ("items", .ref j 0)]]) r) := Cl.is <| by
  refine G.enter (bs := [("self", .ref q 0), ("tree", .ref 2 0)]) hf (by rw [hp, hd]; rfl) ?_
  rw [hb]
  have hql := (List.getElem?_eq_some_iff.mp hq).1
  refine G.asgA (E.loc rfl) (E.loc rfl) (o_att hq rfl) (G.asgA (E.listO j ?_) (E.loc rfl) (o_att (cn := cl) (fs := [("tree", .ref 2 0)]) ?_ rfl) (G.fin ⟨rfl, rfl⟩))
  · rw [List.getElem?_set_ne ne]; exact hj
  · rw [List.getElem?_set_ne (Ne.symm ne), List.getElem?_set_self hql]; rfl
theorem G.asgV {b b' b2 : List (List XObj)} {a o : String} {q : Nat} {ss : XS} {e : XE} {Q : XFlow → XEnv → XSt → Prop} (h : EV n env (over b r) e v (over b' r)) (ho : env o = some (.ref q 0)) (hq : b'[q]? = some [.inst cn fs]) (hl : Nat.ble fs.length 100 = true) (hs : b'.set q [.inst cn (storeS a v fs)] = b2) (k : Bx n ss env (over b2 r) Q) : Bx n (.cons (.asgA (.loc o) a e) ss) env (over b r) Q :=
  G.asgA h (E.loc ho) (o_att hq hl) (hs ▸ k)
theorem tree_init : CV (n + 1) "Tree.__init__" [.ref 2 0] (over (bW a1 0 16) r) .none (over (bU a1 [] [] [] [] [] [] [] []) r) := Cl.is <| by
  refine G.enter (fn := f_Tree_init) rfl rfl ?_
  refine G.asgV (E.listO 5 rfl) rfl rfl rfl (b2 := bW a1 1 15) rfl ?_
  refine G.asgV (E.listO 6 rfl) rfl rfl rfl (b2 := bW a1 2 14) rfl ?_
  refine G.asgV (E.listO 7 rfl) rfl rfl rfl (b2 := bW a1 3 13) rfl ?_
  refine G.asgV (E.listO 8 rfl) rfl rfl rfl (b2 := bW a1 4 12) rfl ?_
  refine G.asgV (E.listO 9 rfl) rfl rfl rfl (b2 := bW a1 5 11) rfl ?_
  refine G.asgV (E.listO 10 rfl) rfl rfl rfl (b2 := bW a1 6 10) rfl ?_
  refine G.asgV (E.listO 11 rfl) rfl rfl rfl (b2 := bW a1 7 9) rfl ?_
  refine G.asgV (E.edictO 12 rfl) rfl rfl rfl (b2 := bM a1 lE lE lE lE lE lE lE [] []) rfl ?_
  refine G.expr (E.own (cl := "Tree") (v := .int 0) (E.loc rfl) rfl (EE.one E.cS) (Cl.is ?_)) (G.fin ⟨rfl, rfl⟩)
  refine G.enter (fn := f_Tree_add) rfl rfl ?_
  refine G.expr (E.to (E.append (E.attr (E.loc rfl) rfl) rfl (E.loc rfl) rfl (by decide)) (over_set rfl)) ?_
  refine G.expr (E.to (E.append (E.attr (E.loc rfl) rfl) rfl (E.loc rfl) rfl (by decide)) (over_set rfl)) ?_
  refine G.expr (E.to (E.append (E.attr (E.loc rfl) rfl) rfl (E.loc rfl) rfl (by decide)) (over_set rfl)) ?_
  refine G.expr (E.to (E.append (E.attr (E.loc rfl) rfl) rfl (E.to (E.mkl 13 (E.loc rfl) (by decide)) (over_push rfl)) rfl (by decide)) (over_set rfl)) ?_
  refine G.expr (E.to (E.append (E.attr (E.loc rfl) rfl) rfl (E.loc rfl) rfl (by decide)) (over_set rfl)) ?_
  refine G.expr (E.to (E.append (E.attr (E.loc rfl) rfl) rfl E.cI rfl (by decide)) (over_set rfl)) ?_
  refine G.expr (E.to (E.append (E.attr (E.loc rfl) rfl) rfl (E.listO 14 rfl) rfl (by decide)) (over_set rfl)) ?_
  exact G.ret (E.sbt (E.len (E.attr (E.loc rfl) rfl) (len_L rfl)) E.cI) ⟨rfl, rfl⟩
theorem builder_init : CV (n + 3) "Builder.__init__" [.ref 1 0, .ref 21 0, .bool scr] (over (bT [.inst "Builder" []] []) r) .none (BSt (A0 scr) r) := Cl.is <| by
  refine G.enter (fn := f_Builder_init) rfl rfl ?_
  refine G.asgV (E.loc rfl) rfl rfl rfl (b2 := bT (bi scr 1) []) rfl ?_
  refine G.asgV (E.newO 2 rfl EE.nil tree_init) rfl rfl rfl (b2 := bU (bi scr 2) [] [] [] [] [] [] [] []) rfl ?_
  refine G.asgV (E.newO 3 rfl (EE.one (E.attr (E.loc rfl) rfl)) (o_init (fn := f_OpenStack_init) (j := 15) rfl rfl rfl rfl rfl rfl (by decide))) rfl rfl rfl (b2 := bU (bi scr 3) i3 [] lE [] [] [] [] []) rfl ?_
  refine G.asgV (E.newO 4 rfl (EE.one (E.attr (E.loc rfl) rfl)) (o_init (fn := f_Formatting_init) (j := 16) rfl rfl rfl rfl rfl rfl (by decide))) rfl rfl rfl (b2 := bU (bi scr 4) i3 i4 lE lE [] [] [] []) rfl ?_
  refine G.asgV E.cS rfl rfl rfl (b2 := bU (bi scr 5) i3 i4 lE lE [] [] [] []) rfl ?_
  refine G.asgV E.cS rfl rfl rfl (b2 := bU (bi scr 6) i3 i4 lE lE [] [] [] []) rfl ?_
  refine G.asgV (E.listO 17 rfl) rfl rfl rfl (b2 := bU (bi scr 7) i3 i4 lE lE lE [] [] []) rfl ?_
  refine G.asgV E.cI rfl rfl rfl (b2 := bU (bi scr 8) i3 i4 lE lE lE [] [] []) rfl ?_
  refine G.asgV E.cI rfl rfl rfl (b2 := bU (bi scr 9) i3 i4 lE lE lE [] [] []) rfl ?_
  refine G.asgV (E.edictO 18 rfl) rfl rfl rfl (b2 := bU (bi scr 10) i3 i4 lE lE lE [.idict []] [] []) rfl ?_
  refine G.asgV E.cB rfl rfl rfl (b2 := bU (bi scr 11) i3 i4 lE lE lE [.idict []] [] []) rfl ?_
  refine G.asgV (E.loc rfl) rfl rfl rfl (b2 := bU (bi scr 12) i3 i4 lE lE lE [.idict []] [] []) rfl ?_
  refine G.asgV E.cB rfl rfl rfl (b2 := bU (bi scr 13) i3 i4 lE lE lE [.idict []] [] []) rfl ?_
  refine G.asgV E.cI rfl rfl rfl (b2 := bU (bi scr 14) i3 i4 lE lE lE [.idict []] [] []) rfl ?_
  refine G.asgV E.cS rfl rfl rfl (b2 := bU (bi scr 15) i3 i4 lE lE lE [.idict []] [] []) rfl ?_
  refine G.asgV (E.listO 19 rfl) rfl rfl rfl (b2 := bU (bi scr 16) i3 i4 lE lE lE [.idict []] lE []) rfl ?_
  refine G.asgV (E.listO 20 rfl) rfl rfl rfl (b2 := bU (bi scr 17) i3 i4 lE lE lE [.idict []] lE lE) rfl ?_
  refine G.asgV E.cS rfl rfl rfl (b2 := bU (bi scr 18) i3 i4 lE lE lE [.idict []] lE lE) rfl ?_
  refine G.asgV E.cB rfl rfl rfl (b2 := bU (bi scr 19) i3 i4 lE lE lE [.idict []] lE lE) rfl ?_
  refine G.asgV E.cB rfl rfl rfl (b2 := bU (bi scr 20) i3 i4 lE lE lE [.idict []] lE lE) rfl ?_
  refine G.asgV E.cB rfl rfl rfl (b2 := bU (bi scr 21) i3 i4 lE lE lE [.idict []] lE lE) rfl ?_
  exact G.fin ⟨rfl, rfl⟩
end
end Mine
end

section
set_option maxRecDepth 100000
set_option genInjectivity false
namespace Mine
noncomputable def htNd : Nd := ⟨"element", "html", "html", [], "", 0⟩
noncomputable def hdNd : Nd := ⟨"element", "html", "head", [], "", 1⟩
noncomputable def A1 (scr : Bool) : AB := ⟨[docNd, htNd], [], [1], [], [], [], "initial", "", -1, true, scr, "", false, false⟩
noncomputable def A2 (scr : Bool) : AB := ⟨[docNd, htNd, hdNd], [], [1, 2], [], [], [], "initial", "", -1, true, scr, "", false, false⟩
noncomputable def AS (scr : Bool) : AB := ⟨[docNd, htNd, hdNd], [], [1, 2], [], [], [], "in head", "", 2, true, scr, "", false, false⟩
section
variable {A : AB} {r st st2 : XSt} {k n j : Nat} {scr : Bool} {name : String} {at_ : List (String × String)} {nd : Nd}
theorem place_nil (h : A.items = []) : CV (n + 1) "place_for" [.ref 1 0] (BSt A r) (.tup [.int 0, .int (-1)]) (BSt A r) := Cl.is <|
  G.enter (fn := f_place_for) rfl rfl (G.asg (E.attr (E.loc rfl) rfl) (G.asg (E.loc rfl) (G.iteT (E.cmp (E.loc rfl) E.cI rfl) (G.asg (E.own (cl := "OpenStack") (E.attr (E.loc rfl) rfl) rfl EE.nil (Cl.is
    (G.enter (fn := f_OpenStack_current) rfl rfl (G.iteT (E.cmp (E.len (E.attr (E.loc rfl) rfl) (len_L rfl)) E.cI (by rw [h]; rfl)) (G.ret E.cI ⟨rfl, rfl⟩)))))
    (G.iteT (E.cmp (E.loc rfl) E.cI rfl) (G.ret (E.tup (EE.cons E.cI (EE.one E.cI)) (Nat.le_of_ble_eq_true rfl)) ⟨rfl, rfl⟩))))))
theorem up_cons {l : List Nd} (h : UpL l) (h1 : -1 ≤ nd.up) (h2 : nd.up < l.length) : UpL (l ++ [nd]) := fun k x hx => by
  rcases Nat.lt_or_ge k l.length with q | q
  · rw [List.getElem?_append_left q] at hx; exact h k x hx
  · rw [List.getElem?_append_right q] at hx
    obtain ⟨d, rfl⟩ := Nat.exists_eq_add_of_le q
    rw [Nat.add_sub_cancel_left] at hx
    cases d with
    | zero => cases hx; exact ⟨h1, h2⟩
    | succ d => exact nomatch hx
theorem up0 : UpL [docNd] := up_cons (l := []) (fun k x hx => nomatch hx) (by decide) (by decide)
theorem up1 : UpL [docNd, htNd] := up_cons (l := [docNd]) up0 (by decide) (by decide)
theorem up2 : UpL [docNd, htNd, hdNd] := up_cons (l := [docNd, htNd]) up1 (by decide) (by decide)
theorem ins_html : CV (n + 3) "insert_element" [.ref 1 0, .str "html"] (BSt (A0 scr) r) (.int 1) (BSt (A1 scr) r) := Cl.is <|
  G.enter (fn := f_insert_element) rfl rfl (G.asgT (E.call (EE.one (E.loc rfl)) (place_nil rfl)) (G.asg (E.call (EE.cons (E.loc rfl) (EE.cons (E.loc rfl) (EE.cons (E.loc rfl) (EE.one (E.loc rfl))))) (make_ok (at_ := []) up0 ⟨(fun t h => nomatch h), Nat.zero_le _⟩ (Nat.le_of_ble_eq_true rfl) (Nat.zero_le _)))
    (G.expr (E.own (cl := "Tree") (E.attr (E.loc rfl) rfl) rfl (EE.cons (E.loc rfl) (EE.cons (E.loc rfl) (EE.one (E.loc rfl)))) (insert_new (A := A0 scr) (A1 := addElem (A0 scr) "html" []) (nd := elNd "html" []) (more := []) (show UpOk (A0 scr) from up0).elem rfl (fun x h => nomatch h) rfl (Nat.le_of_ble_eq_true rfl) (Nat.zero_le _) (p := 0) (np := docNd) rfl))
    (G.expr (E.own (cl := "OpenStack") (E.attr (E.loc rfl) rfl) rfl (EE.one (E.loc rfl)) (push_ok (Nat.le_of_ble_eq_true rfl))) (G.ret (E.loc rfl) ⟨rfl, rfl⟩)))))
theorem ins_head : CV (n + 3) "insert_element" [.ref 1 0, .str "head"] (BSt (A1 scr) r) (.int 2) (BSt (A2 scr) r) :=
  insE_ok (name := "head") (A := A1 scr) (l := []) (k := 1) (p := 1) (np := htNd) (at_ := []) up1 ⟨(fun t h => nomatch h), Nat.zero_le _⟩ (Nat.le_of_ble_eq_true rfl) (Nat.le_of_ble_eq_true rfl) (Nat.zero_le _) rfl (by decide) rfl rfl rfl
end
end Mine
end

section
set_option maxRecDepth 100000
set_option genInjectivity false
namespace Mine
section
variable {A F : AB} {r st st2 : XSt} {k n j i : Nat} {scr : Bool} {nd : Nd} {T : List Tok} {W : WL} {env : XEnv}
theorem nd3 {p : Nat → Nd → Prop} (h0 : p 0 docNd) (h1 : p 1 htNd) (h2 : p 2 hdNd) (h : ([docNd, htNd, hdNd] : List Nd)[j]? = some nd) : p j nd := by
  cases j with
  | zero => cases h; exact h0
  | succ j => cases j with
    | zero => cases h; exact h1
    | succ j => cases j with
      | zero => cases h; exact h2
      | succ j => exact nomatch h
theorem i12 {p : Int → Prop} (h1 : p 1) (h2 : p 2) : ∀ i ∈ ([1, 2] : List Int), p i := fun i hi => (List.mem_cons.mp hi).elim (fun e => e ▸ h1) fun hi => List.mem_singleton.mp hi ▸ h2
theorem iv_start : Iv (AS scr) 3 0 := by
  have sm : ∀ (j : Nat) (nd : Nd), ([docNd, htNd, hdNd] : List Nd)[j]? = some nd → nd.name ≠ "template" ∧ nd.kind ≠ "fragment" ∧ nd.attrs.length ≤ 1 ∧ nd.text.length ≤ 103 := fun j nd => nd3 (p := fun _ (nd : Nd) => nd.name ≠ "template" ∧ nd.kind ≠ "fragment" ∧ nd.attrs.length ≤ 1 ∧ nd.text.length ≤ 103) (by decide) (by decide) (by decide)
  refine ⟨⟨up2, fun j nd h => ?_, ⟨(fun t h => nomatch h), Nat.zero_le _⟩, i12 ⟨1, htNd, rfl, rfl, rfl⟩ ⟨2, hdNd, rfl, rfl, rfl⟩, rfl, by show List.Pairwise (· < ·) ([1, 2] : List Int); decide, (fun h => nomatch h), Nat.le_refl 3, fun nd h => ?_, Nat.le_of_ble_eq_true rfl⟩, ⟨["head", "html"], .cons ⟨hdNd, ⟨2, rfl, rfl⟩, rfl, rfl⟩ (.cons ⟨htNd, ⟨1, rfl, rfl⟩, rfl, rfl⟩ .nil), .inr ⟨by show ("in head" : String) ≠ "text"; decide, .inr ⟨.head, rfl⟩⟩, rfl, rfl⟩, by show (2 : Int) ≠ -1; decide, Nat.le_refl _⟩
  · obtain ⟨a, b, c, d⟩ := sm j nd h
    exact ⟨⟨(fun h => nomatch h), fun z => absurd z a⟩, fun z => absurd z a, fun z => absurd z b, c⟩
  · obtain ⟨j, hj⟩ := List.mem_iff_getElem?.mp h
    exact (sm j nd hj).2.2.2
theorem gd_start (K : TOK T scr) : Gd T scr (AS scr) [] 0 0 := ⟨iv_start, rfl, fun _ => rfl, Nat.zero_le _, rfl, Nat.le_refl _⟩
end
end Mine
end

section
set_option maxRecDepth 100000
set_option genInjectivity false
namespace Mine
noncomputable def wr (W : WL) (r : XSt) : XSt := pt r 29 [.list (W.map wishV)]
section
variable {A F : AB} {r st st2 : XSt} {k n j i ti : Nat} {scr : Bool} {nd : Nd} {T : List Tok} {W W' : WL} {env : XEnv} {Q : XFlow → XEnv → XSt → Prop} {m : String}
theorem pt_pt {l l' : List XObj} : pt (pt r k l) k l' = pt r k l' := funext fun q => by
  unfold pt
  by_cases e : q = k
  · rw [if_pos e, if_pos e]
  · rw [if_neg e, if_neg e, if_neg e]
theorem wr_set : (BSt A (wr W r)).set 29 0 (.list (W.map wishV ++ [wishV (k, m)])) = BSt A (wr (W ++ [(k, m)]) r) := by
  rw [set_pt, pt_B (by decide), map_snoc wishV]
  exact congrArg (BSt A) pt_pt
theorem feed_loop (K : TOK T scr) (hn : 25 ≤ n) (tk : (r 30)[ti]? = some (.list (T.map tokV))) : ∀ (k j : Nat) (A : AB) (W : WL) (env : XEnv), T.length = j + k → Gd T scr A W j 0 → env "builder" = some (.ref 1 0) → env "tokens" = some (.ref 30 ti) → env "wishes" = some (.ref 29 0) →
    (∀ env' F W', runW (A, W) j (T.drop j) = (F, W') → Gd T scr F W' T.length 0 → (∀ y, ¬ y = "at" → env' y = env y) → Q .next env' (BSt F (wr W' r))) →
    Bf (n + 1) "at" (IR (j : Int) k) (.cons (.expr (.meth (.loc "builder") "feed" (.cons (.sub (.loc "tokens") (.loc "at")) .nil))) (.cons (.ite (.cmp .ne (.attr (.loc "builder") "wish") (.cS "")) (.cons (.expr (.meth (.loc "wishes") "append" (.cons (.tup (.cons (.loc "at") (.cons (.attr (.loc "builder") "wish") .nil))) .nil))) .nil) .nil) (.cons (.asgA (.loc "builder") "wish" (.cS "")) .nil))) env (BSt A (wr W r)) Q := by
  intro k
  induction k with
  | zero =>
    intro j A W env hj g e1 e2 e3 hQ
    have hj : T.length = j := hj
    subst hj
    exact N.stop (hQ env A W (by rw [List.drop_length]; rfl) g fun y _ => rfl)
  | succ k ih =>
    intro j A W env hj g e1 e2 e3 hQ
    have hlt : j < T.length := hj ▸ Nat.lt_add_of_pos_right (Nat.succ_pos k)
    have ht : T[j]? = some T[j] := List.getElem?_eq_getElem hlt
    generalize T[j] = t at ht
    have hle : j ≤ 80 := Nat.le_trans g.le K.len
    obtain ⟨_, fd⟩ := feed_ok g.iv (Nat.le_trans (Nat.add_le_add_left (Nat.mul_le_mul_left 2 hle) 3) (by decide)) (Nat.le_trans (Nat.mul_le_mul_left 6 hle) (by decide)) (K.small _ _ ht)
    have g1 := g.step K (Nat.zero_le 2) ht
    have go : ∀ W1, stepW (A, W) j t = ((stepA A t).w0, W1) → Bx (n + 1) (.cons (.asgA (.loc "builder") "wish" (.cS "")) .nil) (upd env "at" (.int j)) (BSt (stepA A t) (wr W1 r)) (Aft (fun env' st' => Bf (n + 1) "at" (IR ((j : Int) + 1) k) _ env' st' Q) Q) := fun W1 sw => by
      rw [sw] at g1
      exact G.asgA E.cS (E.loc e1) (sa_wish "") (G.fin (ih (j + 1) (stepA A t).w0 W1 (upd env "at" (.int j)) (hj.trans (by rw [Nat.add_assoc, Nat.add_comm 1])) g1 e1 e2 e3 fun env' F W' h1 h2 h3 => hQ env' F W' (by rw [run_at ht, sw]; exact h1) h2 fun y hy => (h3 y hy).trans (if_neg hy)))
    refine N.turn (G.expr (E.own (cl := "Builder") (E.loc e1) rfl (EE.one (E.sub (E.loc e2) (E.loc rfl) (sub_at (k := j) (getL_at tk) (by rw [List.getElem?_map, ht]; rfl)))) ((fd _).le hn)) (G.iteB (b := !decide ((stepA A t).wish = "")) (E.cmp (E.attr (E.loc e1) rfl) E.cS rfl) (fun q => ?_) fun q => ?_))
    · have q : ¬ (stepA A t).wish = "" := fun z => by rw [decide_eq_true z] at q; exact nomatch q
      exact G.expr (E.to (E.append (E.loc e3) rfl (E.tup (EE.cons (E.loc rfl) (EE.one (E.attr (E.loc e1) rfl))) (Nat.le_of_ble_eq_true rfl)) rfl (by rw [List.length_map]; exact Nat.lt_of_le_of_lt (Nat.le_trans g.wl hle) (by decide))) wr_set) (go _ (Prod.ext rfl (if_neg q)))
    · have q : (stepA A t).wish = "" := Decidable.byContradiction fun z => by rw [decide_eq_false z] at q; exact nomatch q
      exact go _ (Prod.ext rfl (if_pos q))
end
end Mine
end

section
set_option maxRecDepth 100000
set_option genInjectivity false
namespace Mine
noncomputable def rT (ti : List XObj) : XSt := pt XSt.nil 30 ti
noncomputable def X00 : RX := ⟨[docNd], placeI [], [], true, "", 0, [], "", []⟩
noncomputable def X01 : RX := ⟨[docNd, htNd], placeI [1], [], true, "", 0, [], "", []⟩
noncomputable def told0 : XObj := .sdict (toldD X00)
noncomputable def top0 : XObj := .list (objL (placeI []) 0 docNd)
section
variable {A F : AB} {r st st2 : XSt} {k n j i ti : Nat} {scr : Bool} {o : XObj} {T : List Tok} {W W' : WL} {env : XEnv} {m : String} {tk : List XObj}
theorem B_push (h : 22 ≤ k) : (BSt A r).push k o = BSt A (r.push k o) := by rw [push_pt, BSt_off h, pt_B h]; rfl
theorem E.listB {e : XE} {vs : List XVal} (k : Nat) (hk : Nat.ble 22 k = true) (h : EVS n env st e vs (BSt A r)) (hl : Nat.ble vs.length 100 = true) : EV n env st (.list e) (.ref k (r k).length) (BSt A (r.push k (.list vs))) := by
  have := E.list k h (Nat.le_of_ble_eq_true hl)
  rw [BSt_off (Nat.le_of_ble_eq_true hk), B_push (Nat.le_of_ble_eq_true hk)] at this
  exact this
theorem push_off {q : Nat} (h : ¬ q = k) : r.push k o q = r q := if_neg h
noncomputable def r5 (r1 : XSt) : XSt := (((((r1.push 23 (.list [])).push 24 (.list [])).push 22 told0).push 100 (.list [])).push 25 (.list [])).push 100 top0
theorem r5_off {q : Nat} (h : ¬ q = 100) (h1 : ¬ q = 25) (h2 : ¬ q = 22) (h3 : ¬ q = 24) (h4 : ¬ q = 23) : r5 r q = r q := by
  unfold r5
  rw [push_off h, push_off h1, push_off h, push_off h2, push_off h3, push_off h4]
theorem told_st : r5 (wr W (rT tk)) = RSt X00 (wr W (rT tk)) := funext fun q => by
  by_cases h : q < 27
  · have e : (List.range 27).map (r5 (wr W (rT tk))) = (List.range 27).map (RSt X00 (wr W (rT tk))) := rfl
    exact List.map_inj_left.mp e q (List.mem_range.mpr h)
  · have ne : ∀ {k}, k < 27 → ¬ q = k := fun hk e => h (e ▸ hk)
    by_cases h1 : q < 100
    · rw [r5_off (Nat.ne_of_lt h1) (ne (by decide)) (ne (by decide)) (ne (by decide)) (ne (by decide))]
      refine Eq.symm ((if_pos h1).trans ?_)
      unfold over
      rw [List.getElem?_eq_none (Nat.le_of_not_lt h : (rB X00 (kidsO nref X00.nodes)).length ≤ q)]; rfl
    · obtain ⟨d, rfl⟩ := Nat.exists_eq_add_of_le (Nat.le_of_not_lt h1)
      refine Eq.trans ?_ glue_hi.symm
      cases d with
      | zero => rfl
      | succ d =>
        have e : ¬ 100 + (d + 1) = 100 := fun z => absurd (Nat.add_left_cancel (z : 100 + (d + 1) = 100 + 0)) (Nat.succ_ne_zero d)
        have e1 : ∀ {k}, k < 100 → ¬ 100 + (d + 1) = k := fun hk z => absurd (z ▸ hk) (Nat.not_lt.mpr (Nat.le_add_right 100 _))
        rw [r5_off e (e1 (by decide)) (e1 (by decide)) (e1 (by decide)) (e1 (by decide))]
        exact (if_neg (e1 (by decide))).trans (if_neg (e1 (by decide)))
theorem add_html : CV (n + 1) "_law_add" [nref 0, .str "element", .str "html", .tup [], .str "", .int 0] (J F X00 r) (nref 1) (J F X01 r) :=
  add_ok' (X := X00) (np := docNd) (p := 0) (pl := placeI [1]) (place := 0) (at_ := []) (name := "html") (kind := "element") (text := "") up0 (Nat.le_of_ble_eq_true rfl) rfl (by decide) (Nat.le_of_ble_eq_true rfl) (by decide) ⟨fun j hj => by
    cases Nat.lt_one_iff.mp hj; rfl, rfl⟩ (Nat.zero_le _)
theorem add_head : CV (n + 1) "_law_add" [nref 1, .str "element", .str "head", .tup [], .str "", .int 1] (J F X01 r) (nref 2) (J F (rx (AS scr) [] "" []) r) :=
  add_ok' (X := X01) (np := htNd) (p := 1) (pl := placeI [1, 2]) (place := 1) (at_ := []) (name := "head") (kind := "element") (text := "") up1 (Nat.le_of_ble_eq_true rfl) rfl (by decide) (Nat.le_of_ble_eq_true rfl) (by decide) ⟨fun j hj => by
    cases j with
    | zero => rfl
    | succ j => cases Nat.lt_one_iff.mp (Nat.lt_of_succ_lt_succ hj); rfl, rfl⟩ (Nat.zero_le _)
end
end Mine
end

section
set_option maxRecDepth 100000
set_option genInjectivity false
namespace Mine
noncomputable def bE (a21 : List XObj) : List (List XObj) := [[], [], [], [], [], [], [], [], [], [], [], [], [], [], [], [], [], [], [], [], [], a21]
section
variable {A F : AB} {b : List (List XObj)} {r st st2 : XSt} {k n j i ti : Nat} {scr : Bool} {o : XObj} {T : List Tok} {W W' : WL} {env : XEnv} {a m : String} {tk : List XObj} {v : XVal} {fs : List (String × XVal)}
theorem o_key (h : b[k]? = some [.sdict fs]) (hl : Nat.ble fs.length 100 = true) : setX (over b r) (.ref k 0) (.str a) v = some (over (b.set k [.sdict (storeS a v fs)]) r) := by
  show ((over b r k)[0]?.bind _) = _
  rw [over_at h]
  show (if fs.length ≤ LIM then some (XObj.sdict (storeS a v fs)) else none).map (fun o => (over b r).set k 0 o) = _
  rw [if_pos (Nat.le_trans (Nat.le_of_ble_eq_true hl) (by decide))]
  exact congrArg some (over_set h)
theorem over_bE (h : ∀ q, q < 22 → r q = []) : over (bE []) r = r := funext fun q => by
  by_cases z : q < 22
  · rw [h q z]
    have e : (List.range 22).map (over (bE []) XSt.nil) = (List.range 22).map XSt.nil := rfl
    have := List.map_inj_left.mp e q (List.mem_range.mpr z)
    unfold over at this ⊢
    rw [h q z]; exact this
  · unfold over
    rw [List.getElem?_eq_none (Nat.le_of_not_lt z : (bE []).length ≤ q)]; rfl
theorem rT_nil {q : Nat} (h : ¬ q = 30) : rT tk q = [] := if_neg h
theorem start_eq : over (bE []) (rT tk) = rT tk := over_bE fun q hq => rT_nil fun e => absurd (e ▸ hq) (by decide)
noncomputable def rules0 : List (String × XVal) := [("in head", .fn "in_head"), ("in head noscript", .fn "in_head_noscript"), ("text", .fn "text_mode")]
theorem rules_r : CV n "head_rules" [] (rT tk) (.ref 21 0) (over (bE [.sdict rules0]) (rT tk)) := Cl.is <| by
  have h := E.dict (n := n) (env := envOf []) (st1 := over (bE []) (rT tk)) 21 (ks := ["in head", "in head noscript", "text"]) (EE.cons (E.glob (f := "in_head")) (EE.cons (E.glob (f := "in_head_noscript")) (EE.one (E.glob (f := "text_mode"))))) (by decide) rfl ⟨(fun z => nomatch z), by decide⟩
  rw [over_push rfl, start_eq] at h
  exact G.enter (fn := f_head_rules) rfl rfl (G.ret h ⟨rfl, rfl⟩)
theorem rules_ok {ss : XS} {Q : XFlow → XEnv → XSt → Prop} (k : Bx (n + 1) ss (upd env "rules" (.ref 21 0)) (over (bT [] []) (rT tk)) Q) :
    Bx (n + 1) (.cons (.asg "rules" (.call "head_rules" .nil)) (.cons (.asgS (.loc "rules") (.cS "after head") (.glob "_law_after_head")) (.cons (.asgS (.loc "rules") (.cS "in template") (.glob "_law_in_template")) (.cons (.asgS (.loc "rules") (.cS "in body") (.glob "_law_in_body")) ss)))) env (rT tk) Q :=
  G.asg (E.call EE.nil rules_r) (G.asgS E.glob (E.loc rfl) E.cS (o_key (k := 21) rfl rfl) (G.asgS E.glob (E.loc rfl) E.cS (o_key (k := 21) rfl rfl) (G.asgS E.glob (E.loc rfl) E.cS (o_key (k := 21) rfl rfl) k)))
end
end Mine
end

section
set_option maxRecDepth 100000
set_option genInjectivity false
namespace Mine
section
variable {A F : AB} {r st st2 : XSt} {k n j i ti : Nat} {scr : Bool} {o : XObj} {T : List Tok} {W W' : WL} {env : XEnv} {a m : String} {tk : List XObj} {v : XVal} {t : Tok}
theorem eq_eof : Eqt (tokV t) (.tup [.str "eof"]) (eofT t) := by
  have go : ∀ {xs : List XVal} {u : String}, 1 = min (xs.length + 1) 1 → Eqt (.tup (.str u :: xs)) (.tup [.str "eof"]) (([decide (u = "eof")]).all id && (xs.length + 1 == 1)) := fun {xs u} e => .tup e fun k x y h1 h2 => by
    cases k with
    | zero => cases h1; cases h2; exact .str _ _
    | succ k => exact nomatch h2
  cases t <;> exact go rfl
theorem eofs : All2 (fun x c => Eqt x (.tup [.str "eof"]) c) (T.map tokV) (T.map eofT) := by
  induction T with
  | nil => exact .nil
  | cons t T ih => exact .cons eq_eof ih
theorem any_eof : (T.map eofT).any id = T.any eofT := by rw [List.any_map]; rfl
theorem eof_eq (h : eofT t = true) : t = .eof := by cases t <;> first | rfl | exact nomatch h
theorem run_done (K : TOK T scr) : ∀ (k j : Nat) (A : AB) (W : WL), T.length = j + k → A.done = false → (runW (A, W) j (T.drop j)).1.done = (T.drop j).any eofT := by
  intro k
  induction k with
  | zero =>
    intro j A W hj hd
    have hj : T.length = j := hj
    subst hj
    rw [List.drop_length]; exact hd
  | succ k ih =>
    intro j A W hj hd
    have hlt : j < T.length := hj ▸ Nat.lt_add_of_pos_right (Nat.succ_pos k)
    have ht : T[j]? = some T[j] := List.getElem?_eq_getElem hlt
    generalize T[j] = t at ht
    have hs := (step_done (A := A) (t := t)).2 hd
    rw [run_at ht, drop_at ht, List.any_cons]
    have hj' : T.length = j + 1 + k := hj.trans (by rw [Nat.add_assoc, Nat.add_comm 1])
    cases e : eofT t with
    | true =>
      have := K.eof j (eof_eq e ▸ ht)
      rw [this, List.drop_length]
      exact hs.trans e
    | false => exact ih (j + 1) (stepA A t).w0 _ hj' (hs.trans e)
theorem q_wish : All2 (Eqv st n) (W.map wishV) (W.map wishV) := by
  induction W with
  | nil => exact .nil
  | cons a l ih =>
    refine .cons (.el ?_) ih
    have h := Eqt.tup (xs := [.int a.1, .str a.2]) (ys := [.int a.1, .str a.2]) (bs := [decide ((a.1 : Int) = a.1), decide (a.2 = a.2)]) rfl fun k x y h1 h2 => by
      cases k with
      | zero => cases h1; cases h2; exact .int _ _
      | succ k => cases k with
        | zero => cases h1; cases h2; exact .str _ _
        | succ k => exact nomatch h1
    rw [decide_eq_true (rfl : (a.1 : Int) = a.1), decide_eq_true (rfl : a.2 = a.2)] at h
    exact h
theorem rep_eq {x : XVal} : repL k [x] = List.replicate k x := by
  induction k with
  | zero => rfl
  | succ k ih => rw [List.replicate_succ, ← ih]; rfl
theorem q_rep {x : XVal} (h : Eqt x x true) : All2 (Eqv st n) (List.replicate k x) (List.replicate k x) := by
  induction k with
  | zero => exact .nil
  | succ k ih => rw [List.replicate_succ]; exact .cons (.el h) ih
end
end Mine
end

section
set_option maxRecDepth 100000
set_option genInjectivity false
namespace Mine
noncomputable def mulX (x : XE) : XE := .bin .mul (.list (.cons x .nil)) (.sub (.loc "told") (.cS "templates"))
noncomputable def cmpB : XS := (.cons (.ite (.or (.cmp .ne (.call "_law_plain" (.cons (.loc "builder") (.cons (.cI 0) .nil))) (.loc "top")) (.or (.cmp .ne (.attr (.loc "builder") "errors") (.sub (.loc "told") (.cS "errors"))) (.cmp .ne (.loc "wishes") (.sub (.loc "told") (.cS "wishes"))))) (.cons (.ret (.cB false))
    .nil) .nil)
    (.cons (.ite (.or (.cmp .ne (.attr (.loc "builder") "mode") (.sub (.loc "told") (.cS "mode"))) (.cmp .ne (.attr (.loc "builder") "original") (.sub (.loc "told") (.cS "original")))) (.cons (.ret (.cB false))
    .nil) .nil)
    (.cons (.ite (.or (.cmp .ne (.attr (.loc "builder") "modes") (.bin .mul (.list (.cons (.cS "in template") .nil)) (.sub (.loc "told") (.cS "templates")))) (.cmp .ne (.attr (.loc "builder") "is_frameset_ok") (.sub (.loc "told") (.cS "is_frameset_ok")))) (.cons (.ret (.cB false))
    .nil) .nil)
    (.cons (.asg "is_marked" (.cmp .eq (.attr (.attr (.loc "builder") "formatting") "items") (.bin .mul (.list (.cons (.cI (-1)) .nil)) (.sub (.loc "told") (.cS "templates")))))
    (.cons (.ret (.and (.loc "is_marked") (.cmp .eq (.attr (.loc "builder") "is_done") (.cmp .inn (.tup (.cons (.cS "eof") .nil)) (.loc "tokens")))))
    .nil)))))
section
variable {A F : AB} {X : RX} {r r' st st2 : XSt} {k n j i ti : Nat} {scr : Bool} {o : XObj} {T : List Tok} {W W' : WL} {env : XEnv} {a m : String} {tk : List XObj} {v xv : XVal} {t : Tok} {x : XE} {O : List (List Int)}
theorem mul_ev (ht : env "told" = some (.ref 22 0)) (hl : X.tc ≤ 1000) (hx : EV n env (J F X r) x xv (J F X r)) : ∃ i r', EV n env (J F X r) (mulX x) (.ref 27 i) (J F X r') ∧ (r' 27)[i]? = some (.list (List.replicate X.tc xv)) ∧ Fr r r' := by
  have h1 := E.to (E.list 27 (EE.one hx) (Nat.le_of_ble_eq_true rfl)) J_tmp
  have h2 := E.mul 27 h1 (E.sub (E.loc ht) E.cS (show subX _ (.ref 22 0) (.str "templates") = some (XVal.int X.tc) from rfl)) (List.getElem?_concat_length (l := r 27) (a := .list [xv])) ⟨Int.natCast_nonneg _, Int.ofNat_le.mpr hl, Nat.le_of_ble_eq_true rfl⟩ (by rw [Int.toNat_natCast, rep_eq, List.length_replicate]; exact Nat.le_trans hl (by decide))
  rw [Int.toNat_natCast, rep_eq] at h2
  exact ⟨_, _, E.to h2 J_tmp, List.getElem?_concat_length (l := (r.push 27 (.list [xv])) 27), fun q hq => (if_neg hq).trans (if_neg hq)⟩
theorem neB {a : Bool} : cmpX .ne (.bool a) (.bool a) = some false := by cases a <;> rfl
theorem cmp_ok (C : Core F n) (hn : n ≤ 199) (hm : F.modes = List.replicate k "in template") (hf : F.fitems = List.replicate k (-1)) (hk : k ≤ 1000) (hd : F.done = T.any eofT) (h29 : (r 29)[0]? = some (.list (W.map wishV))) (tk : Toks T ti r)
    (e1 : env "builder" = some (.ref 1 0)) (e2 : env "top" = some (nref 0)) (e3 : env "told" = some (.ref 22 0)) (e4 : env "wishes" = some (.ref 29 0)) (e5 : env "tokens" = some (.ref 30 ti)) :
    Bx 205 cmpB env (J F (rx F W F.mode O) r) fun fl _ st => fl.val = .bool true ∧ st 30 = r 30 := by
  have hml : F.modes.length = k := by rw [hm, List.length_replicate]
  obtain ⟨v, r1, c, g1, lk⟩ := plain_r (X := rx F W F.mode O) C (Nat.le_trans hn (by decide)) rfl rfl 199 0 docNd (Nat.le_trans (Nat.le_trans C.nodes hn) (by decide)) C.doc0 (by decide) r
  have h29 : (r1 29)[0]? = _ := (congrArg (·[0]?) (g1.off 29 (by decide))).trans h29
  have tk : Toks T ti r1 := (congrArg (·[ti]?) (g1.off 30 (by decide))).trans tk
  refine G.iteF (E.orF (E.neD (E.call (EE.cons (E.loc e1) (EE.one E.cI)) c) (E.loc e2) (lk r1 .refl)) (E.orF (E.neD (E.attr (E.loc e1) rfl) (E.sub (E.loc e3) E.cS rfl) (q_list (p := 19) (q := 23) (by decide) rfl rfl (q_pairs F.errors))) (E.neD (E.loc e4) (E.sub (E.loc e3) E.cS rfl) (q_list (p := 29) (q := 24) (by decide) h29 rfl q_wish)))) ?_
  refine G.iteF (E.orF (E.cmp (E.attr (E.loc e1) rfl) (E.sub (E.loc e3) E.cS rfl) (neS rfl)) (E.cmp (E.attr (E.loc e1) rfl) (E.sub (E.loc e3) E.cS rfl) (neS rfl))) ?_
  obtain ⟨i2, r2, m1, m2, m3⟩ := mul_ev (X := rx F W F.mode O) (F := F) (r := r1) (n := 205) (xv := .str "in template") e3 (Nat.le_trans (Nat.le_of_eq hml) hk) E.cS
  have hx : (J F (rx F W F.mode O) r2 17)[0]? = some (.list (List.replicate (rx F W F.mode O).tc (.str "in template"))) := by
    show some (XObj.list (F.modes.map .str)) = some (XObj.list (List.replicate F.modes.length _))
    rw [hml, hm, List.map_replicate]
  refine G.iteF (E.orF (E.neD (E.attr (E.loc e1) rfl) m1 (q_list (p := 17) (q := 27) (by decide) hx m2 (q_rep (.sc ((decide_eq_true (rfl : "in template" = "in template")) ▸ Eqs.str _ _))))) (E.cmp (E.attr (E.loc e1) rfl) (E.sub (E.loc e3) E.cS rfl) neB)) ?_
  obtain ⟨i3, r3, p1, p2, p3⟩ := mul_ev (X := rx F W F.mode O) (F := F) (r := r2) (n := 205) (xv := .int (-1)) e3 (Nat.le_trans (Nat.le_of_eq hml) hk) E.cI
  have hy : (J F (rx F W F.mode O) r3 16)[0]? = some (.list (List.replicate (rx F W F.mode O).tc (.int (-1)))) := by
    show some (XObj.list (F.fitems.map .int)) = some (XObj.list (List.replicate F.modes.length _))
    rw [hml, hf, List.map_replicate]
  have tk : Toks T ti r3 := (congrArg (·[ti]?) ((p3 30 (by decide)).trans (m3 30 (by decide)))).trans tk
  refine G.asg (E.eqD (E.attr (E.attr (E.loc e1) rfl) rfl) p1 (q_list (p := 16) (q := 27) (by decide) hy p2 (q_rep (.sc ((decide_eq_true (rfl : (-1 : Int) = -1)) ▸ Eqs.int _ _))))) ?_
  have s30 : r3 30 = r 30 := ((p3 30 (by decide)).trans (m3 30 (by decide))).trans (g1.off 30 (by decide))
  refine G.ret (E.andT (E.loc rfl) (E.eqT (E.attr (E.loc ((upd_ne (by decide)).trans e1)) rfl) (E.inn (E.tup (EE.one E.cS) (Nat.le_of_ble_eq_true rfl)) (E.loc ((upd_ne (by decide)).trans e5)) (getL_at tk) eofs) (.sc (.bool _ _)))) ⟨?_, s30⟩
  show XVal.bool (F.done == _) = _
  rw [hd, any_eof, beq_self_eq_true]
end
end Mine
end

section
set_option maxRecDepth 100000
set_option genInjectivity false
namespace Mine
section
variable {A F : AB} {X : RX} {r r' st st2 : XSt} {k n j i ti : Nat} {scr : Bool} {o : XObj} {T : List Tok} {W W' : WL} {env : XEnv} {a m : String} {tl : List XObj} {v xv : XVal} {t : Tok} {x : XE} {O : List (List Int)}
theorem told_ev {ss : XS} {Q : XFlow → XEnv → XSt → Prop} (k : Bx n ss (upd (upd env "told" (.ref 22 0)) "top" (nref 0)) (J F X00 (wr W (rT tl))) Q) :
    Bx n (.cons (.asg "told" (.dict ["errors", "wishes", "original", "mode", "templates", "is_frameset_ok"] (.cons (.list .nil) (.cons (.list .nil) (.cons (.cS "") (.cons (.cS "") (.cons (.cI 0) (.cons (.cB true) .nil))))))))
    (.cons (.asg "top" (.list (.cons (.cS "document") (.cons (.cS "") (.cons (.cS "") (.cons (.list .nil) (.cons (.cS "") (.cons (.cI (-1)) (.cons (.list .nil) (.cons .cN .nil)))))))))) ss)) env (BSt F (wr W (rT tl))) Q := by
  have h1 := E.dict (n := n) (env := env) 22 (ks := ["errors", "wishes", "original", "mode", "templates", "is_frameset_ok"]) (EE.cons (E.listB (A := F) (r := wr W (rT tl)) 23 rfl EE.nil rfl) (EE.cons (E.listB 24 rfl EE.nil rfl) (EE.cons (E.cS (i := "")) (EE.cons (E.cS (i := "")) (EE.cons (E.cI (i := 0)) (EE.one (E.cB (i := true)))))))) (by decide) rfl ⟨(fun z => nomatch z), Nat.le_of_ble_eq_true rfl⟩
  rw [B_push (by decide)] at h1
  refine G.asg (E.to2 h1 rfl rfl) ?_
  have h2 := E.listB (n := n) (env := upd env "told" (.ref 22 0)) (A := F) 100 rfl (EE.cons (E.cS (i := "document")) (EE.cons (E.cS (i := "")) (EE.cons (E.cS (i := "")) (EE.cons (E.listB (r := ((wr W (rT tl)).push 23 (.list [])).push 24 (.list []) |>.push 22 told0) 100 rfl EE.nil rfl) (EE.cons (E.cS (i := "")) (EE.cons (E.cI (i := -1)) (EE.cons (E.listB 25 rfl EE.nil rfl) (EE.one E.cN)))))))) rfl
  exact G.asg (E.to2 h2 rfl (show BSt F (r5 (wr W (rT tl))) = _ from congrArg (BSt F) told_st)) k
end
end Mine
end

section
set_option maxRecDepth 100000
set_option genInjectivity false
namespace Mine
section
variable {A F : AB} {X : RX} {r r' st st2 : XSt} {k n j i ti : Nat} {scr : Bool} {o : XObj} {T : List Tok} {W W' : WL} {env : XEnv} {a m : String} {tl : List XObj} {v xv : XVal} {t : Tok} {x : XE} {O : List (List Int)}
theorem holds_r (K : TOK T scr) (tk : tl[ti]? = some (.list (T.map tokV))) : CV 205 "_law_holds" [.ref 30 ti, .bool scr] (rT tl) (.bool true) (rT tl) := by
  suffices h : Cl 205 "_law_holds" [.ref 30 ti, .bool scr] (rT tl) fun v st => v = .bool true ∧ st 30 = tl from by
    obtain ⟨v, st, c, rfl, h⟩ := h
    exact c.drop (Drop.all (fun q => by
      by_cases e : q = 30
      · subst e; exact .inl h
      · exact .inr (rT_nil e)) (.bool _))
  refine G.enter (fn := f__law_holds) rfl rfl (rules_ok ?_)
  refine G.asg (E.newO 1 rfl (EE.cons (E.loc rfl) (EE.one (E.loc rfl))) builder_init) ?_
  refine G.expr (E.call (EE.cons (E.loc rfl) (EE.one E.cS)) ins_html) ?_
  refine G.asgA (E.call (EE.cons (E.loc rfl) (EE.one E.cS)) ins_head) (E.loc rfl) (sa_head 2) ?_
  refine G.expr (E.to (E.own (cl := "Builder") (E.loc rfl) rfl (EE.one E.cS) to_ok) (rfl : _ = BSt (AS scr) (rT tl))) ?_
  refine G.asg (E.to2 (E.listB (A := AS scr) (r := rT tl) 29 rfl EE.nil rfl) (rfl : _ = XVal.ref 29 0) (rfl : _ = BSt (AS scr) (wr [] (rT tl)))) ?_
  refine G.forR1 (E.len (E.loc rfl) ((len_L (getL_at (st := BSt (AS scr) (wr [] (rT tl))) (r := 30) (i := ti) tk)).trans (by rw [List.length_map]))) ⟨Int.natCast_nonneg _, Int.ofNat_le.mpr (Nat.le_trans K.len (by decide))⟩ ?_
  refine feed_loop (n := 204) K (by decide) (r := rT tl) tk T.length 0 (AS scr) [] _ (Nat.zero_add _).symm (gd_start K) rfl rfl rfl fun env' F W run gF henv => ?_
  rw [List.drop_zero] at run
  have hd : F.done = T.any eofT := by
    have := run_done K T.length 0 (AS scr) [] (Nat.zero_add _).symm rfl
    rw [List.drop_zero, run] at this
    exact this
  refine told_ev ?_
  have n1 : env' "tokens" = some (.ref 30 ti) := henv _ (by decide)
  have n2 : env' "is_scripting" = some (.bool scr) := henv _ (by decide)
  have n3 : env' "builder" = some (.ref 1 0) := henv _ (by decide)
  have n4 : env' "wishes" = some (.ref 29 0) := henv _ (by decide)
  refine G.asg (E.call (EE.cons (E.loc rfl) (EE.cons E.cS (EE.cons E.cS (EE.cons (E.tup EE.nil (Nat.zero_le _)) (EE.cons E.cS (EE.one E.cI)))))) add_html) ?_
  refine G.asg (E.call (EE.cons (E.loc rfl) (EE.cons E.cS (EE.cons E.cS (EE.cons (E.tup EE.nil (Nat.zero_le _)) (EE.cons E.cS (EE.one E.cI)))))) (add_head (scr := scr))) ?_
  have tk0 : Toks T ti (wr W (rT tl)) := tk
  obtain ⟨v, st, c, A', W', O', at', m', r', rfl, rfl, f1, hc, hp⟩ := head_r (F := F) (W := []) (O := []) (r := wr W (rT tl)) (base := [1]) (tp := 2) K (gd_start K) rfl rfl tk0
  rw [run] at hc
  have e3 : ∀ {y v}, (¬ y = "top" ∧ ¬ y = "told" ∧ ¬ y = "root" ∧ ¬ y = "head") → env' y = some v → upd (upd (upd (upd env' "told" (.ref 22 0)) "top" (nref 0)) "root" (nref 1)) "head" (nref 2) y = some v := fun h e => (upd_ne h.2.2.2).trans ((upd_ne h.2.2.1).trans ((upd_ne h.1).trans ((upd_ne h.2.1).trans e)))
  refine G.asg (E.call (EE.cons (E.loc (e3 (by decide) n1)) (EE.cons (E.loc rfl) (EE.cons (E.loc rfl) (EE.one (E.loc (e3 (by decide) n2)))))) (c.le (Nat.le_of_ble_eq_true rfl))) ?_
  have a1 : Toks T ti r' := (congrArg (·[ti]?) (f1 30 (by decide))).trans tk0
  have s30 : r' 30 = tl := f1 30 (by decide)
  have s29 : r' 29 = [.list (W.map wishV)] := f1 29 (by decide)
  have rest : ∀ (A2 : AB) (W2 : WL) (O2 : List (List Int)) (env : XEnv), HC T scr (AS scr).nodes (F, W) A2 W2 T.length → env "builder" = some (.ref 1 0) → env "top" = some (nref 0) → env "told" = some (.ref 22 0) → env "wishes" = some (.ref 29 0) → env "tokens" = some (.ref 30 ti) →
      Bx 205 cmpB env (J F (rx A2 W2 A2.mode O2) r') fun fl _ st => fl.val = .bool true ∧ st 30 = tl := fun A2 W2 O2 env C b1 b2 b3 b4 b5 => by
    have h := C.run
    rw [List.drop_length] at h
    cases (show A2 = F from congrArg Prod.fst h)
    cases (show W2 = W from congrArg Prod.snd h)
    obtain ⟨ns, s1, s2, s3, s4⟩ := C.gd.iv.shape
    have hn : 3 + 2 * T.length ≤ 199 := Nat.le_trans (Nat.add_le_add_left (Nat.mul_le_mul_left 2 K.len) 3) (by decide)
    refine (cmp_ok C.gd.iv.core hn s3 s4 ?_ hd (by rw [s29]; rfl) a1 b1 b2 b3 b4 b5).mono fun fl _ st h => ⟨h.1, h.2.trans s30⟩
    refine Nat.le_trans List.count_le_length (Nat.le_trans (Nat.le_of_eq s1.length.symm) ?_)
    rw [List.length_reverse]
    exact Nat.le_trans C.gd.iv.core.len (Nat.le_trans C.gd.iv.core.nodes (Nat.le_trans hn (by decide)))
  have e4 : ∀ {y v w}, (¬ y = "top" ∧ ¬ y = "told" ∧ ¬ y = "root" ∧ ¬ y = "head") ∧ ¬ y = "at" → env' y = some v → upd (upd (upd (upd (upd env' "told" (.ref 22 0)) "top" (nref 0)) "root" (nref 1)) "head" (nref 2)) "at" w y = some v := fun h e => (upd_ne h.2).trans (e3 h.1 e)
  obtain ⟨t2, h2⟩ := hc.ext 2 hdNd rfl
  have h5 : subX (J F (rx A' W' m' O') r') (nref 2) (.int 5) = some (.int (placeI A'.items 2)) := sub_nd (X := rx A' W' m' O') (j := 2) (k := 5) h2 (by show ("element" : String) ≠ "fragment"; decide) rfl
  rcases hp with ⟨rfl, hmd, hit⟩ | ⟨hm1, rfl, rfl, mo, hit⟩
  · have ht : A'.top = 1 := by unfold AB.top; rw [hit]; rfl
    have hpl : placeI A'.items 2 = -1 := by rw [hit]; rfl
    obtain ⟨v2, st2, c2, rfl, A2, W2, O2, rfl, hc2⟩ := behind_r (F := F) K hc hmd a1
    rw [ht] at c2
    exact G.iteT (E.cmp (E.sub (E.loc rfl) E.cI h5) E.cI (congrArg some (decide_eq_true hpl))) (G.expr (E.call (EE.cons (E.loc (e4 (by decide) n1)) (EE.cons (E.loc rfl) (EE.cons (E.loc rfl) (EE.one (E.loc rfl))))) (c2.le (Nat.le_of_ble_eq_true rfl)))
      (rest A2 W2 O2 _ hc2 (e4 (by decide) n3) rfl rfl (e4 (by decide) n4) (e4 (by decide) n1)))
  · have hpl : ¬ placeI A'.items 2 = -1 := by
      unfold placeI
      rw [if_pos (show ((2 : Nat) : Int) ∈ A'.items from hit ▸ .tail _ (.head _))]
      exact fun z => absurd (Int.natCast_nonneg _) (by rw [z]; decide)
    exact G.iteF (E.cmp (E.sub (E.loc rfl) E.cI h5) E.cI (congrArg some (decide_eq_false hpl))) (rest A' W' O' _ hc (e4 (by decide) n3) rfl rfl (e4 (by decide) n4) (e4 (by decide) n1))
end
end Mine
end

section
set_option maxRecDepth 100000
set_option genInjectivity false
namespace Mine
noncomputable def pk (l : List String) (i : Int) : String := l.getD i.toNat ""
noncomputable def rawT (n : String) (m : Int) (c cut : Bool) : List Tok :=
  (.start n c :: (pk ["a<", "", "\n\u0000", "\r-"] (m % 4)).toList.map fun c => .char (String.singleton c)) ++ [if cut then .eof else .fin n]
noncomputable def UQ (tl : List XObj) (T : List Tok) (v : XVal) (st : XSt) : Prop := ∃ tl2 i, v = .ref 30 i ∧ st = rT tl2 ∧ tl2[i]? = some (.list (T.map tokV)) ∧ tl <+: tl2
section
variable {n i ti : Nat} {scr c : Bool} {o : XObj} {T : List Tok} {env : XEnv} {a m x : String} {tl : List XObj} {v : XVal} {t : Tok} {e : XE} {st : XSt} {vs : List XVal} {k j : Int}
theorem T_push : (rT tl).push 30 o = rT (tl ++ [o]) := by
  rw [push_pt]
  exact pt_pt (l := tl) (r := XSt.nil)
theorem E.listT (h : EVS n env st e vs (rT tl)) (hl : vs.length ≤ 100) : EV n env st (.list e) (.ref 30 tl.length) (rT (tl ++ [.list vs])) := E.to (E.list 30 h hl) T_push
theorem T_new : (rT (tl ++ [o]) 30)[tl.length]? = some o := List.getElem?_concat_length
theorem start_u : CV n "_law_start" [.str x, .bool c] st (tokV (.start x c)) st := Cl.is <|
  G.enter (fn := f__law_start) rfl rfl (G.ret (E.tup (EE.cons E.cS (EE.cons (E.loc rfl) (EE.cons (E.tup (EE.one (E.tup (EE.cons E.cS (EE.one (E.loc rfl))) (Nat.le_of_ble_eq_true rfl))) (Nat.le_of_ble_eq_true rfl)) (EE.one (E.loc rfl))))) (Nat.le_of_ble_eq_true rfl)) ⟨rfl, rfl⟩)
theorem voids_u : CV n "_law_voids" [] (rT tl) (.ref 30 tl.length) (rT (tl ++ [.list (voids.map .str)])) := by
  have h := voids_ok (n := n) (st := rT tl) 30
  rw [T_push] at h; exact h
end
end Mine
end

section
set_option maxRecDepth 100000
set_option genInjectivity false
namespace Mine
section
variable {n i ti : Nat} {scr c cut : Bool} {o : XObj} {T : List Tok} {env : XEnv} {a m x y t : String} {tl : List XObj} {v : XVal} {e e2 : XE} {st : XSt} {vs : List XVal} {k j : Int} {l : List String}
theorem E.pick0 (h : EV n env st e (.ref 30 tl.length) (rT (tl ++ [.list (l.map .str)]))) (hi : EV n env (rT (tl ++ [.list (l.map .str)])) e2 (.int k) (rT (tl ++ [.list (l.map .str)]))) (h0 : 0 ≤ k) (h1 : k < l.length) : EV n env st (.sub e e2) (.str (pk l k)) (rT (tl ++ [.list (l.map .str)])) := by
  obtain ⟨d, rfl⟩ := Int.eq_ofNat_of_zero_le h0
  have hd : d < l.length := Int.ofNat_lt.mp h1
  refine E.sub h hi (sub_at (k := d) (getL_at T_new) ?_)
  rw [List.getElem?_map]
  unfold pk
  rw [List.getD, show ((d : Int)).toNat = d from rfl, List.getElem?_eq_getElem hd]; rfl
theorem E.pick (h : EVS n env (rT tl) e (l.map .str) (rT tl)) (hl : l.length ≤ 100) (hi : EV n env (rT (tl ++ [.list (l.map .str)])) e2 (.int k) (rT (tl ++ [.list (l.map .str)]))) (h0 : 0 ≤ k) (h1 : k < l.length) : EV n env (rT tl) (.sub (.list e) e2) (.str (pk l k)) (rT (tl ++ [.list (l.map .str)])) :=
  E.pick0 (E.listT h (by rw [List.length_map]; exact hl)) hi h0 h1
theorem comp_chars : ∀ (cs : List Char) (k : Nat), k ≤ t.toList.length → t.toList.drop k = cs → CS n env "sign" (.tup (.cons (.cS "char") (.cons (.loc "sign") .nil))) (IS t k) st ((cs.map fun c => Tok.char (String.singleton c)).map tokV) st := by
  intro cs
  induction cs with
  | nil =>
    intro k hl hk
    cases Nat.le_antisymm hl (List.drop_eq_nil_iff.mp hk)
    exact .done IS.end
  | cons c cs ih =>
    intro k hl hk
    have hk := drop_cons hk
    exact .item (IS.item hk.1) (E.tup (EE.cons E.cS (EE.one (E.loc rfl))) (Nat.le_of_ble_eq_true rfl)) (ih (k + 1) (List.getElem?_eq_some_iff.mp hk.1).1 hk.2)
theorem E.catR {tl1 tl2 : List XObj} {i j : Nat} {xs ys : List XVal} (h1 : EV n env st e (.ref 30 i) (rT tl1)) (h2 : EV n env (rT tl1) e2 (.ref 30 j) (rT tl2)) (h3 : tl1[i]? = some (.list xs)) (h3' : tl2[i]? = some (.list xs)) (h4 : tl2[j]? = some (.list ys)) (hl : xs.length + ys.length ≤ 1000) : EV n env st (.bin .add e e2) (.ref 30 tl2.length) (rT (tl2 ++ [.list (xs ++ ys)])) :=
  E.to (E.catL 30 h1 h2 h3' h4 (Nat.le_trans hl (by decide))) T_push
theorem at_app {tl m : List XObj} (h : tl[i]? = some o) : (tl ++ m)[i]? = some o := by rw [List.getElem?_append_left (List.getElem?_eq_some_iff.mp h).1]; exact h
theorem at_new {tl : List XObj} : (tl ++ [o])[tl.length]? = some o := List.getElem?_concat_length
theorem pk_all {p : String → Prop} (h : ∀ x ∈ l, p x) (h0 : p "") : p (pk l k) := by
  unfold pk
  rw [List.getD]
  cases q : l[k.toNat]? with
  | none => exact h0
  | some x => exact h x (List.mem_of_getElem? q)
theorem raw_len : (pk ["a<", "", "\n\u0000", "\r-"] k).toList.length ≤ 2 := pk_all (p := fun x => x.toList.length ≤ 2) (by decide) (by decide)
theorem last_ev (h : env "is_cut" = some (.bool cut)) (h2 : env "name" = some (.str x)) : EV n env st (.ife (.loc "is_cut") (.tup (.cons (.cS "eof") .nil)) (.tup (.cons (.cS "end") (.cons (.loc "name") (.cons (.tup .nil) (.cons (.cB false) .nil)))))) (tokV (if cut then .eof else .fin x)) st := by
  cases cut with
  | true => exact E.ifT (E.loc h) (E.tup (EE.one E.cS) (Nat.le_of_ble_eq_true rfl))
  | false => exact E.ifF (E.loc h) (E.tup (EE.cons E.cS (EE.cons (E.loc h2) (EE.cons (E.tup EE.nil (Nat.zero_le _)) (EE.one E.cB)))) (Nat.le_of_ble_eq_true rfl))
theorem raw_tail {u : Tok} (e1 : env "name" = some (.str x)) (e3 : env "is_closing" = some (.bool c)) (et : env "text" = some (.str t)) (el : env "last" = some (tokV u)) (hl : t.toList.length ≤ 2) :
    Bx (n + 1) (.cons (.ret (.bin .add (.bin .add (.list (.cons (.call "_law_start" (.cons (.loc "name") (.cons (.loc "is_closing") .nil))) .nil)) (.comp "sign" [] (.loc "text") (.tup (.cons (.cS "char") (.cons (.loc "sign") .nil))))) (.list (.cons (.loc "last") .nil)))) .nil) env (rT tl) fun fl _ st => UQ tl ((.start x c :: t.toList.map fun c => .char (String.singleton c)) ++ [u]) fl.val st := by
  have h1 : EV (n + 1) env (rT tl) (.list (.cons (.call "_law_start" (.cons (.loc "name") (.cons (.loc "is_closing") .nil))) .nil)) _ _ := E.listT (EE.one (E.call (EE.cons (E.loc e1) (EE.one (E.loc e3))) start_u)) (Nat.le_of_ble_eq_true rfl)
  have n1 := at_new (tl := tl) (o := .list [tokV (.start x c)])
  have hml : ((t.toList.map fun c => Tok.char (String.singleton c)).map tokV).length ≤ 2 := by rw [List.length_map, List.length_map]; exact hl
  have h2 := E.to (E.comp 30 (env := env) (caps := []) (E.loc et) (.inr ⟨t, rfl, rfl⟩) (comp_chars (n := n + 1) (env := narrow env []) (st := rT (tl ++ [.list [tokV (.start x c)]])) _ 0 (Nat.zero_le _) rfl) (Nat.le_trans hml (by decide))) T_push
  have h3 := E.catR h1 h2 n1 (at_app n1) at_new (Nat.le_trans (Nat.add_le_add_left hml _) (by show 1 + 2 ≤ 1000; decide))
  have h4 : ∀ tl', EV (n + 1) env (rT tl') (.list (.cons (.loc "last") .nil)) (.ref 30 tl'.length) (rT (tl' ++ [.list [tokV u]])) := fun tl' => E.listT (EE.one (E.loc el)) (Nat.le_of_ble_eq_true rfl)
  have h5 := E.catR h3 (h4 _) at_new (at_app at_new) at_new (by rw [List.length_append]; exact Nat.le_trans (Nat.add_le_add_right (Nat.add_le_add_left hml _) _) (by show 1 + 2 + 1 ≤ 1000; decide))
  refine G.ret h5 ⟨_, _, rfl, rfl, at_new.trans ?_, (List.prefix_append _ _).trans ((List.prefix_append _ _).trans ((List.prefix_append _ _).trans ((List.prefix_append _ _).trans (List.prefix_append _ _))))⟩
  rw [List.map_append]; rfl
theorem raw_u : Cl (n + 1) "_law_raw_unit" [.str x, .int k, .bool c, .bool cut] (rT tl) (UQ tl (rawT x k c cut)) := by
  refine G.enter (fn := f__law_raw_unit) rfl rfl (G.asg (E.pick (l := ["a<", "", "\n\u0000", "\r-"]) (EE.cons E.cS (EE.cons E.cS (EE.cons E.cS (EE.one E.cS)))) (Nat.le_of_ble_eq_true rfl) (E.mod (E.loc rfl) E.cI (by decide)) (Int.emod_nonneg _ (by decide)) (Int.emod_lt_of_pos _ (by decide))) ?_)
  have hl := raw_len (k := k % 4)
  unfold rawT
  generalize pk ["a<", "", "\n\u0000", "\r-"] (k % 4) = t at hl
  refine G.asg (last_ev rfl rfl) ((raw_tail rfl rfl rfl rfl hl).mono ?_)
  exact fun fl _ st ⟨tl2, i, h1, h2, h3, h4⟩ => ⟨tl2, i, h1, h2, h3, (List.prefix_append _ _).trans h4⟩
end
end Mine
end

section
set_option maxRecDepth 100000
set_option genInjectivity false
namespace Mine
noncomputable def unitT (code : Int) (scr : Bool) : List Tok :=
  let w := code % 13
  let m := code / 13
  if w = 0 then [.char (pk [" ", "\n", "\t", "\u000c", "\r"] (m % 5))]
  else if w = 1 then [.char (pk ["x", "\u0000", "\u00a0"] (m % 3))]
  else if w = 2 then [.comment (pk ["", "c", "--"] (m % 3))]
  else if w = 3 then [.doctype]
  else if w = 4 then [.start (pk voids (m % 5)) (decide (m / 5 % 2 = 1))]
  else if w = 5 ∨ w = 6 then rawT (pk ["title", "style", "script", "noframes"] (m % 4)) (m / 8) (decide (m / 4 % 2 = 1)) (decide (m / 32 % 4 = 3))
  else if w = 7 ∧ scr = true then rawT "noscript" (m / 2) (decide (m % 2 = 1)) (decide (m / 8 % 4 = 1))
  else if w = 7 ∨ w = 9 then [.start (if w = 7 then "noscript" else "template") (decide (m % 2 = 1))]
  else if w = 8 ∨ w = 10 then [.fin (if w = 8 then "noscript" else "template")]
  else if w = 11 then [.start (pk ["html", "head", "li", "div"] (m % 4)) (decide (m / 4 % 2 = 1))]
  else if m % 9 < 6 then [.fin (pk ["head", "body", "html", "br", "p", "title"] (m % 9))]
  else if m % 9 = 6 then [.start "p" false]
  else if m % 9 = 7 then [.start "body" (decide (m / 9 % 2 = 1))]
  else [.eof]
section
variable {n : Nat} {scr c cut : Bool} {T : List Tok} {env : XEnv} {x : String} {tl tl0 tl2 tl3 : List XObj} {e e2 : XE} {st st1 : XSt} {k i j a b : Int} {l : List String} {t : Tok} {ss : XS}
theorem U.ret (he : EV n env (rT tl) e (tokV t) (rT tl2)) (hp : tl0 <+: tl2) (hT : T = [t]) : Bx n (.cons (.ret (.list (.cons e .nil))) ss) env (rT tl) fun fl _ st' => UQ tl0 T fl.val st' := by
  subst hT
  exact G.ret (E.listT (EE.one he) (Nat.le_of_ble_eq_true rfl)) ⟨_, _, rfl, rfl, at_new, hp.trans (List.prefix_append _ _)⟩
theorem E.modI (h : EV n env st e (.int i) st) (hj : 0 < j) : EV n env st (.bin .mod e (.cI j)) (.int (i % j)) st := E.mod h E.cI hj
theorem E.divI (h : EV n env st e (.int i) st) (hj : 0 < j ∧ j ≤ 1000) : EV n env st (.bin .fdiv e (.cI j)) (.int (i / j)) st := E.div h E.cI hj
theorem E.eqI (h : EV n env st e (.int i) st) : EV n env st (.cmp .eq e (.cI j)) (.bool (decide (i = j))) st := E.cmp h E.cI rfl
theorem E.ltI (h : EV n env st e (.int i) st) : EV n env st (.cmp .lt e (.cI j)) (.bool (decide (i < j))) st := E.cmp h E.cI rfl
theorem E.start (h1 : EV (n + 1) env st e (.str x) st1) (h2 : EV (n + 1) env st1 e2 (.bool c) st1) : EV (n + 1) env st (.call "_law_start" (.cons e (.cons e2 .nil))) (tokV (.start x c)) st1 := E.call (EE.cons h1 (EE.one h2)) start_u
theorem E.finT (h1 : EV n env st e (.str x) st1) : EV n env st (.tup (.cons (.cS "end") (.cons e (.cons (.tup .nil) (.cons (.cB false) .nil))))) (tokV (.fin x)) st1 := E.tup (EE.cons E.cS (EE.cons h1 (EE.cons (E.tup EE.nil (Nat.zero_le _)) (EE.one E.cB)))) (Nat.le_of_ble_eq_true rfl)
theorem E.modP (hl : l.length ≤ 100) (h : EVS n env (rT tl) e (l.map .str) (rT tl)) (hi : EV n env (rT (tl ++ [.list (l.map .str)])) e2 (.int i) (rT (tl ++ [.list (l.map .str)]))) (h0 : 0 < (l.length : Int)) : EV n env (rT tl) (.sub (.list e) (.bin .mod e2 (.cI l.length))) (.str (pk l (i % l.length))) (rT (tl ++ [.list (l.map .str)])) :=
  E.pick h hl (E.modI hi h0) (Int.emod_nonneg _ (Int.ne_of_gt h0)) (Int.emod_lt_of_pos _ h0)
theorem E.ifI {P : Prop} [Decidable P] {u v : String} (h : EV n env st e (.bool (decide P)) st) : EV n env st (.ife e (.cS u) (.cS v)) (.str (if P then u else v)) st := by
  by_cases z : P
  · rw [decide_eq_true z] at h; rw [if_pos z]; exact E.ifT h E.cS
  · rw [decide_eq_false z] at h; rw [if_neg z]; exact E.ifF h E.cS
theorem E.in2 (h : EV n env (rT tl) e (.int i) (rT tl)) : EV n env (rT tl) (.cmp .inn e (.list (.cons (.cI a) (.cons (.cI b) .nil)))) (.bool (decide (i = a ∨ i = b))) (rT (tl ++ [.list [.int a, .int b]])) :=
  E.to2 (E.inI (l := [a, b]) h (E.listT (EE.cons E.cI (EE.one E.cI)) (Nat.le_of_ble_eq_true rfl)) (getL_at T_new)) (congrArg XVal.bool (decide_eq_decide.mpr (by rw [List.mem_cons, List.mem_singleton]))) rfl
end
end Mine
end

section
set_option maxRecDepth 100000
set_option genInjectivity false
namespace Mine
section
variable {n : Nat} {scr c cut : Bool} {T : List Tok} {env : XEnv} {x : String} {tl tl0 tl2 tl3 : List XObj} {e e2 : XE} {st st1 : XSt} {k i j a b m w : Int} {l : List String} {t : Tok} {ss : XS} {code : Int}
theorem pre1 {o : XObj} (h : tl0 <+: tl) : tl0 <+: tl ++ [o] := h.trans (List.prefix_append _ _)
theorem E.lt {A : List Tok} {tls : List XObj} (h : EV n env st e (tokV t) (rT tl)) : EV n env st (.list (.cons e .nil)) (.ref 30 tl.length) (rT (tl ++ [.list [tokV t]])) := E.listT (EE.one h) (Nat.le_of_ble_eq_true rfl)
theorem unit_last (hm : env "more" = some (.int m)) (h6 : ¬ m % 9 < 6) (hp : tl0 <+: tl) : Bx (n + 1) (.cons (.ret (.sub (.list (.cons (.list (.cons (.call "_law_start" (.cons (.cS "p") (.cons (.cB false) .nil))) .nil)) (.cons (.list (.cons (.call "_law_start" (.cons (.cS "body") (.cons (.cmp .eq (.bin .mod (.bin .fdiv (.loc "more") (.cI 9)) (.cI 2)) (.cI 1)) .nil))) .nil)) (.cons (.list (.cons (.tup (.cons (.cS "eof") .nil)) .nil)) .nil)))) (.bin .sub (.bin .mod (.loc "more") (.cI 9)) (.cI 6)))) .nil) env (rT tl) fun fl _ st => UQ tl0 (if m % 9 = 6 then [.start "p" false] else if m % 9 = 7 then [.start "body" (decide (m / 9 % 2 = 1))] else [.eof]) fl.val st := by
  have a1 : ∀ tl, EV (n + 1) env (rT tl) (.list (.cons (.call "_law_start" (.cons (.cS "p") (.cons (.cB false) .nil))) .nil)) _ _ := fun tl => E.listT (EE.one (E.start E.cS E.cB)) (Nat.le_of_ble_eq_true rfl)
  have a2 : ∀ tl, EV (n + 1) env (rT tl) (.list (.cons (.call "_law_start" (.cons (.cS "body") (.cons (.cmp .eq (.bin .mod (.bin .fdiv (.loc "more") (.cI 9)) (.cI 2)) (.cI 1)) .nil))) .nil)) _ _ := fun tl => E.listT (EE.one (E.start E.cS (E.eqI (E.modI (E.divI (E.loc hm) (by decide)) (by decide))))) (Nat.le_of_ble_eq_true rfl)
  have a3 : ∀ tl, EV (n + 1) env (rT tl) (.list (.cons (.tup (.cons (.cS "eof") .nil)) .nil)) _ _ := fun tl => E.listT (EE.one (E.tup (EE.one E.cS) (Nat.le_of_ble_eq_true rfl))) (Nat.le_of_ble_eq_true rfl)
  have a4 := E.listT (EE.cons (a1 tl) (EE.cons (a2 _) (EE.one (a3 _)))) (Nat.le_of_ble_eq_true rfl)
  have a5 : ∀ st, EV (n + 1) env st (.bin .sub (.bin .mod (.loc "more") (.cI 9)) (.cI 6)) (.int (m % 9 - 6)) st := fun st => E.sbt (E.modI (E.loc hm) (by decide)) E.cI
  have hm0 : m % 9 < 9 := Int.emod_lt_of_pos _ (by decide)
  generalize m % 9 = z at h6 hm0 a5
  have p4 := pre1 (o := XObj.list [.ref 30 tl.length, .ref 30 (tl ++ [XObj.list [tokV (.start "p" false)]]).length, .ref 30 (tl ++ [XObj.list [tokV (.start "p" false)]] ++ [XObj.list [tokV (.start "body" (decide (m / 9 % 2 = 1)))]]).length]) (pre1 (o := XObj.list [tokV .eof]) (pre1 (o := XObj.list [tokV (.start "body" (decide (m / 9 % 2 = 1)))]) (pre1 (o := XObj.list [tokV (.start "p" false)]) hp)))
  have hz : z = 6 ∨ z = 7 ∨ z = 8 := by clear a4 a5 p4; omega
  rcases hz with rfl | rfl | rfl
  · exact G.ret (E.sub a4 (a5 _) (sub_at (k := 0) (getL_at T_new) rfl)) ⟨_, _, rfl, rfl, at_app (at_app (at_app at_new)), p4⟩
  · exact G.ret (E.sub a4 (a5 _) (sub_at (k := 1) (getL_at T_new) rfl)) ⟨_, _, rfl, rfl, at_app (at_app at_new), p4⟩
  · exact G.ret (E.sub a4 (a5 _) (sub_at (k := 2) (getL_at T_new) rfl)) ⟨_, _, rfl, rfl, at_app at_new, p4⟩
theorem E.and7 (h : EV n env st e (.bool (decide (w = 7))) st) (h2 : EV n env st e2 (.bool scr) st) : EV n env st (.and e e2) (.bool (decide (w = 7 ∧ scr = true))) st := by
  by_cases x : w = 7
  · rw [decide_eq_true x] at h
    exact E.to2 (E.andT h h2) (congrArg XVal.bool (by cases scr; exact (decide_eq_false fun z => absurd z.2 Bool.false_ne_true).symm; exact (decide_eq_true ⟨x, rfl⟩).symm)) rfl
  · rw [decide_eq_false x] at h
    exact E.to2 (E.andF h) (congrArg XVal.bool (decide_eq_false fun z => x z.1).symm) rfl
theorem unit_u : Cl (n + 2) "_law_unit" [.int code, .bool scr] (rT tl) (UQ tl (unitT code scr)) := by
  refine G.enter (fn := f__law_unit) rfl rfl (G.asg (E.modI (E.loc rfl) (by decide)) (G.asg (E.divI (E.loc rfl) (by decide)) ?_))
  unfold unitT
  generalize code % 13 = w
  generalize code / 13 = m
  dsimp only
  refine G.iteD (E.eqI (E.loc rfl)) (fun h => U.ret (E.tup (EE.cons E.cS (EE.one (E.modP (l := [" ", "\n", "\t", "\u000c", "\r"]) (Nat.le_of_ble_eq_true rfl) (EE.cons E.cS (EE.cons E.cS (EE.cons E.cS (EE.cons E.cS (EE.one E.cS))))) (E.loc rfl) (by decide)))) (Nat.le_of_ble_eq_true rfl)) (List.prefix_append _ _) (if_pos h)) fun h0 => ?_
  rw [if_neg h0]
  refine G.iteD (E.eqI (E.loc rfl)) (fun h => U.ret (E.tup (EE.cons E.cS (EE.one (E.modP (l := ["x", "\u0000", "\u00a0"]) (Nat.le_of_ble_eq_true rfl) (EE.cons E.cS (EE.cons E.cS (EE.one E.cS))) (E.loc rfl) (by decide)))) (Nat.le_of_ble_eq_true rfl)) (List.prefix_append _ _) (if_pos h)) fun h0 => ?_
  rw [if_neg h0]
  refine G.iteD (E.eqI (E.loc rfl)) (fun h => U.ret (t := .comment _) (E.tup (EE.cons E.cS (EE.one (E.modP (l := ["", "c", "--"]) (Nat.le_of_ble_eq_true rfl) (EE.cons E.cS (EE.cons E.cS (EE.one E.cS))) (E.loc rfl) (by decide)))) (Nat.le_of_ble_eq_true rfl)) (List.prefix_append _ _) (if_pos h)) fun h0 => ?_
  rw [if_neg h0]
  refine G.iteD (E.eqI (E.loc rfl)) (fun h => U.ret (t := .doctype) (E.tup (EE.cons E.cS (EE.cons E.cS (EE.cons E.cN (EE.cons E.cN (EE.one E.cB))))) (Nat.le_of_ble_eq_true rfl)) (List.prefix_refl _) (if_pos h)) fun h0 => ?_
  rw [if_neg h0]
  refine G.iteD (E.eqI (E.loc rfl)) (fun h => U.ret (E.start (E.pick0 (l := voids) (E.call EE.nil voids_u) (E.modI (E.loc rfl) (by decide)) (Int.emod_nonneg _ (by decide)) (Int.emod_lt_of_pos _ (by decide))) (E.eqI (E.modI (E.divI (E.loc rfl) (by decide)) (by decide)))) (List.prefix_append _ _) (if_pos h)) fun h0 => ?_
  rw [if_neg h0]
  refine G.iteD (E.in2 (E.loc rfl)) (fun h => ?_) fun h0 => ?_
  · rw [if_pos h]
    refine G.asg (E.modP (l := ["title", "style", "script", "noframes"]) (Nat.le_of_ble_eq_true rfl) (EE.cons E.cS (EE.cons E.cS (EE.cons E.cS (EE.one E.cS)))) (E.loc rfl) (by decide)) ?_
    obtain ⟨v, st, c, tl2, i, h1, h2, h3, h4⟩ := raw_u (n := n) (x := pk ["title", "style", "script", "noframes"] (m % 4)) (k := m / 8) (c := decide (m / 4 % 2 = 1)) (cut := decide (m / 32 % 4 = 3)) (tl := tl ++ [.list [.int 5, .int 6]] ++ [.list (["title", "style", "script", "noframes"].map .str)])
    exact G.ret (E.call (EE.cons (E.loc rfl) (EE.cons (E.divI (E.loc rfl) (by decide)) (EE.cons (E.eqI (E.modI (E.divI (E.loc rfl) (by decide)) (by decide))) (EE.one (E.eqI (E.modI (E.divI (E.loc rfl) (by decide)) (by decide))))))) c) ⟨tl2, i, h1, h2, h3, (pre1 (List.prefix_append _ _)).trans h4⟩
  rw [if_neg h0]
  refine G.iteD (E.and7 (E.eqI (E.loc rfl)) (E.loc rfl)) (fun h => ?_) fun h0 => ?_
  · rw [if_pos h]
    obtain ⟨v, st, c, tl2, i, h1, h2, h3, h4⟩ := raw_u (n := n) (x := "noscript") (k := m / 2) (c := decide (m % 2 = 1)) (cut := decide (m / 8 % 4 = 1)) (tl := tl ++ [.list [.int 5, .int 6]])
    exact G.ret (E.call (EE.cons E.cS (EE.cons (E.divI (E.loc rfl) (by decide)) (EE.cons (E.eqI (E.modI (E.loc rfl) (by decide))) (EE.one (E.eqI (E.modI (E.divI (E.loc rfl) (by decide)) (by decide))))))) c) ⟨tl2, i, h1, h2, h3, (List.prefix_append _ _).trans h4⟩
  rw [if_neg h0]
  refine G.iteD (E.in2 (E.loc rfl)) (fun h => U.ret (E.start (E.ifI (E.eqI (E.loc rfl))) (E.eqI (E.modI (E.loc rfl) (by decide)))) (pre1 (List.prefix_append _ _)) (if_pos h)) fun h0 => ?_
  rw [if_neg h0]
  refine G.iteD (E.in2 (E.loc rfl)) (fun h => U.ret (E.finT (E.ifI (E.eqI (E.loc rfl)))) (pre1 (pre1 (List.prefix_append _ _))) (if_pos h)) fun h0 => ?_
  rw [if_neg h0]
  refine G.iteD (E.eqI (E.loc rfl)) (fun h => U.ret (E.start (E.modP (l := ["html", "head", "li", "div"]) (Nat.le_of_ble_eq_true rfl) (EE.cons E.cS (EE.cons E.cS (EE.cons E.cS (EE.one E.cS)))) (E.loc rfl) (by decide)) (E.eqI (E.modI (E.divI (E.loc rfl) (by decide)) (by decide)))) (pre1 (pre1 (pre1 (List.prefix_append _ _)))) (if_pos h)) fun h0 => ?_
  rw [if_neg h0]
  refine G.iteD (E.ltI (E.modI (E.loc rfl) (by decide))) (fun h => U.ret (E.finT (E.pick (l := ["head", "body", "html", "br", "p", "title"]) (EE.cons E.cS (EE.cons E.cS (EE.cons E.cS (EE.cons E.cS (EE.cons E.cS (EE.one E.cS)))))) (Nat.le_of_ble_eq_true rfl) (E.modI (E.loc rfl) (by decide)) (Int.emod_nonneg _ (by decide)) h)) (pre1 (pre1 (pre1 (List.prefix_append _ _)))) (if_pos h)) fun h0 => ?_
  rw [if_neg h0]
  exact unit_last rfl h0 (pre1 (pre1 (List.prefix_append _ _)))
end
end Mine
end

section
set_option maxRecDepth 100000
set_option genInjectivity false
namespace Mine
noncomputable def RawOk (T : List Tok) (scr : Bool) : Prop := ∀ (A : List Tok) (x : String) (s : Bool) (B : List Tok), T = A ++ .start x s :: B → isRaw scr x → ∃ (cs : List String) (t : Tok) (D : List Tok), B = cs.map .char ++ t :: D ∧ (t = .eof ∨ ∃ y, t = .fin y)
structure RT (T : List Tok) (scr : Bool) (n : Nat) : Prop where
  small : ∀ t ∈ T, Small t
  len : T.length ≤ 4 * n
  raw : RawOk T scr
section
variable {A B T P R : List Tok} {scr c : Bool} {n k : Nat} {t : Tok} {s x : String} {l : List Char} {i : Int} {L : List String}
theorem RT.nil : RT [] scr 0 := ⟨fun _ h => (nomatch h), Nat.le_refl _, fun A x s B h => absurd (Eq.symm h) (List.append_ne_nil_of_right_ne_nil _ (List.cons_ne_nil _ _))⟩
theorem raw_append (a : RawOk A scr) (b : RawOk B scr) : RawOk (A ++ B) scr := fun P x s Q h hr => by
  rcases List.append_eq_append_iff.mp h with ⟨c, h1, h2⟩ | ⟨c, h1, h2⟩
  · exact b c x s Q h2 hr
  · cases c with
    | nil => exact b [] x s Q h2.symm hr
    | cons t c =>
      cases h2
      obtain ⟨cs, t, D, h3, h4⟩ := a P x s c h1 hr
      subst h3
      exact ⟨cs, t, D ++ B, List.append_assoc _ _ _, h4⟩
theorem RT.append (a : RT A scr n) (b : RT B scr k) : RT (A ++ B) scr (n + k) :=
  ⟨fun t h => (List.mem_append.mp h).elim (a.small t) (b.small t), by rw [List.length_append, Nat.mul_add]; exact Nat.add_le_add a.len b.len, raw_append a.raw b.raw⟩
theorem tok_of (h1 : ∀ t ∈ T, Small t) (h2 : T.length ≤ 80) (h3 : ∀ i : Nat, T[i]? = some .eof → i + 1 = T.length) (h4 : RawOk T scr) : TOK T scr := ⟨fun i t h => h1 t (List.mem_of_getElem? h), h2, h3, fun i x s h hr => by
  obtain ⟨hi, he⟩ := List.getElem?_eq_some_iff.mp h
  have e : T = T.take i ++ .start x s :: T.drop (i + 1) := by rw [← he, ← List.drop_eq_getElem_cons hi, List.take_append_drop]
  obtain ⟨cs, t, D, h5, h6⟩ := h4 _ _ _ _ e hr
  have g : ∀ j, T[i + 1 + j]? = (cs.map Tok.char ++ t :: D)[j]? := fun j => by rw [← h5, List.getElem?_drop]
  refine ⟨cs.length, fun j hj => ⟨cs[j], ?_⟩, t, ?_, h6⟩
  · rw [g, List.getElem?_append_left (by rw [List.length_map]; exact hj), List.getElem?_map, List.getElem?_eq_getElem hj]; rfl
  · rw [g, List.getElem?_append_right (Nat.le_of_eq (List.length_map _)), List.length_map, Nat.sub_self]; rfl⟩
theorem no_eof (h : T.any eofT = false) {i : Nat} : T[i]? ≠ some .eof := fun e => by
  have := List.any_eq_false.mp h _ (List.mem_of_getElem? e)
  exact this rfl
theorem tok_whole (a : RT T scr n) (hn : n ≤ 18) (h : T.any eofT = false) : TOK T scr := tok_of a.small (Nat.le_trans a.len (Nat.le_trans (Nat.mul_le_mul_left 4 hn) (by decide))) (fun i e => absurd e (no_eof h)) a.raw
theorem tok_cut (a : RT (P ++ Tok.eof :: R) scr n) (hn : n ≤ 18) (h : P.any eofT = false) : TOK (P ++ [Tok.eof]) scr := by
  have hl : (P ++ [Tok.eof]).length ≤ 4 * n := by
    refine Nat.le_trans ?_ a.len
    rw [List.length_append, List.length_append]; exact Nat.add_le_add_left (Nat.succ_le_succ (Nat.zero_le _)) _
  refine tok_of (fun t m => a.small t ?_) (Nat.le_trans hl (Nat.le_trans (Nat.mul_le_mul_left 4 hn) (by decide))) (fun i e => ?_) fun A x s B q hr => ?_
  · rcases List.mem_append.mp m with m | m
    · exact List.mem_append_left _ m
    · cases List.mem_singleton.mp m; exact List.mem_append_right _ (.head _)
  · rw [List.length_append]
    have hi := (List.getElem?_eq_some_iff.mp e).1
    rw [List.length_append] at hi
    rcases Nat.lt_or_ge i P.length with z | z
    · rw [List.getElem?_append_left z] at e
      exact absurd e (no_eof h)
    · exact congrArg (· + 1) (Nat.le_antisymm (Nat.le_of_lt_succ hi) z)
  · have q2 : P ++ Tok.eof :: R = A ++ Tok.start x s :: (B ++ R) := by
      have := congrArg (· ++ R) q
      rw [List.append_assoc, List.append_assoc] at this; exact this
    obtain ⟨cs, t, D, h1, h2⟩ := a.raw A x s _ q2 hr
    have hm : Tok.eof ∉ cs.map Tok.char := fun m => by obtain ⟨_, _, z⟩ := List.mem_map.mp m; cases z
    have hB : Tok.eof ∈ B := by
      have z := congrArg List.getLast? q
      rw [List.getLast?_concat, List.getLast?_append] at z
      cases B with
      | nil => cases z
      | cons b B => exact List.mem_of_getLast? z.symm
    rcases List.append_eq_append_iff.mp h1 with ⟨c, h3, h4⟩ | ⟨c, h3, h4⟩
    · exact absurd (h3 ▸ List.mem_append_left c hB) hm
    · cases c with
      | nil => exact absurd (List.append_nil (cs.map Tok.char) ▸ h3 ▸ hB) hm
      | cons t' c =>
        cases h4
        exact ⟨cs, t, c, h3, h2⟩
theorem split_eof (h : T.any eofT = true) : ∃ P R, T = P ++ Tok.eof :: R ∧ P.any eofT = false := by
  induction T with
  | nil => cases h
  | cons t T ih =>
    cases e : eofT t with
    | true => exact ⟨[], T, congrArg (· :: T) (eof_eq e), rfl⟩
    | false =>
      obtain ⟨P, R, h1, h2⟩ := ih (by rw [List.any_cons, e] at h; exact h)
      exact ⟨t :: P, R, congrArg (t :: ·) h1, by rw [List.any_cons, e]; exact h2⟩
theorem small_w {a : String} (h : a.length ≤ 8) (hs : s.length ≤ 20) : (a ++ " " ++ s).length ≤ 40 := by
  rw [String.length_append, String.length_append]
  exact Nat.le_trans (Nat.add_le_add (Nat.add_le_add_right h _) hs) (by decide)
theorem small_char (h : s.length ≤ 1) : Small (.char s) := ⟨small_w (a := "char") (by decide) (Nat.le_trans h (by decide)), fun _ e => by cases e; exact h, fun _ e => nomatch e⟩
theorem small_com (h : s.length ≤ 20) : Small (.comment s) := ⟨small_w (a := "comment") (by decide) h, fun _ e => (nomatch e), fun _ e => by cases e; exact Nat.le_trans h (by decide)⟩
theorem small_start (h : s.length ≤ 20) : Small (.start s c) := ⟨small_w (a := "start") (by decide) h, fun _ e => (nomatch e), fun _ e => nomatch e⟩
theorem small_fin (h : s.length ≤ 20) : Small (.fin s) := ⟨small_w (a := "end") (by decide) h, fun _ e => (nomatch e), fun _ e => nomatch e⟩
theorem small_eof : Small .eof := ⟨(by decide : ("eof" : String).length ≤ 40), fun _ e => (nomatch e), fun _ e => nomatch e⟩
theorem small_doc : Small .doctype := ⟨(by decide : ("doctype" : String).length ≤ 40), fun _ e => (nomatch e), fun _ e => nomatch e⟩
theorem raw_none (h : ∀ t ∈ T, ∀ x s, t = .start x s → ¬ isRaw scr x) : RawOk T scr := fun A x s B e hr => absurd hr (h _ (e ▸ List.mem_append_right _ (.head _)) x s rfl)
theorem RT.one (h : Small t) (hn : ∀ x s, t = .start x s → ¬ isRaw scr x) : RT [t] scr 1 := ⟨fun x m => by rw [List.mem_singleton.mp m]; exact h, by show 1 ≤ 4; decide, raw_none fun x m => by rw [List.mem_singleton.mp m]; exact hn⟩
theorem RT.raw1 (h : x.length ≤ 20) (hl : l.length ≤ 2) (ht : t = .eof ∨ t = .fin x) : RT (.start x c :: l.map (fun c => Tok.char (String.singleton c)) ++ [t]) scr 1 := by
  have h2 : ∀ u ∈ l.map (fun c => Tok.char (String.singleton c)) ++ [t], (∃ c, u = .char (String.singleton c)) ∨ u = .eof ∨ u = .fin x := fun u m => by
    rcases List.mem_append.mp m with m | m
    · obtain ⟨c, _, e⟩ := List.mem_map.mp m; exact .inl ⟨c, e.symm⟩
    · rw [List.mem_singleton.mp m]; exact .inr ht
  refine ⟨fun u m => ?_, ?_, fun A y s B e hr => ?_⟩
  · rcases List.mem_cons.mp m with e | m
    · rw [e]; exact small_start h
    · rcases h2 u m with ⟨c, e⟩ | e | e <;> rw [e]
      · exact small_char (by rw [String.length_singleton]; exact Nat.le_refl 1)
      · exact small_eof
      · exact small_fin h
  · show (l.map (fun c => Tok.char (String.singleton c)) ++ [t]).length + 1 ≤ 4
    rw [List.length_append, List.length_map]; exact Nat.succ_le_succ (Nat.succ_le_succ hl)
  · cases A with
    | nil =>
      cases e
      exact ⟨l.map String.singleton, t, [], by rw [List.map_map]; rfl, ht.imp id fun z => ⟨_, z⟩⟩
    | cons a A =>
      have e2 : l.map (fun c => Tok.char (String.singleton c)) ++ [t] = A ++ .start y s :: B := (List.cons.inj e).2
      rcases h2 (.start y s) (e2 ▸ List.mem_append_right _ (.head _)) with ⟨c, z⟩ | z | z <;> cases z
noncomputable def NR (x : String) : Prop := x ∉ (["title", "style", "script", "noframes"] : List String) ∧ x ≠ "noscript"
theorem nr (h : NR x) : ¬ isRaw scr x := fun z => z.elim h.1 fun z => h.2 z.1
theorem nrs (h : ∀ x ∈ L, NR x) (h0 : NR "") : ∀ x s, Tok.start (pk L i) c = .start x s → ¬ isRaw scr x := fun x s e => by cases e; exact nr (pk_all h h0)
theorem RT.ite {p : Prop} [Decidable p] (h : p → RT A scr n) (g : ¬ p → RT B scr n) : RT (if p then A else B) scr n := by
  by_cases z : p
  · rw [if_pos z]; exact h z
  · rw [if_neg z]; exact g z
theorem if_all {p : Prop} [Decidable p] {a b : String} {P : String → Prop} (h : P a) (g : P b) : P (if p then a else b) := by
  by_cases z : p
  · rw [if_pos z]; exact h
  · rw [if_neg z]; exact g
theorem if_or {p : Bool} : (if p = true then Tok.eof else .fin x) = .eof ∨ (if p = true then Tok.eof else .fin x) = .fin x := by cases p; exact .inr rfl; exact .inl rfl
theorem s20 {L : List String} (h : (L.all fun x => Nat.ble x.length 20) = true) : (pk L i).length ≤ 20 := pk_all (p := fun x => x.length ≤ 20) (fun x m => Nat.le_of_ble_eq_true (List.all_eq_true.mp h x m)) (by decide)
theorem s1 {L : List String} (h : (L.all fun x => Nat.ble x.length 1) = true) : (pk L i).length ≤ 1 := pk_all (p := fun x => x.length ≤ 1) (fun x m => Nat.le_of_ble_eq_true (List.all_eq_true.mp h x m)) (by decide)
theorem unit_rt (code : Int) (scr : Bool) : RT (unitT code scr) scr 1 := by
  unfold unitT rawT
  dsimp only
  generalize code / 13 = m
  have nf : ∀ {x : String} (y : String) (s : Bool), Tok.fin x = .start y s → ¬ isRaw scr y := fun _ _ e => nomatch e
  have nR : NR "" := ⟨by decide, by decide⟩
  refine .ite (fun _ => .one (small_char (s1 (by decide))) (fun _ _ e => nomatch e)) fun _ => ?_
  refine .ite (fun _ => .one (small_char (s1 (by decide))) (fun _ _ e => nomatch e)) fun _ => ?_
  refine .ite (fun _ => .one (small_com (s20 (by decide))) (fun _ _ e => nomatch e)) fun _ => ?_
  refine .ite (fun _ => .one small_doc (fun _ _ e => nomatch e)) fun _ => ?_
  refine .ite (fun _ => .one (small_start (s20 (by decide))) (nrs (by unfold NR; decide) nR)) fun _ => ?_
  refine .ite (fun _ => .raw1 (s20 (by decide)) raw_len if_or) fun _ => ?_
  refine .ite (fun _ => .raw1 (by decide) raw_len if_or) fun h7 => ?_
  refine .ite (fun _ => .one (small_start (if_all (P := fun x => x.length ≤ 20) (by decide) (by decide))) ?_) fun _ => ?_
  · intro x s e
    cases e
    by_cases z : code % 13 = 7
    · rw [if_pos z]
      rintro (y | y)
      · revert y; decide
      · exact h7 ⟨z, y.2⟩
    · rw [if_neg z]; exact nr ⟨by decide, by decide⟩
  refine .ite (fun _ => .one (small_fin (if_all (P := fun x => x.length ≤ 20) (by decide) (by decide))) nf) fun _ => ?_
  refine .ite (fun _ => .one (small_start (s20 (by decide))) (nrs (by unfold NR; decide) nR)) fun _ => ?_
  refine .ite (fun _ => .one (small_fin (s20 (by decide))) nf) fun _ => ?_
  refine .ite (fun _ => .one (small_start (by decide)) fun x s e => by cases e; exact nr ⟨by decide, by decide⟩) fun _ => ?_
  refine .ite (fun _ => .one (small_start (by decide)) fun x s e => by cases e; exact nr ⟨by decide, by decide⟩) fun _ => ?_
  exact .one small_eof (fun _ _ e => nomatch e)
end
end Mine
end

section
set_option maxRecDepth 100000
set_option genInjectivity false
namespace Mine
noncomputable def Le (a b : List XObj) : Prop := ∀ (j : Nat) (o : XObj), a[j]? = some o → b[j]? = some o
noncomputable def uBody : XS := .cons (.expr (.meth (.loc "tokens") "extend" (.cons (.call "_law_unit" (.cons (.bin .add (.sub (.loc "row") (.loc "k")) (.call "_law_digit" (.cons (.loc "script") (.cons (.bin .add (.loc "place") (.loc "k")) .nil)))) (.cons (.loc "is_scripting") .nil))) .nil))) .nil
noncomputable def rowE : XS := .cons (.aug "place" .add (.len (.loc "row"))) (.cons (.ite (.not (.call "_law_holds" (.cons (.loc "tokens") (.cons (.loc "is_scripting") .nil)))) (.cons (.ret (.cB false)) .nil) .nil) .nil)
noncomputable def rowS : XS := (.cons (.asg "is_scripting" (.cmp .eq (.bin .mod (.bin .add (.sub (.loc "row") (.cI 0)) (.call "_law_digit" (.cons (.loc "script") (.cons (.loc "place") .nil)))) (.cI 2)) (.cI 1)))
    (.cons (.asg "tokens" (.list .nil))
    (.cons (.forR2 "k" (.cI 1) (.len (.loc "row")) uBody)
    (.cons (.ite (.cmp .inn (.tup (.cons (.cS "eof") .nil)) (.loc "tokens")) (.cons (.asg "tokens" (.slice (.loc "tokens") (.bin .add (.meth (.loc "tokens") "index" (.cons (.tup (.cons (.cS "eof") .nil)) .nil)) (.cI 1))))
    .nil) .nil) rowE))))
section
variable {n i ti m : Nat} {scr : Bool} {T : List Tok} {env : XEnv} {tl tl0 tl2 : List XObj} {st : XSt} {L ns : List Int} {p j : Int} {o : XObj}
theorem Le.pre {a b c : List XObj} (h : Le a b) (g : b <+: c) : Le a c := fun j o q => by
  obtain ⟨m, rfl⟩ := g; exact at_app (h j o q)
theorem Le.set {a b : List XObj} (h : Le a b) (hi : a.length = i) : Le a (b.set i o) := fun j o q => by
  rw [List.getElem?_set_ne (Nat.ne_of_gt (hi ▸ (List.getElem?_eq_some_iff.mp q).1))]; exact h j o q
theorem T_set : (rT tl).set 30 i o = rT (tl.set i o) := funext fun q => by
  show (if q = 30 then _ else _) = (if q = 30 then _ else _)
  by_cases e : q = 30
  · rw [if_pos e, if_pos e]; rfl
  · rw [if_neg e, if_neg e]; exact if_neg e
theorem digit_u (hp : 0 ≤ p) : CV n "_law_digit" [.scr ns, .int p] st (.int (if p < ns.length then ns.getD p.toNat 0 else 0)) st := Cl.is <| by
  refine G.enter (fn := f__law_digit) rfl rfl ?_
  have ht := E.cmp (n := n) (op := .lt) (st := st) (env := envOf [("script", .scr ns), ("place", .int p)]) (E.loc (x := "place") rfl) (E.len (E.loc (x := "script") rfl) rfl) (rfl : _ = some (decide (p < ns.length)))
  by_cases z : p < ns.length
  · rw [decide_eq_true z] at ht
    rw [if_pos z]
    have hz : p.toNat < ns.length := (Int.toNat_lt hp).mpr z
    refine G.ret (E.ifT ht (E.sub (E.loc rfl) (E.loc rfl) ?_)) ⟨rfl, rfl⟩
    show (if 0 ≤ p then (ns[p.toNat]?).map XVal.int else none) = _
    rw [if_pos hp, List.getD, List.getElem?_eq_getElem hz]; rfl
  · rw [decide_eq_false z] at ht
    rw [if_neg z]
    exact G.ret (E.ifF ht E.cI) ⟨rfl, rfl⟩
theorem u_loop (h0 : tl0.length = i) (hr : tl0[ti]? = some (.list (L.map .int))) (hL : L.length ≤ 19) (hp : 0 ≤ p) : ∀ (m k : Nat) (T : List Tok) (tl : List XObj) (env : XEnv), k + m = L.length → 1 ≤ k → RT T scr (k - 1) → Le tl0 tl → tl[i]? = some (.list (T.map tokV)) →
    env "tokens" = some (.ref 30 i) → env "row" = some (.ref 30 ti) → env "script" = some (.scr ns) → env "place" = some (.int p) → env "is_scripting" = some (.bool scr) →
    Bf (n + 3) "k" (IR k m) uBody env (rT tl) fun fl env' st' => ∃ T' tl', fl = .next ∧ st' = rT tl' ∧ RT T' scr (L.length - 1) ∧ Le tl0 tl' ∧ tl'[i]? = some (.list (T'.map tokV)) ∧
      env' "tokens" = some (.ref 30 i) ∧ env' "row" = some (.ref 30 ti) ∧ env' "script" = some (.scr ns) ∧ env' "place" = some (.int p) ∧ env' "is_scripting" = some (.bool scr) := by
  intro m
  induction m with
  | zero =>
    intro k T tl env hk h1 a l g e1 e2 e3 e4 e5
    cases hk
    exact N.stop ⟨T, tl, rfl, rfl, a, l, g, e1, e2, e3, e4, e5⟩
  | succ m ih =>
    intro k T tl env hk h1 a l g e1 e2 e3 e4 e5
    have hkl : k < L.length := hk ▸ Nat.lt_add_of_pos_right (Nat.succ_pos m)
    obtain ⟨v, st, c, tl2, j, rfl, rfl, h3, h4⟩ := unit_u (n := n) (code := L[k] + if p + k < ns.length then ns.getD (p + k).toNat 0 else 0) (scr := scr) (tl := tl)
    generalize hT2 : unitT _ _ = T2 at h3
    have b : RT T2 scr 1 := hT2 ▸ unit_rt _ _
    have ab := a.append b
    rw [Nat.sub_add_cancel h1] at ab
    have g2 : tl2[i]? = some (.list (T.map tokV)) := by obtain ⟨x, rfl⟩ := h4; exact at_app g
    have hl : (T.map tokV).length + (T2.map tokV).length ≤ LIM := by
      rw [List.length_map, List.length_map, ← List.length_append]
      exact Nat.le_trans ab.len (Nat.le_trans (Nat.mul_le_mul_left 4 (Nat.le_trans (Nat.le_of_lt hkl) hL)) (by decide))
    refine N.turn (G.expr (E.to (E.extend (E.loc e1) g (E.call (EE.cons (E.add (E.sub (E.loc e2) (E.loc rfl) (sub_at (k := k) (getL_at (l _ _ hr)) (by rw [List.getElem?_map, List.getElem?_eq_getElem hkl]; rfl))) (E.call (EE.cons (E.loc e3) (EE.one (E.add (E.loc e4) (E.loc rfl)))) (digit_u (Int.add_nonneg hp (Int.natCast_nonneg _))))) (EE.one (E.loc e5))) c) g2 h3 hl) T_set) (G.fin ?_))
    have ne : ∀ {y v w}, ¬ y = "k" → env y = some v → upd env "k" w y = some v := fun h e => (upd_ne h).trans e
    exact ih (k + 1) (T ++ T2) _ _ ((Nat.succ_add_eq_add_succ k m).trans hk) (Nat.le_add_left 1 k) ab ((l.pre h4).set h0) ((List.getElem?_set_self (List.getElem?_eq_some_iff.mp g2).1).trans (by rw [List.map_append])) (ne (by decide) e1) (ne (by decide) e2) (ne (by decide) e3) (ne (by decide) e4) (ne (by decide) e5)
theorem row_end (K : TOK T scr) (hr : tl[ti]? = some (.list (L.map .int))) (g : tl[i]? = some (.list (T.map tokV))) (e1 : env "tokens" = some (.ref 30 i)) (e2 : env "row" = some (.ref 30 ti)) (e4 : env "place" = some (.int p)) (e5 : env "is_scripting" = some (.bool scr)) {Q : XFlow → XEnv → XSt → Prop} (k : Q .next (upd env "place" (.int (p + L.length))) (rT tl)) : Bx 206 rowE env (rT tl) Q := by
  refine G.aug (.inl rfl) e4 (E.len (E.loc e2) ((len_L (getL_at hr)).trans (by rw [List.length_map]))) ?_
  have ne : ∀ {y v w}, ¬ y = "place" → env y = some v → upd env "place" w y = some v := fun h e => (upd_ne h).trans e
  exact G.iteF (E.not (c := true) (E.call (EE.cons (E.loc (ne (by decide) e1)) (EE.one (E.loc (ne (by decide) e5)))) (holds_r K g))) (G.fin k)
theorem cut_ev {P R : List Tok} (hP : P.any eofT = false) (g : tl[i]? = some (.list ((P ++ Tok.eof :: R).map tokV))) (e1 : env "tokens" = some (.ref 30 i)) : EV n env (rT tl) (.slice (.loc "tokens") (.bin .add (.meth (.loc "tokens") "index" (.cons (.tup (.cons (.cS "eof") .nil)) .nil)) (.cI 1))) (.ref 30 tl.length) (rT (tl ++ [.list ((P ++ [Tok.eof]).map tokV)])) := by
  have hl : (P.map eofT).length = P.length := List.length_map _
  have ix : EV n env (rT tl) (.meth (.loc "tokens") "index" (.cons (.tup (.cons (.cS "eof") .nil)) .nil)) (.int P.length) (rT tl) := by
    refine E.index (E.loc e1) g (E.tup (EE.one E.cS) (Nat.le_of_ble_eq_true rfl)) g eofs ?_ fun m hm => ?_
    · rw [List.map_append, List.getElem?_append_right (Nat.le_of_eq hl), hl, Nat.sub_self]; rfl
    · rw [List.map_append, List.getElem?_append_left (hl ▸ hm), List.getElem?_map, List.getElem?_eq_getElem hm]
      exact congrArg some (Bool.eq_false_iff.mpr (List.any_eq_false.mp hP _ (List.getElem_mem hm)))
  have e : P ++ Tok.eof :: R = (P ++ [Tok.eof]) ++ R := by rw [List.append_assoc]; rfl
  have hp : ((P.length : Int) + 1).toNat = P.length + 1 := rfl
  refine E.to (E.sliceL 30 (E.loc e1) (E.add ix E.cI) g g ⟨Int.ofNat_le.mpr (Nat.zero_le (P.length + 1)), ?_⟩) ?_
  · rw [List.length_map, e, List.length_append, List.length_append]
    exact Int.ofNat_le.mpr (Nat.le_add_right (P.length + 1) _)
  · rw [hp, ← List.map_take, e, List.take_left' (by rw [List.length_append]; rfl)]; exact T_push
theorem row_ok (hr : tl[ti]? = some (.list (L.map .int))) (h1 : 1 ≤ L.length) (hL : L.length ≤ 19) (hp : 0 ≤ p) (e2 : env "row" = some (.ref 30 ti)) (e3 : env "script" = some (.scr ns)) (e4 : env "place" = some (.int p)) :
    Bx 206 rowS env (rT tl) fun fl env' st' => fl = .next ∧ env' "script" = some (.scr ns) ∧ env' "place" = some (.int (p + L.length)) ∧ ∃ tl', st' = rT tl' ∧ Le tl tl' := by
  refine G.asg (E.eqI (E.modI (E.add (E.sub (E.loc e2) E.cI (sub_at (k := 0) (getL_at hr) (by rw [List.getElem?_map, List.getElem?_eq_getElem h1]; rfl))) (E.call (EE.cons (E.loc e3) (EE.one (E.loc e4))) (digit_u hp))) (by decide))) ?_
  generalize decide ((L[0] + if p < ns.length then ns.getD p.toNat 0 else 0) % 2 = 1) = scr
  refine G.asg (E.listT EE.nil (Nat.zero_le _)) ?_
  have ne : ∀ {y v a b}, (¬ y = "is_scripting" ∧ ¬ y = "tokens") → env y = some v → upd (upd env "is_scripting" a) "tokens" b y = some v := fun h e => (upd_ne h.2).trans ((upd_ne h.1).trans e)
  have hr1 : (tl ++ [.list []])[ti]? = some (.list (L.map .int)) := at_app hr
  refine G.forR2 (i := (1 : Nat)) (j := L.length) E.cI (E.len (E.loc (ne (by decide) e2)) ((len_L (getL_at hr1)).trans (by rw [List.length_map]))) ⟨by decide, by decide, Int.natCast_nonneg _, Int.ofNat_le.mpr (Nat.le_trans hL (by decide))⟩ ?_
  rw [show ((L.length : Int) - (1 : Nat)).toNat = L.length - 1 from Int.toNat_sub _ _]
  obtain ⟨fl, env', st', b, T, tl2, rfl, rfl, a, l, g, q1, q2, q3, q4, q5⟩ := u_loop (n := 203) (scr := scr) (ns := ns) (i := tl.length) rfl hr hL hp (L.length - 1) 1 [] (tl ++ [.list []]) _ (Nat.add_sub_cancel' h1) (Nat.le_refl _) RT.nil (fun j o q => at_app q) at_new rfl (ne (by decide) e2) (ne (by decide) e3) (ne (by decide) e4) rfl
  refine ⟨_, env', _, b, ?_⟩
  have hn : L.length - 1 ≤ 18 := Nat.sub_le_sub_right hL 1
  have tin : EV 206 env' (rT tl2) (.cmp .inn (.tup (.cons (.cS "eof") .nil)) (.loc "tokens")) (.bool (T.any eofT)) (rT tl2) := any_eof ▸ E.inn (E.tup (EE.one E.cS) (Nat.le_of_ble_eq_true rfl)) (E.loc q1) (getL_at g) eofs
  cases h : T.any eofT with
  | false =>
    rw [h] at tin
    exact G.iteF tin (row_end (tok_whole a hn h) (l _ _ hr) g q1 q2 q4 q5 ⟨rfl, q3, rfl, tl2, rfl, l⟩)
  | true =>
    rw [h] at tin
    obtain ⟨P, R, rfl, hP⟩ := split_eof h
    have hs := cut_ev (n := 206) hP g q1
    refine G.iteT tin (G.asg hs (row_end (tok_cut a hn hP) (at_app (l _ _ hr)) at_new rfl ((upd_ne (by decide)).trans q2) ((upd_ne (by decide)).trans q4) ((upd_ne (by decide)).trans q5) ⟨rfl, (upd_ne (by decide)).trans ((upd_ne (by decide)).trans q3), rfl, _, rfl, fun j o q => at_app (l j o q)⟩))
end
end Mine
end

section
set_option maxRecDepth 100000
set_option genInjectivity false
namespace Mine
noncomputable def rowa : List Int := [1, 7, 8, 38, 25]
noncomputable def rowb : List Int := [0, 4, 1253]
noncomputable def rowc : List Int := [0, 20, 12]
noncomputable def rowd : List Int := [0, 7, 0, 2, 3, 56, 44, 18, 11, 24, 20, 64, 8, 20, 4, 7, 1]
noncomputable def rowe : List Int := [0, 9, 37, 50, 10, 9, 9, 37, 1, 10, 5, 12, 10, 7, 51, 22, 10, 9, 0]
noncomputable def rowf : List Int := [0, 0, 2, 3, 4, 31, 57, 122, 11, 24, 64, 10, 12, 5, 10, 116]
noncomputable def rowL : List (List Int) := [rowa, rowb, rowc, rowd, rowe, rowf]
noncomputable def refL : List XVal := [.ref 30 0, .ref 30 1, .ref 30 2, .ref 30 3, .ref 30 4, .ref 30 5]
noncomputable def SR : List XObj := (rowL.map fun l => .list (l.map .int)) ++ [.list refL]
noncomputable def cIs (l : List Int) : XE := l.rec .nil fun i _ m => .cons (.cI i) m
section
variable {n : Nat} {env : XEnv} {tl : List XObj} {st : XSt} {ns : List Int}
theorem EE.ints : ∀ l : List Int, EVS n env st (cIs l) (l.map .int) st
  | [] => EE.nil
  | i :: l => EE.cons E.cI (EE.ints l)
theorem E.ints (l : List Int) (h : Nat.ble l.length 100 = true) : EV n env (rT tl) (.list (cIs l)) (.ref 30 tl.length) (rT (tl ++ [.list (l.map .int)])) := E.listT (EE.ints l) (by rw [List.length_map]; exact Nat.le_of_ble_eq_true h)
theorem rT_nil0 : rT [] = XSt.nil := funext fun q => by
  by_cases e : q = 30
  · exact if_pos e
  · exact if_neg e
theorem rows_u : CV n "_law_rows" [] (rT []) (.ref 30 6) (rT SR) := Cl.is <|
  G.enter (fn := f__law_rows) rfl rfl (G.ret (E.listT (vs := refL) (EE.cons (E.ints rowa rfl) (EE.cons (E.ints rowb rfl) (EE.cons (E.ints rowc rfl) (EE.cons (E.ints rowd rfl) (EE.cons (E.ints rowe rfl) (EE.one (E.ints rowf rfl))))))) (Nat.le_of_ble_eq_true rfl)) ⟨rfl, rfl⟩)
theorem rows_loop {Q : XFlow → XEnv → XSt → Prop} (kQ : ∀ env st, Q .next env st) : ∀ (m j : Nat) (p : Int) (tl : List XObj) (env : XEnv), j + m = 6 → 0 ≤ p → Le SR tl → env "script" = some (.scr ns) → env "place" = some (.int p) →
    Bf 206 "row" (IL 30 6 j) rowS env (rT tl) Q := by
  intro m
  induction m with
  | zero =>
    intro j p tl env hj hp l e1 e2
    cases hj
    exact L.stop (xs := refL) (getL_at (l 6 _ rfl)) rfl (kQ _ _)
  | succ m ih =>
    intro j p tl env hj hp l e1 e2
    have hj6 : j < 6 := hj ▸ Nat.lt_add_of_pos_right (Nat.succ_pos m)
    obtain ⟨l0, h1, h2, h3, h4⟩ : ∃ L : List Int, refL[j]? = some (.ref 30 j) ∧ SR[j]? = some (.list (L.map .int)) ∧ 1 ≤ L.length ∧ L.length ≤ 19 := by
      match j, hj6 with
      | 0, _ => exact ⟨rowa, rfl, rfl, by decide, by decide⟩
      | 1, _ => exact ⟨rowb, rfl, rfl, by decide, by decide⟩
      | 2, _ => exact ⟨rowc, rfl, rfl, by decide, by decide⟩
      | 3, _ => exact ⟨rowd, rfl, rfl, by decide, by decide⟩
      | 4, _ => exact ⟨rowe, rfl, rfl, by decide, by decide⟩
      | 5, _ => exact ⟨rowf, rfl, rfl, by decide, by decide⟩
    refine L.turn (xs := refL) (getL_at (l 6 _ rfl)) h1 ((row_ok (L := l0) (p := p) (ns := ns) (l _ _ h2) h3 h4 hp rfl ((upd_ne (by decide)).trans e1) ((upd_ne (by decide)).trans e2)).mono ?_)
    rintro fl env' st' ⟨rfl, q1, q2, tl', rfl, l2⟩
    exact ih (j + 1) _ _ _ ((Nat.succ_add_eq_add_succ j m).trans hj) (Int.add_nonneg hp (Int.natCast_nonneg _)) (fun i o q => l2 i o (l i o q)) q1 q2
theorem law_true (ns : List Int) : Cl 300 "law" [.scr ns] XSt.nil fun v _ => v = .bool true := by
  have h : Cl 206 "law" [.scr ns] (rT []) fun v _ => v = .bool true := G.enter (fn := f_law) rfl rfl (G.asg E.cI (G.forL (E.call EE.nil rows_u) (getL_at (xs := refL) rfl)
    (rows_loop (ns := ns) (fun env st => G.ret E.cB rfl) 6 0 0 SR _ rfl (Int.le_refl _) (fun _ _ q => q) rfl rfl)))
  rw [rT_nil0] at h
  obtain ⟨v, st, c, q⟩ := h
  exact ⟨v, st, c.le (Nat.le_of_ble_eq_true rfl), q⟩
end
end Mine
end

section
set_option maxRecDepth 100000
set_option maxHeartbeats 0
namespace Mine
open PySem PySem.W PySem.Calls PyProof.Rows PySem.SeqAt
-- The names of the twins that the kit would lay under the theorem h: held, so that none is laid (they come to 300 MB; the lid is 32 MiB). Nothing leans on these.
theorem h.tw12730556392991654912:True:=trivial
theorem h.tw1862012176779024416:True:=trivial
theorem h.tw16263727605707035680:True:=trivial
theorem h.tw17021232071034836064:True:=trivial
theorem h.tw11169848200935250080:True:=trivial
theorem h.tw14550531592568501408:True:=trivial
theorem h.tw9431079352302851456:True:=trivial
theorem h.tw5391226320760574368:True:=trivial
theorem h.tw8799685860057839008:True:=trivial
theorem h.tw14101171799220360672:True:=trivial
theorem h.tw2882745685926584800:True:=trivial
theorem h.tw11561037711147757024:True:=trivial
theorem h.tw5474624607944612352:True:=trivial
theorem h.tw7296983210309977632:True:=trivial
theorem h.tw11371603032172104224:True:=trivial
theorem h.tw5805666655711483456:True:=trivial
theorem h.tw2433671607472880224:True:=trivial
theorem h.tw5467272713963516544:True:=trivial
theorem h.tw16060531784772056704:True:=trivial
theorem h.tw11814715280521759392:True:=trivial
theorem h.tw13485386283454874272:True:=trivial
theorem h.tw9427383688650246816:True:=trivial
theorem h.tw6911121595801233120:True:=trivial
theorem h.tw16634721850499902208:True:=trivial
theorem h.tw7359570972774917920:True:=trivial
theorem h.tw12903109805875110720:True:=trivial
theorem h.tw12054761367695123296:True:=trivial
theorem h.tw12343207841290659744:True:=trivial
theorem h.tw4445173839462689696:True:=trivial
theorem h.tw18361421951176029152:True:=trivial
theorem h.tw5661847781615515681:True:=trivial
theorem h.tw11604314408732265537:True:=trivial
theorem h.tw11850583828880017473:True:=trivial
theorem h.tw7291719029001815137:True:=trivial
theorem h.tw11982503516789913697:True:=trivial
theorem h.tw15557421943941688417:True:=trivial
theorem h.tw839909744073942145:True:=trivial
theorem h.tw2659035416781173889:True:=trivial
theorem h.tw13952029585287401633:True:=trivial
theorem h.tw11225452402727769249:True:=trivial
theorem h.tw9505993542990263489:True:=trivial
theorem h.tw10113614756544476385:True:=trivial
theorem h.tw8634445816142311681:True:=trivial
theorem h.tw8446810373175361793:True:=trivial
theorem h.tw15117220493346559265:True:=trivial
theorem h.tw619705118845744577:True:=trivial
theorem h.tw15603329648732198401:True:=trivial
theorem h.tw5019832918158916257:True:=trivial
theorem h.tw4547458175731590817:True:=trivial
theorem h.tw8808119616552897217:True:=trivial
theorem h.tw16671188775906349761:True:=trivial
theorem h.tw11622133009525222081:True:=trivial
theorem h.tw806614813110432449:True:=trivial
theorem h.tw14145933960288996065:True:=trivial
theorem h.tw14528485279528032993:True:=trivial
theorem h.tw8259036905918160609:True:=trivial
theorem h.tw13131845829449710305:True:=trivial
theorem h.tw2216891015931900705:True:=trivial
theorem h.tw6974068213150144289:True:=trivial
theorem h.tw10626321612279906081:True:=trivial
theorem h.tw269373495356137313:True:=trivial
theorem h.tw1191200419168234337:True:=trivial
theorem h.tw12785078528707877729:True:=trivial
theorem h.tw16918110988196852641:True:=trivial
theorem h.tw16274777767166659489:True:=trivial
theorem h.tw8001799990456804257:True:=trivial
theorem h.tw3223264737483727809:True:=trivial
theorem h.tw8585952116024694753:True:=trivial
theorem h.tw3230321888109337602:True:=trivial
theorem h.tw9852532624570719266:True:=trivial
theorem h.tw1812164486366166050:True:=trivial
theorem h.tw4637957788848815138:True:=trivial
theorem h.tw5914417403739699330:True:=trivial
theorem h.tw2082550871667633378:True:=trivial
theorem h.tw17537463242632803586:True:=trivial
theorem h.tw3382222208699387138:True:=trivial
theorem h.tw8226161231842349346:True:=trivial
theorem h.tw9932953954679497026:True:=trivial
theorem h.tw13726990938140583266:True:=trivial
theorem h.tw14218192656250534274:True:=trivial
theorem h.tw1177703422638115234:True:=trivial
theorem h.tw5425975887205173698:True:=trivial
theorem h.tw8070844603971505602:True:=trivial
theorem h.tw10375153933668721218:True:=trivial
theorem h.tw17892772030331381346:True:=trivial
theorem h.tw7759459354965402242:True:=trivial
theorem h.tw16764327091589766818:True:=trivial
theorem h.tw2248078761308761794:True:=trivial
theorem h.tw12062343135620837090:True:=trivial
theorem h.tw13035008582236975874:True:=trivial
theorem h.tw5890263447670696738:True:=trivial
theorem h.tw17822755135371050786:True:=trivial
theorem h.tw10100892229463490370:True:=trivial
theorem h.tw11077833285527029666:True:=trivial
theorem h.tw17507818175271709666:True:=trivial
theorem h.tw2641492892593129442:True:=trivial
theorem h.tw9618861286798998627:True:=trivial
theorem h.tw15071650238008547427:True:=trivial
theorem h.tw16317110668483421283:True:=trivial
theorem h.tw8007243292601566339:True:=trivial
theorem h.tw15407900198101289155:True:=trivial
theorem h.tw15525072738643546371:True:=trivial
theorem h.tw18137614687147931939:True:=trivial
theorem h.tw2859666747883261283:True:=trivial
theorem h.tw15266343243944138083:True:=trivial
theorem h.tw11665158985680246147:True:=trivial
theorem h.tw1293689037104678307:True:=trivial
theorem h.tw17358589510630524355:True:=trivial
theorem h.tw2510845019387720163:True:=trivial
theorem h.tw6537280171397928451:True:=trivial
theorem h.tw13180539537993866883:True:=trivial
theorem h.tw14213708794685384387:True:=trivial
theorem h.tw10015743366245275363:True:=trivial
theorem h.tw7405651146223021827:True:=trivial
theorem h.tw4434952307561136931:True:=trivial
theorem h.tw140762732478775075:True:=trivial
theorem h.tw10510586454899005283:True:=trivial
theorem h.tw7537210114669253636:True:=trivial
theorem h.tw11478696151099393092:True:=trivial
theorem h.tw8434969242293633124:True:=trivial
theorem h.tw6615274532895599716:True:=trivial
theorem h.tw12745236507214173316:True:=trivial
theorem h.tw9392562620605357188:True:=trivial
theorem h.tw3535103340671479972:True:=trivial
theorem h.tw3170279243120788676:True:=trivial
theorem h.tw9830395114460375236:True:=trivial
theorem h.tw16723091396370406628:True:=trivial
theorem h.tw3713559230803669220:True:=trivial
theorem h.tw14104762545385142532:True:=trivial
theorem h.tw5098667534045400324:True:=trivial
theorem h.tw17794559507170920740:True:=trivial
theorem h.tw9380377972051789092:True:=trivial
theorem h.tw11384664155793090884:True:=trivial
theorem h.tw10719062231854843236:True:=trivial
theorem h.tw4505126218415790468:True:=trivial
theorem h.tw11012631350192101764:True:=trivial
theorem h.tw5417476347409504708:True:=trivial
theorem h.tw17724209769699462628:True:=trivial
theorem h.tw15773172694925060612:True:=trivial
theorem h.tw6830342760645643780:True:=trivial
theorem h.tw6275891961346327076:True:=trivial
theorem h.tw768804889845495364:True:=trivial
theorem h.tw8616546202424510052:True:=trivial
theorem h.tw5278864475311385188:True:=trivial
theorem h.tw11561389093935560292:True:=trivial
theorem h.tw777258812862762628:True:=trivial
theorem h.tw14040173459737854692:True:=trivial
theorem h.tw566638691457497860:True:=trivial
theorem h.tw5272305912518265700:True:=trivial
theorem h.tw10803849985231894404:True:=trivial
theorem h.tw7248081173582637956:True:=trivial
theorem h.tw14483478007822396356:True:=trivial
theorem h.tw10070215211548064708:True:=trivial
theorem h.tw12158722813215467492:True:=trivial
theorem h.tw8299322411644470277:True:=trivial
theorem h.tw9147716363017069605:True:=trivial
theorem h.tw8535481145345381477:True:=trivial
theorem h.tw5864171885332393061:True:=trivial
theorem h.tw11804748565767728325:True:=trivial
theorem h.tw11225962162121881797:True:=trivial
theorem h.tw14166609017263377637:True:=trivial
theorem h.tw4238273182120484101:True:=trivial
theorem h.tw14235813871985275205:True:=trivial
theorem h.tw3949435657991519557:True:=trivial
theorem h.tw2883380416769728933:True:=trivial
theorem h.tw4368395780667653541:True:=trivial
theorem h.tw14251452115915496869:True:=trivial
theorem h.tw11412522756158755269:True:=trivial
theorem h.tw4615169659637238277:True:=trivial
theorem h.tw7333071134584507909:True:=trivial
theorem h.tw10302738589507638853:True:=trivial
theorem h.tw14215072750196714085:True:=trivial
theorem h.tw17408650447235468933:True:=trivial
theorem h.tw10947940718677797541:True:=trivial
theorem h.tw10941837580442650309:True:=trivial
theorem h.tw7896335990602847941:True:=trivial
theorem h.tw17659276152848280261:True:=trivial
theorem h.tw10217781170124923621:True:=trivial
theorem h.tw13829171099132145445:True:=trivial
theorem h.tw14501061132447677221:True:=trivial
theorem h.tw284956404584551237:True:=trivial
theorem h.tw13454933286735887173:True:=trivial
theorem h.tw5769462823758091141:True:=trivial
theorem h.tw2503991480411370405:True:=trivial
theorem h.tw8881416665966352325:True:=trivial
theorem h.tw5155573041313987525:True:=trivial
theorem h.tw9680166885048700869:True:=trivial
theorem h.tw15769423472626437093:True:=trivial
theorem h.tw14997691990688656390:True:=trivial
theorem h.tw6419630701347607590:True:=trivial
theorem h.tw10848268722326577222:True:=trivial
theorem h.tw11291576317028980806:True:=trivial
theorem h.tw12621323619118473286:True:=trivial
theorem h.tw12374714053729170598:True:=trivial
theorem h.tw12267770334671174822:True:=trivial
theorem h.tw9948870852176031942:True:=trivial
theorem h.tw3903827559220160742:True:=trivial
theorem h.tw4339663189117550854:True:=trivial
theorem h.tw15814357668483618086:True:=trivial
theorem h.tw12776594617619698022:True:=trivial
theorem h.tw5455806552810815878:True:=trivial
theorem h.tw12328320717909399974:True:=trivial
theorem h.tw16027296241270232518:True:=trivial
theorem h.tw15932343791505041862:True:=trivial
theorem h.tw8793597052796881414:True:=trivial
theorem h.tw14993846271257641542:True:=trivial
theorem h.tw8545692685359777382:True:=trivial
theorem h.tw3160221788572427878:True:=trivial
theorem h.tw831260224390393446:True:=trivial
theorem h.tw12701618657105094278:True:=trivial
theorem h.tw3092041447653879462:True:=trivial
theorem h.tw18402152012776958662:True:=trivial
theorem h.tw5424507362658752262:True:=trivial
theorem h.tw4851610235373934342:True:=trivial
theorem h.tw4604905345551679334:True:=trivial
theorem h.tw1647457480718380902:True:=trivial
theorem h.tw14220675280018371430:True:=trivial
theorem h.tw1420025671130060678:True:=trivial
theorem h.tw11944868380177333126:True:=trivial
theorem h.tw2074880725581360038:True:=trivial
theorem h.tw3708891137208400903:True:=trivial
theorem h.tw4513465157860326439:True:=trivial
theorem h.tw17141186275419593831:True:=trivial
theorem h.tw18335516755069236455:True:=trivial
theorem h.tw14363841103247326471:True:=trivial
theorem h.tw14748789445991907591:True:=trivial
theorem h.tw7538722837673820423:True:=trivial
theorem h.tw9961843852490621255:True:=trivial
theorem h.tw17990302397048777095:True:=trivial
theorem h.tw15315667241393513895:True:=trivial
theorem h.tw2832925829012739527:True:=trivial
theorem h.tw18316440359328880135:True:=trivial
theorem h.tw11747936968431873543:True:=trivial
theorem h.tw3399658603950757383:True:=trivial
theorem h.tw14866901246642097703:True:=trivial
theorem h.tw15268565758015676967:True:=trivial
theorem h.tw10080771027104850567:True:=trivial
theorem h.tw8984416364512963207:True:=trivial
theorem h.tw16251556152658795143:True:=trivial
theorem h.tw8550620776099056295:True:=trivial
theorem h.tw5041830357163308711:True:=trivial
theorem h.tw2522633187957921479:True:=trivial
theorem h.tw8336931890430050087:True:=trivial
theorem h.tw2692718641611122567:True:=trivial
theorem h.tw10299696984612955047:True:=trivial
theorem h.tw313557481420190631:True:=trivial
theorem h.tw12656607519898960839:True:=trivial
theorem h.tw16699081257112414248:True:=trivial
theorem h.tw14582207547051537448:True:=trivial
theorem h.tw3172776261215243336:True:=trivial
theorem h.tw12055834552727283816:True:=trivial
theorem h.tw13667164578149410920:True:=trivial
theorem h.tw10504305817240598632:True:=trivial
theorem h.tw1921629716774983816:True:=trivial
theorem h.tw17194228838343175304:True:=trivial
theorem h.tw17269635952286857416:True:=trivial
theorem h.tw4022498666542126344:True:=trivial
theorem h.tw13488106118740400424:True:=trivial
theorem h.tw7157298459306426696:True:=trivial
theorem h.tw3083123535346969928:True:=trivial
theorem h.tw11774127600825336168:True:=trivial
theorem h.tw15232904432226875752:True:=trivial
theorem h.tw15547411134732289384:True:=trivial
theorem h.tw4712083174283803016:True:=trivial
theorem h.tw756285936442944968:True:=trivial
theorem h.tw276469817722332616:True:=trivial
theorem h.tw12263916369242814952:True:=trivial
theorem h.tw13701219796064571976:True:=trivial
theorem h.tw11334917844234089064:True:=trivial
theorem h.tw1562985741533662824:True:=trivial
theorem h.tw3190993496589147784:True:=trivial
theorem h.tw4072155337846027912:True:=trivial
theorem h.tw8004010352318101160:True:=trivial
theorem h.tw9486195770033041064:True:=trivial
theorem h.tw3937530024635467464:True:=trivial
theorem h.tw9382193204181520104:True:=trivial
theorem h.tw1048970859645183720:True:=trivial
theorem h.tw1702200043265445640:True:=trivial
theorem h.tw12783726066489037640:True:=trivial
theorem h.tw1604783383819962184:True:=trivial
theorem h.tw2629436321594667848:True:=trivial
theorem h.tw7394253477126121320:True:=trivial
theorem h.tw18031465567017862024:True:=trivial
theorem h.tw5790528892188864392:True:=trivial
theorem h.tw563596563721237416:True:=trivial
theorem h.tw10323915175593208744:True:=trivial
theorem h.tw16922092684243639305:True:=trivial
theorem h.tw4152195222462524489:True:=trivial
theorem h.tw7507078253422414953:True:=trivial
theorem h.tw6962098115093273705:True:=trivial
theorem h.tw1895460443103508585:True:=trivial
theorem h.tw11988698388176910505:True:=trivial
theorem h.tw6895014514365670601:True:=trivial
theorem h.tw12567321116350421225:True:=trivial
theorem h.tw14381671787131144457:True:=trivial
theorem h.tw2238902414104301897:True:=trivial
theorem h.tw14882480591052876137:True:=trivial
theorem h.tw6149729509139005801:True:=trivial
theorem h.tw5067628389024098729:True:=trivial
theorem h.tw13126054857942921641:True:=trivial
theorem h.tw9889273426583153161:True:=trivial
theorem h.tw9507001409817563721:True:=trivial
theorem h.tw17803680328377120361:True:=trivial
theorem h.tw18203486496529112681:True:=trivial
theorem h.tw7029982568645035657:True:=trivial
theorem h.tw9236477600379715273:True:=trivial
theorem h.tw9667098487572043497:True:=trivial
theorem h.tw1578163071258582761:True:=trivial
theorem h.tw8653995511901416169:True:=trivial
theorem h.tw14020019780620416745:True:=trivial
theorem h.tw13062798596584638313:True:=trivial
theorem h.tw7560702367074246505:True:=trivial
theorem h.tw14858498577645108073:True:=trivial
theorem h.tw17422877032634611593:True:=trivial
theorem h.tw170826705761949609:True:=trivial
theorem h.tw17231718524712317897:True:=trivial
theorem h.tw16905252620646593513:True:=trivial
theorem h.tw12527917987952461866:True:=trivial
theorem h.tw17512010869114018858:True:=trivial
theorem h.tw2451297414912171050:True:=trivial
theorem h.tw754371764950731850:True:=trivial
theorem h.tw15705270081527933066:True:=trivial
theorem h.tw10397610655686099114:True:=trivial
theorem h.tw16125186177882137770:True:=trivial
theorem h.tw16661796163429847210:True:=trivial
theorem h.tw15704873753422703818:True:=trivial
theorem h.tw9528804265909377322:True:=trivial
theorem h.tw16663566814499098954:True:=trivial
theorem h.tw7954803414880216394:True:=trivial
theorem h.tw10204852869013578090:True:=trivial
theorem h.tw14677851194443787722:True:=trivial
theorem h.tw16577623817251030506:True:=trivial
theorem h.tw15756342955998429674:True:=trivial
theorem h.tw13671447906948063754:True:=trivial
theorem h.tw16628212798158555658:True:=trivial
theorem h.tw1691684418359810570:True:=trivial
theorem h.tw15874537043086313002:True:=trivial
theorem h.tw6478769890003736202:True:=trivial
theorem h.tw12389270730937984650:True:=trivial
theorem h.tw14202642533580855978:True:=trivial
theorem h.tw3089871108352111306:True:=trivial
theorem h.tw5992590010783106762:True:=trivial
theorem h.tw9614524973584416490:True:=trivial
theorem h.tw9461319654309427978:True:=trivial
theorem h.tw6533097008228179754:True:=trivial
theorem h.tw3716810906051282826:True:=trivial
theorem h.tw17229736627261247370:True:=trivial
theorem h.tw4067899877616087946:True:=trivial
theorem h.tw2011509754570072042:True:=trivial
theorem h.tw6012940715707866155:True:=trivial
theorem h.tw3447467212119560235:True:=trivial
theorem h.tw12723222226473534571:True:=trivial
theorem h.tw11471121703731268747:True:=trivial
theorem h.tw14362652060161068171:True:=trivial
theorem h.tw18383777619080609035:True:=trivial
theorem h.tw3756267335236520235:True:=trivial
theorem h.tw13827456703681584491:True:=trivial
theorem h.tw2576057470110384587:True:=trivial
theorem h.tw17434414067783861803:True:=trivial
theorem h.tw18229415634737500715:True:=trivial
theorem h.tw10561819942693377579:True:=trivial
theorem h.tw505340468914200107:True:=trivial
theorem h.tw1814399967673043499:True:=trivial
theorem h.tw2125039185863046731:True:=trivial
theorem h.tw11787600635267743307:True:=trivial
theorem h.tw6258706226867707531:True:=trivial
theorem h.tw363190730091711147:True:=trivial
theorem h.tw3794338423039232715:True:=trivial
theorem h.tw18048685302550872779:True:=trivial
theorem h.tw3391174569313834731:True:=trivial
theorem h.tw7069378323603528459:True:=trivial
theorem h.tw16171364310294457099:True:=trivial
theorem h.tw17998544806454134571:True:=trivial
theorem h.tw3103458032253875019:True:=trivial
theorem h.tw1248811200110118731:True:=trivial
theorem h.tw4997138367060926315:True:=trivial
theorem h.tw18038155345516025739:True:=trivial
theorem h.tw17764311795047843755:True:=trivial
theorem h.tw12070246936284780459:True:=trivial
theorem h.tw10797486934549405643:True:=trivial
theorem h.tw6378508172472989643:True:=trivial
theorem h.tw17703431127671044075:True:=trivial
theorem h.tw13942990362390771724:True:=trivial
theorem h.tw6034893000897100812:True:=trivial
theorem h.tw10359757870518472748:True:=trivial
theorem h.tw2889380408481101868:True:=trivial
theorem h.tw10208122264894780492:True:=trivial
theorem h.tw2904961258987022476:True:=trivial
theorem h.tw15001726577390939308:True:=trivial
theorem h.tw856389435654989996:True:=trivial
theorem h.tw14569169575498494156:True:=trivial
theorem h.tw7907958977055106284:True:=trivial
theorem h.tw11703449337542925548:True:=trivial
theorem h.tw1723748437222549772:True:=trivial
theorem h.tw11505790168188839244:True:=trivial
theorem h.tw5682897255307902284:True:=trivial
theorem h.tw13290766786742068588:True:=trivial
theorem h.tw6035457257613275564:True:=trivial
theorem h.tw9444545334705597900:True:=trivial
theorem h.tw13357084272826809804:True:=trivial
theorem h.tw4272817849094309356:True:=trivial
theorem h.tw1089894491728691692:True:=trivial
theorem h.tw14600530056644454988:True:=trivial
theorem h.tw8463132373467524684:True:=trivial
theorem h.tw16810322070807838284:True:=trivial
theorem h.tw8180995533940035180:True:=trivial
theorem h.tw17023079774689043084:True:=trivial
theorem h.tw11065042233917603500:True:=trivial
theorem h.tw10112321734428337868:True:=trivial
theorem h.tw17093815427056251596:True:=trivial
theorem h.tw11718833706748079820:True:=trivial
theorem h.tw17630858353461757676:True:=trivial
theorem h.tw18136603409958867724:True:=trivial
theorem h.tw11428853916675331852:True:=trivial
theorem h.tw9835974523423179564:True:=trivial
theorem h.tw12520289254370819916:True:=trivial
theorem h.tw3739291259121490764:True:=trivial
theorem h.tw7532136809611915116:True:=trivial
theorem h.tw15930764292022707084:True:=trivial
theorem h.tw18283258865239947148:True:=trivial
theorem h.tw7481922553813870572:True:=trivial
theorem h.tw12296696125928799277:True:=trivial
theorem h.tw11531186004009924749:True:=trivial
theorem h.tw17289475472770021517:True:=trivial
theorem h.tw10220287237618045101:True:=trivial
theorem h.tw8008969980538163373:True:=trivial
theorem h.tw16616528902071036077:True:=trivial
theorem h.tw8615879393455596717:True:=trivial
theorem h.tw11269488191263667437:True:=trivial
theorem h.tw5415412070493904205:True:=trivial
theorem h.tw6865385024448999789:True:=trivial
theorem h.tw10130068515917925773:True:=trivial
theorem h.tw2239867306448633261:True:=trivial
theorem h.tw10332058959584512429:True:=trivial
theorem h.tw17888689088463840717:True:=trivial
theorem h.tw11168518687123670541:True:=trivial
theorem h.tw197325230177535501:True:=trivial
theorem h.tw12887034139009819213:True:=trivial
theorem h.tw16283859611614711437:True:=trivial
theorem h.tw4117420023994239629:True:=trivial
theorem h.tw15841412907976624845:True:=trivial
theorem h.tw6468903353095202573:True:=trivial
theorem h.tw11504077891567943437:True:=trivial
theorem h.tw7254483092744772397:True:=trivial
theorem h.tw5699921787665083181:True:=trivial
theorem h.tw7541618904875886413:True:=trivial
theorem h.tw14051754760715826029:True:=trivial
theorem h.tw9972437866993329037:True:=trivial
theorem h.tw9165145830749168525:True:=trivial
theorem h.tw5111211639507797997:True:=trivial
theorem h.tw7454182444628172814:True:=trivial
theorem h.tw2006551559738373166:True:=trivial
theorem h.tw10566256051045323822:True:=trivial
theorem h.tw13304914275423559758:True:=trivial
theorem h.tw15922709871233059918:True:=trivial
theorem h.tw789422889901917262:True:=trivial
theorem h.tw10563241247040012398:True:=trivial
theorem h.tw18383371799293833390:True:=trivial
theorem h.tw915946384010675406:True:=trivial
theorem h.tw12126605419728654542:True:=trivial
theorem h.tw6863484586004960462:True:=trivial
theorem h.tw4119603890692647118:True:=trivial
theorem h.tw15242660466240379118:True:=trivial
theorem h.tw17624212693083860238:True:=trivial
theorem h.tw9133745166886107438:True:=trivial
theorem h.tw4375232483459336526:True:=trivial
theorem h.tw16150613276377646446:True:=trivial
theorem h.tw10671491894406009198:True:=trivial
theorem h.tw5295112964429476206:True:=trivial
theorem h.tw4352082183800340878:True:=trivial
theorem h.tw4441211524902971790:True:=trivial
theorem h.tw9034808517249872334:True:=trivial
theorem h.tw10986231233177031150:True:=trivial
theorem h.tw4223539983642813934:True:=trivial
theorem h.tw15599725358934638094:True:=trivial
theorem h.tw8114498818430101006:True:=trivial
theorem h.tw16247015241071245902:True:=trivial
theorem h.tw15438980398918866574:True:=trivial
theorem h.tw11340608044641968782:True:=trivial
theorem h.tw18421646793152347822:True:=trivial
theorem h.tw9365971424444914446:True:=trivial
theorem h.tw3698064292603893646:True:=trivial
theorem h.tw488099162253406094:True:=trivial
theorem h.tw4578738338175677326:True:=trivial
theorem h.tw12403933618633053102:True:=trivial
theorem h.tw2541255345397979054:True:=trivial
theorem h.tw1744644197652788142:True:=trivial
theorem h.tw13255674963082532814:True:=trivial
theorem h.tw9944895037763000302:True:=trivial
theorem h.tw13161184333397019695:True:=trivial
theorem h.tw18060268182353473583:True:=trivial
theorem h.tw15774043367624985711:True:=trivial
theorem h.tw5069441387073826927:True:=trivial
theorem h.tw6628964900245472527:True:=trivial
theorem h.tw7384019616739082511:True:=trivial
theorem h.tw13072732516249297263:True:=trivial
theorem h.tw14796966210213592495:True:=trivial
theorem h.tw4644161746765118895:True:=trivial
theorem h.tw13095812127697958351:True:=trivial
theorem h.tw13244774162445282799:True:=trivial
theorem h.tw15770463773269358063:True:=trivial
theorem h.tw1574520129451151887:True:=trivial
theorem h.tw14990112270037560879:True:=trivial
theorem h.tw5232370726817119791:True:=trivial
theorem h.tw12533516968948327983:True:=trivial
theorem h.tw7438253619521393231:True:=trivial
theorem h.tw15950409416315196015:True:=trivial
theorem h.tw5576963495701010095:True:=trivial
theorem h.tw6100786589923674895:True:=trivial
theorem h.tw3352848157163789103:True:=trivial
theorem h.tw12166033263867107215:True:=trivial
theorem h.tw17328353067329418159:True:=trivial
theorem h.tw11434341879908795408:True:=trivial
theorem h.tw14557774859994143792:True:=trivial
theorem h.tw4559961695089478736:True:=trivial
theorem h.tw18227174240867701840:True:=trivial
theorem h.tw16062319932040904784:True:=trivial
theorem h.tw8433944378910079088:True:=trivial
theorem h.tw3563993257590342832:True:=trivial
theorem h.tw12141792692166886608:True:=trivial
theorem h.tw1882439533219253456:True:=trivial
theorem h.tw17212550160208473296:True:=trivial
theorem h.tw13480719579523557616:True:=trivial
theorem h.tw54449619510540528:True:=trivial
theorem h.tw16424992300477153648:True:=trivial
theorem h.tw10354677929333891504:True:=trivial
theorem h.tw10784089882781812176:True:=trivial
theorem h.tw1356244002327342800:True:=trivial
theorem h.tw2894139391363733328:True:=trivial
theorem h.tw6699030399236418416:True:=trivial
theorem h.tw6407841277152076720:True:=trivial
theorem h.tw7356087959432031152:True:=trivial
theorem h.tw14432426539181758416:True:=trivial
theorem h.tw17853841771173400560:True:=trivial
theorem h.tw6143694748465868849:True:=trivial
theorem h.tw4949079075508270129:True:=trivial
theorem h.tw12358761048792062161:True:=trivial
theorem h.tw16683440126042084593:True:=trivial
theorem h.tw17571813284463489265:True:=trivial
theorem h.tw6328928097373732145:True:=trivial
theorem h.tw1319867330637527345:True:=trivial
theorem h.tw12486631765811906961:True:=trivial
theorem h.tw9611384628978185617:True:=trivial
theorem h.tw6175780776524470705:True:=trivial
theorem h.tw17794180361644096977:True:=trivial
theorem h.tw11386156058420734417:True:=trivial
theorem h.tw5730088969214682609:True:=trivial
theorem h.tw15860273128930219537:True:=trivial
theorem h.tw13284178657893107217:True:=trivial
theorem h.tw8659866349962735153:True:=trivial
theorem h.tw15829060272018539121:True:=trivial
theorem h.tw9410183543335996049:True:=trivial
theorem h.tw4450907203420520081:True:=trivial
theorem h.tw18045102350020872913:True:=trivial
theorem h.tw9529420637122136817:True:=trivial
theorem h.tw14762645181564063537:True:=trivial
theorem h.tw7770972099932353329:True:=trivial
theorem h.tw236034682386046801:True:=trivial
theorem h.tw10258701952867570513:True:=trivial
theorem h.tw2361939319518525329:True:=trivial
theorem h.tw17657088041258923921:True:=trivial
theorem h.tw13100107872873294801:True:=trivial
theorem h.tw18008468873145020369:True:=trivial
theorem h.tw13043509625624185874:True:=trivial
theorem h.tw13444707694774646802:True:=trivial
theorem h.tw2901769489366431826:True:=trivial
theorem h.tw7120954832479020146:True:=trivial
theorem h.tw7782798979111969906:True:=trivial
theorem h.tw17940742136307189906:True:=trivial
theorem h.tw13715403856851756210:True:=trivial
theorem h.tw3758547008183501042:True:=trivial
theorem h.tw6908780052904298738:True:=trivial
theorem h.tw16835868912353555730:True:=trivial
theorem h.tw2118953264726733106:True:=trivial
theorem h.tw4856612431454723442:True:=trivial
theorem h.tw17735629473301517714:True:=trivial
theorem h.tw18056562225625479666:True:=trivial
theorem h.tw5153071815150121586:True:=trivial
theorem h.tw17059075006984044210:True:=trivial
theorem h.tw3060255913650069202:True:=trivial
theorem h.tw14913704501933283186:True:=trivial
theorem h.tw2759117349812589426:True:=trivial
theorem h.tw13553551544343943058:True:=trivial
theorem h.tw12759897624317895602:True:=trivial
theorem h.tw11385655153087809490:True:=trivial
theorem h.tw14878971333948748754:True:=trivial
theorem h.tw9135478140289576914:True:=trivial
theorem h.tw14554663561820802227:True:=trivial
theorem h.tw9264167367849844979:True:=trivial
theorem h.tw11566312217158300915:True:=trivial
theorem h.tw5848980453553814803:True:=trivial
theorem h.tw15176673394747995411:True:=trivial
theorem h.tw6072129823308890419:True:=trivial
theorem h.tw1138002219032063379:True:=trivial
theorem h.tw7789138162913104275:True:=trivial
theorem h.tw14349457750751504787:True:=trivial
theorem h.tw7911170119678064051:True:=trivial
theorem h.tw12267300618946972179:True:=trivial
theorem h.tw12290514749971144243:True:=trivial
theorem h.tw348914760949507635:True:=trivial
theorem h.tw13859685114766386739:True:=trivial
theorem h.tw8585901346899153491:True:=trivial
theorem h.tw10720518740340726355:True:=trivial
theorem h.tw7897275387930148435:True:=trivial
theorem h.tw10989266456058693235:True:=trivial
theorem h.tw10494983323927813747:True:=trivial
theorem h.tw4200375331950263923:True:=trivial
theorem h.tw15377066093109674675:True:=trivial
theorem h.tw12121957606023749331:True:=trivial
theorem h.tw1574859183759491827:True:=trivial
theorem h.tw2115680978443602739:True:=trivial
theorem h.tw1259278917918564147:True:=trivial
theorem h.tw3695492264728574771:True:=trivial
theorem h.tw6258471394664189843:True:=trivial
theorem h.tw8495586460568584083:True:=trivial
theorem h.tw14339711634828625843:True:=trivial
theorem h.tw9196097036606155699:True:=trivial
theorem h.tw14794400287006146483:True:=trivial
theorem h.tw15486681095558948819:True:=trivial
theorem h.tw16774075509019870195:True:=trivial
theorem h.tw12154131278939850739:True:=trivial
theorem h.tw4975528024565306388:True:=trivial
theorem h.tw15062263408405462068:True:=trivial
theorem h.tw157172750986073172:True:=trivial
theorem h.tw3413926123843970164:True:=trivial
theorem h.tw12847692211902576820:True:=trivial
theorem h.tw708929371534625012:True:=trivial
theorem h.tw2522582874864574804:True:=trivial
theorem h.tw397694359247954292:True:=trivial
theorem h.tw16165767408229411188:True:=trivial
theorem h.tw13081248706985803156:True:=trivial
theorem h.tw17985541059290712500:True:=trivial
theorem h.tw9829103114381839828:True:=trivial
theorem h.tw15736687653252581940:True:=trivial
theorem h.tw12555664207257696820:True:=trivial
theorem h.tw7098900464201346644:True:=trivial
theorem h.tw2456107537480889940:True:=trivial
theorem h.tw8774892081070769812:True:=trivial
theorem h.tw13497403846038372084:True:=trivial
theorem h.tw4486105833941000948:True:=trivial
theorem h.tw8582881799441940244:True:=trivial
theorem h.tw1523764528106055476:True:=trivial
theorem h.tw7742065681106001748:True:=trivial
theorem h.tw14805111829675861876:True:=trivial
theorem h.tw7508778232955744148:True:=trivial
theorem h.tw12402404901631985588:True:=trivial
theorem h.tw8651657690867478452:True:=trivial
theorem h.tw16940053247571121076:True:=trivial
theorem h.tw455434060755175380:True:=trivial
theorem h.tw6151393173824375764:True:=trivial
theorem h.tw3787820532395609044:True:=trivial
theorem h.tw1843709074693381076:True:=trivial
theorem h.tw2141578033240047669:True:=trivial
theorem h.tw8708579310244137013:True:=trivial
theorem h.tw11671700250010608693:True:=trivial
theorem h.tw1700521796064778389:True:=trivial
theorem h.tw14526306760630191253:True:=trivial
theorem h.tw4962257522113539221:True:=trivial
theorem h.tw15859541182242334901:True:=trivial
theorem h.tw15949546496252467413:True:=trivial
theorem h.tw12462687565945132277:True:=trivial
theorem h.tw5665323206420750581:True:=trivial
theorem h.tw3610483536161278261:True:=trivial
theorem h.tw5969032602514329909:True:=trivial
theorem h.tw3846698610706146613:True:=trivial
theorem h.tw1784390739741788501:True:=trivial
theorem h.tw10509402411076940117:True:=trivial
theorem h.tw7802649368611051925:True:=trivial
theorem h.tw2805001111776851349:True:=trivial
theorem h.tw12472045239118068117:True:=trivial
theorem h.tw18444589360478295509:True:=trivial
theorem h.tw8910856061333121493:True:=trivial
theorem h.tw4929053229050085877:True:=trivial
theorem h.tw4760829901377291765:True:=trivial
theorem h.tw2529060777151415893:True:=trivial
theorem h.tw7378754225238929013:True:=trivial
theorem h.tw3113219161404156597:True:=trivial
theorem h.tw5592192331393545909:True:=trivial
theorem h.tw5197447908214590133:True:=trivial
theorem h.tw6275201083077470933:True:=trivial
theorem h.tw6541258437040475893:True:=trivial
theorem h.tw15387962019632520949:True:=trivial
theorem h.tw17683600763227066101:True:=trivial
theorem h.tw16313194723291538197:True:=trivial
theorem h.tw8443227515277532949:True:=trivial
theorem h.tw15126930571789599573:True:=trivial
theorem h.tw13332646809102196565:True:=trivial
theorem h.tw16660711157786760021:True:=trivial
theorem h.tw2520440967930776437:True:=trivial
theorem h.tw16693027010461615989:True:=trivial
theorem h.tw8971421642426170325:True:=trivial
theorem h.tw6971913605738027030:True:=trivial
theorem h.tw18233808820141042774:True:=trivial
theorem h.tw6649330993260691542:True:=trivial
theorem h.tw6068013760157828214:True:=trivial
theorem h.tw13359881798483879062:True:=trivial
theorem h.tw2631809298886878358:True:=trivial
theorem h.tw16989655458810738870:True:=trivial
theorem h.tw11055180392840065238:True:=trivial
theorem h.tw15649489722268941622:True:=trivial
theorem h.tw14499047513578265942:True:=trivial
theorem h.tw9760055622254343542:True:=trivial
theorem h.tw15074754548132536694:True:=trivial
theorem h.tw310311755307770326:True:=trivial
theorem h.tw10840482306913640982:True:=trivial
theorem h.tw4720987207758368278:True:=trivial
theorem h.tw4480240032590068246:True:=trivial
theorem h.tw18353726742616454838:True:=trivial
theorem h.tw1318658075789443830:True:=trivial
theorem h.tw9361674937946636086:True:=trivial
theorem h.tw3353516256928961494:True:=trivial
theorem h.tw7147991023118278614:True:=trivial
theorem h.tw5030923949517385718:True:=trivial
theorem h.tw17719453192511338551:True:=trivial
theorem h.tw4634928338280007767:True:=trivial
theorem h.tw16185264884590891127:True:=trivial
theorem h.tw18339047029534914711:True:=trivial
theorem h.tw13831168274098169015:True:=trivial
theorem h.tw2530641055709369559:True:=trivial
theorem h.tw4136849619280200983:True:=trivial
theorem h.tw2483433224950437143:True:=trivial
theorem h.tw15263370393660191031:True:=trivial
theorem h.tw11818430215813300567:True:=trivial
theorem h.tw1056421454553859415:True:=trivial
theorem h.tw6610427791173688695:True:=trivial
theorem h.tw3010352731502456183:True:=trivial
theorem h.tw17754465757972259191:True:=trivial
theorem h.tw935291716312785335:True:=trivial
theorem h.tw8182143581676739031:True:=trivial
theorem h.tw7403042719120014839:True:=trivial
theorem h.tw3490112869312774647:True:=trivial
theorem h.tw584253434855135767:True:=trivial
theorem h.tw13950950326060513815:True:=trivial
theorem h.tw11969897257859275351:True:=trivial
theorem h.tw7110628893467769431:True:=trivial
theorem h.tw9614174970052791959:True:=trivial
theorem h.tw17139690903990463159:True:=trivial
theorem h.tw11243100614021210839:True:=trivial
theorem h.tw6840695164443027159:True:=trivial
theorem h.tw3678714347275503383:True:=trivial
theorem h.tw2896299490504988439:True:=trivial
theorem h.tw12734025025322996535:True:=trivial
theorem h.tw14173951078040444791:True:=trivial
theorem h.tw4836280130652465015:True:=trivial
theorem h.tw17278020453715053463:True:=trivial
theorem h.tw347437877457614839:True:=trivial
theorem h.tw3407911468271960055:True:=trivial
theorem h.tw17010347451085647000:True:=trivial
theorem h.tw16934188628908681432:True:=trivial
theorem h.tw12899976490562603256:True:=trivial
theorem h.tw16385683823209986328:True:=trivial
theorem h.tw7168984925836282232:True:=trivial
theorem h.tw341975338989838712:True:=trivial
theorem h.tw9196131655447079320:True:=trivial
theorem h.tw8099074806403307960:True:=trivial
theorem h.tw14623928616713253304:True:=trivial
theorem h.tw12299836713206495704:True:=trivial
theorem h.tw772187252973158872:True:=trivial
theorem h.tw4078692687044408856:True:=trivial
theorem h.tw997771812233449016:True:=trivial
theorem h.tw2795638959698346616:True:=trivial
theorem h.tw17566352245939894936:True:=trivial
theorem h.tw15212373099349180056:True:=trivial
theorem h.tw15074146418603650776:True:=trivial
theorem h.tw1672953268577687288:True:=trivial
theorem h.tw16881162551070811928:True:=trivial
theorem h.tw9661273287911443256:True:=trivial
theorem h.tw11869163234891595672:True:=trivial
theorem h.tw12692444923116141528:True:=trivial
theorem h.tw2681390146884020249:True:=trivial
theorem h.tw2947254947264419929:True:=trivial
theorem h.tw3002707862061595801:True:=trivial
theorem h.tw355747341927001273:True:=trivial
theorem h.tw17329505626494293177:True:=trivial
theorem h.tw15032526719731472633:True:=trivial
theorem h.tw6097532643486097785:True:=trivial
theorem h.tw10659717425121165721:True:=trivial
theorem h.tw16435198909613720985:True:=trivial
theorem h.tw13307561614600665529:True:=trivial
theorem h.tw11694842400798472633:True:=trivial
theorem h.tw16185560819900565977:True:=trivial
theorem h.tw212297404043425241:True:=trivial
theorem h.tw14257575845529169401:True:=trivial
theorem h.tw11017828086339456505:True:=trivial
theorem h.tw8140648864970904121:True:=trivial
theorem h.tw6438159391381231193:True:=trivial
theorem h.tw15348000213203334777:True:=trivial
theorem h.tw7046848952353480313:True:=trivial
theorem h.tw6430103723215747705:True:=trivial
theorem h.tw626579761670944409:True:=trivial
theorem h.tw13062612507392925337:True:=trivial
theorem h.tw18217672105063195353:True:=trivial
theorem h.tw5657022797069802233:True:=trivial
theorem h.tw17326091816415362873:True:=trivial
theorem h.tw9929347108346720089:True:=trivial
theorem h.tw13195425574311988089:True:=trivial
theorem h.tw13965423707654221689:True:=trivial
theorem h.tw4238797914317521817:True:=trivial
theorem h.tw12958884805911852953:True:=trivial
theorem h.tw29641667138764729:True:=trivial
theorem h.tw14371893646553298905:True:=trivial
theorem h.tw2404832278346749945:True:=trivial
theorem h.tw9736799563492685817:True:=trivial
theorem h.tw15050089393431439418:True:=trivial
theorem h.tw17650463001127791770:True:=trivial
theorem h.tw11147631189368476922:True:=trivial
theorem h.tw18023971263637570810:True:=trivial
theorem h.tw4052464719268784442:True:=trivial
theorem h.tw6118079900555004218:True:=trivial
theorem h.tw11866272882691989818:True:=trivial
theorem h.tw7897837437775312250:True:=trivial
theorem h.tw11867246117825705402:True:=trivial
theorem h.tw13029036853294121466:True:=trivial
theorem h.tw17402429290955009530:True:=trivial
theorem h.tw12828038301381035546:True:=trivial
theorem h.tw15704201032223786554:True:=trivial
theorem h.tw8754261145089333882:True:=trivial
theorem h.tw6798285367822590682:True:=trivial
theorem h.tw7155009186653612762:True:=trivial
theorem h.tw2029198557854254810:True:=trivial
theorem h.tw13397063918156330746:True:=trivial
theorem h.tw5819259368064718618:True:=trivial
theorem h.tw11490307555493537562:True:=trivial
theorem h.tw17708629730505063194:True:=trivial
theorem h.tw1997940426198798138:True:=trivial
theorem h.tw107815169998805850:True:=trivial
theorem h.tw9965295281924701050:True:=trivial
theorem h.tw6475828903018274778:True:=trivial
theorem h.tw11198193013131496442:True:=trivial
theorem h.tw17650126303787970554:True:=trivial
theorem h.tw3971496880992950331:True:=trivial
theorem h.tw16958642587919837243:True:=trivial
theorem h.tw32807935950320795:True:=trivial
theorem h.tw16502270569698505979:True:=trivial
theorem h.tw5658247963528059195:True:=trivial
theorem h.tw8325467940910964059:True:=trivial
theorem h.tw14256530027672588635:True:=trivial
theorem h.tw17038624514425815451:True:=trivial
theorem h.tw362290394480791963:True:=trivial
theorem h.tw3935485496980297115:True:=trivial
theorem h.tw795484390220425659:True:=trivial
theorem h.tw11823851961502859707:True:=trivial
theorem h.tw3094062239887985115:True:=trivial
theorem h.tw18267023592393461211:True:=trivial
theorem h.tw14153151714561057243:True:=trivial
theorem h.tw2949717528683774459:True:=trivial
theorem h.tw2664453786773030427:True:=trivial
theorem h.tw5736452974876700187:True:=trivial
theorem h.tw628638652546025019:True:=trivial
theorem h.tw8620376785071999547:True:=trivial
theorem h.tw16464466315344592443:True:=trivial
theorem h.tw2013138800184345147:True:=trivial
theorem h.tw4937380376276347483:True:=trivial
theorem h.tw3641652990443778651:True:=trivial
theorem h.tw17162407255020878491:True:=trivial
theorem h.tw15753661988341355163:True:=trivial
theorem h.tw14812462795112558299:True:=trivial
theorem h.tw16066577449130251003:True:=trivial
theorem h.tw13809241315680395067:True:=trivial
theorem h.tw16861688747880592187:True:=trivial
theorem h.tw17099105529841933115:True:=trivial
theorem h.tw12852748578784631643:True:=trivial
theorem h.tw1398129647838631803:True:=trivial
theorem h.tw13941763628454918011:True:=trivial
theorem h.tw7979369947893579643:True:=trivial
theorem h.tw4627758831126636411:True:=trivial
theorem h.tw11314599585853964155:True:=trivial
theorem h.tw9099524735094762395:True:=trivial
theorem h.tw1290296098269959292:True:=trivial
theorem h.tw6376939556067513500:True:=trivial
theorem h.tw5678448518634349756:True:=trivial
theorem h.tw3675434881079296188:True:=trivial
theorem h.tw571182543272459484:True:=trivial
theorem h.tw17440355837374580956:True:=trivial
theorem h.tw11094464254337399068:True:=trivial
theorem h.tw7056964273891908924:True:=trivial
theorem h.tw3011522316826232156:True:=trivial
theorem h.tw2371632673724754268:True:=trivial
theorem h.tw16603899029016679804:True:=trivial
theorem h.tw2628164580770665852:True:=trivial
theorem h.tw13111359617333850524:True:=trivial
theorem h.tw5089429981083703740:True:=trivial
theorem h.tw17472720820187346364:True:=trivial
theorem h.tw11387927248245836220:True:=trivial
theorem h.tw1486355345268308412:True:=trivial
theorem h.tw7298730038799534652:True:=trivial
theorem h.tw3277222718253484604:True:=trivial
theorem h.tw7877790397829338716:True:=trivial
theorem h.tw1216649830595493500:True:=trivial
theorem h.tw4027558909691759260:True:=trivial
theorem h.tw17266865480643752796:True:=trivial
theorem h.tw7478699205935544156:True:=trivial
theorem h.tw15859554124304073564:True:=trivial
theorem h.tw5119603891250302844:True:=trivial
theorem h.tw11925831412148217788:True:=trivial
theorem h.tw6447736293858880476:True:=trivial
theorem h.tw8767130591013779452:True:=trivial
theorem h.tw10478356288547546108:True:=trivial
theorem h.tw1030420409270773821:True:=trivial
theorem h.tw504918918382811229:True:=trivial
theorem h.tw11057389585713553597:True:=trivial
theorem h.tw3417098013843564765:True:=trivial
theorem h.tw5436120138962108765:True:=trivial
theorem h.tw6781667066149522813:True:=trivial
theorem h.tw17541710914833730941:True:=trivial
theorem h.tw13359350320780894621:True:=trivial
theorem h.tw13287716335742610845:True:=trivial
theorem h.tw1440383993813826973:True:=trivial
theorem h.tw7838337772230883773:True:=trivial
theorem h.tw2451394554795826781:True:=trivial
theorem h.tw17438923479677220509:True:=trivial
theorem h.tw13786038532780640989:True:=trivial
theorem h.tw14286764637549621021:True:=trivial
theorem h.tw14820881218172153661:True:=trivial
theorem h.tw15633950545180792701:True:=trivial
theorem h.tw11127680675960911805:True:=trivial
theorem h.tw16057640956717601725:True:=trivial
theorem h.tw549581284734512093:True:=trivial
theorem h.tw15688117529196315678:True:=trivial
theorem h.tw1240576421281825886:True:=trivial
theorem h.tw9384554555220151390:True:=trivial
theorem h.tw997200676063369374:True:=trivial
theorem h.tw15003508082368540894:True:=trivial
theorem h.tw12778354420173306078:True:=trivial
theorem h.tw11287389801782430974:True:=trivial
theorem h.tw2375616456415111486:True:=trivial
theorem h.tw11148652849075199326:True:=trivial
theorem h.tw696397855463775646:True:=trivial
theorem h.tw7714620790728533406:True:=trivial
theorem h.tw9542619586503844318:True:=trivial
theorem h.tw17696172421901843966:True:=trivial
theorem h.tw12972307724303702558:True:=trivial
theorem h.tw4158065403680154142:True:=trivial
theorem h.tw13945770977609474654:True:=trivial
theorem h.tw824195374095679102:True:=trivial
theorem h.tw12495205011475682942:True:=trivial
theorem h.tw17124631398570427038:True:=trivial
theorem h.tw11715493396676715198:True:=trivial
theorem h.tw4275187117610747646:True:=trivial
theorem h.tw8504997274058896222:True:=trivial
theorem h.tw6974423975698020447:True:=trivial
theorem h.tw2122759166039794847:True:=trivial
theorem h.tw8870714547363300543:True:=trivial
theorem h.tw16732419092344134879:True:=trivial
theorem h.tw11530102573425286431:True:=trivial
theorem h.tw3965580318666300767:True:=trivial
theorem h.tw4844681503701456223:True:=trivial
theorem h.tw15843725972915329471:True:=trivial
theorem h.tw11809882119899447743:True:=trivial
theorem h.tw18020767522561244639:True:=trivial
theorem h.tw3121806092619268575:True:=trivial
theorem h.tw856018317955007999:True:=trivial
theorem h.tw13932936239167542783:True:=trivial
theorem h.tw5782830579822871071:True:=trivial
theorem h.tw12069623436562988575:True:=trivial
theorem h.tw15572115404850561631:True:=trivial
theorem h.tw928656618301480575:True:=trivial
theorem h.tw8335690523831340703:True:=trivial
theorem h.tw17995361959608887967:True:=trivial
theorem h.tw1257535665617204927:True:=trivial
theorem h.tw3844028414358301407:True:=trivial
theorem h.tw8806121721786938079:True:=trivial
theorem h.tw9495010414923792127:True:=trivial
theorem h.tw567294465977409343:True:=trivial
theorem h.tw2865109924142096223:True:=trivial
theorem h.tw16241620902590847871:True:=trivial
theorem h.tw3740875649477748671:True:=trivial
theorem h.tw11446587270505706431:True:=trivial
theorem h.tw3768285274264124351:True:=trivial
theorem h.tw7788810411886799807:True:=trivial
theorem h.tw4001185896099836895:True:=trivial
theorem h.tw3391239108363153763:True:=trivial
theorem h.tw9848180488500490147:True:=trivial
set_option Elab.async true
theorem h : PySem.Challenge.rw_nz0105_01.Holds := by
  w_on; o_law; k_head; (case hw => w_witness2)
  k_fill
  intro w s₀ s₁ mg mb G Y fa o pm cd doc dV kV ho hd hcd hD hmg hg args vals as hpre hlay hrd hwl hlo
  have KX := kIn_of Y
  refine Ground.open G ?_
  intro T B D TE TW
  wrow_args hpre hlay hrd hwl hlo
  all_goals (first | refine callC_kw (enter_call ?_) | refine enter_call ?_ | refine callC_kw (enter_callW ?_) | refine enter_callW ?_)
  all_goals (try refine codeAny_mono ?_ (fun _ _ g => GoodW.toG g))
  rename_i ns _ _ _ _ _ _ _ l vs _ hL _ _ _ hI _ hlen _
  have hlen' : ns.length ≤ 63 := by omega
  obtain ⟨v, st', hrun, rfl⟩ := law_true ns
  refine law_call KX T.g T.b T.nolimit (by rw [T.builtins _ (by decide)]; kernel_rfl) (by rw [T.builtins _ (by decide)]; kernel_rfl) (by rw [T.builtins _ (by decide)]; kernel_rfl) (by kernel_rfl) hmg hL hI hlen' rfl (by decide) (by decide) (by kernel_rfl) hrun ?_
  intro y s' φ' hv hkeep hsame
  cases hv
  obtain ⟨h, t, rfl⟩ := hsame
  refine ⟨.inl ⟨_, .bool true, [], rfl, raisesW_false (by wrow_none_raised), .bool true, ?_, unshared_nil⟩, hkeep, rfl, hg⟩
  exact postW_of (by wrow_shape) (by wtm_val) (by w_fin)
end Mine
end

theorem PySem.Challenge.cw_nz0105_01_holds : PySem.Challenge.rw_nz0105_01.Holds :=
  Mine.h
