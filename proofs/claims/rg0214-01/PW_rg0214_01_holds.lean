import PyProof.Rows.All
import Wide.All
import OpenK.AllK
import Wide.FinOn
import PyProof.NeData
import KE.KRevIter
import PyProof.Rows.SetFrom
import KE.KDictSum
import KE.KSuper
import PyProof.ZipIter
import Lean
import PySem.Challenge.RW_rg0214_01
set_option Elab.async false
set_option maxRecDepth 1000000
set_option maxHeartbeats 0
set_option bootstrap.genMatcherCode false
set_option genSizeOf false
set_option genSizeOf false
set_option genInjectivity false
set_option bootstrap.genMatcherCode false
namespace Mine
noncomputable abbrev Nm := Fin 54
noncomputable def Nm.n_a : Nm := ⟨0, Nat.le_of_ble_eq_true rfl⟩
noncomputable def Nm.n_arg_sorts : Nm := ⟨1, Nat.le_of_ble_eq_true rfl⟩
noncomputable def Nm.n_args : Nm := ⟨2, Nat.le_of_ble_eq_true rfl⟩
noncomputable def Nm.n_argument : Nm := ⟨3, Nat.le_of_ble_eq_true rfl⟩
noncomputable def Nm.n_arguments : Nm := ⟨4, Nat.le_of_ble_eq_true rfl⟩
noncomputable def Nm.n_at : Nm := ⟨5, Nat.le_of_ble_eq_true rfl⟩
noncomputable def Nm.n_b : Nm := ⟨6, Nat.le_of_ble_eq_true rfl⟩
noncomputable def Nm.n_bank : Nm := ⟨7, Nat.le_of_ble_eq_true rfl⟩
noncomputable def Nm.n_c : Nm := ⟨8, Nat.le_of_ble_eq_true rfl⟩
noncomputable def Nm.n_calls : Nm := ⟨9, Nat.le_of_ble_eq_true rfl⟩
noncomputable def Nm.n_cell : Nm := ⟨10, Nat.le_of_ble_eq_true rfl⟩
noncomputable def Nm.n_data : Nm := ⟨11, Nat.le_of_ble_eq_true rfl⟩
noncomputable def Nm.n_done : Nm := ⟨12, Nat.le_of_ble_eq_true rfl⟩
noncomputable def Nm.n_early : Nm := ⟨13, Nat.le_of_ble_eq_true rfl⟩
noncomputable def Nm.n_entered : Nm := ⟨14, Nat.le_of_ble_eq_true rfl⟩
noncomputable def Nm.n_f : Nm := ⟨15, Nat.le_of_ble_eq_true rfl⟩
noncomputable def Nm.n_fits : Nm := ⟨16, Nat.le_of_ble_eq_true rfl⟩
noncomputable def Nm.n_found : Nm := ⟨17, Nat.le_of_ble_eq_true rfl⟩
noncomputable def Nm.n_fun : Nm := ⟨18, Nat.le_of_ble_eq_true rfl⟩
noncomputable def Nm.n_head : Nm := ⟨19, Nat.le_of_ble_eq_true rfl⟩
noncomputable def Nm.n_heads : Nm := ⟨20, Nat.le_of_ble_eq_true rfl⟩
noncomputable def Nm.n_is_open : Nm := ⟨21, Nat.le_of_ble_eq_true rfl⟩
noncomputable def Nm.n_k : Nm := ⟨22, Nat.le_of_ble_eq_true rfl⟩
noncomputable def Nm.n_key : Nm := ⟨23, Nat.le_of_ble_eq_true rfl⟩
noncomputable def Nm.n_lap : Nm := ⟨24, Nat.le_of_ble_eq_true rfl⟩
noncomputable def Nm.n_left : Nm := ⟨25, Nat.le_of_ble_eq_true rfl⟩
noncomputable def Nm.n_made : Nm := ⟨26, Nat.le_of_ble_eq_true rfl⟩
noncomputable def Nm.n_many : Nm := ⟨27, Nat.le_of_ble_eq_true rfl⟩
noncomputable def Nm.n_name : Nm := ⟨28, Nat.le_of_ble_eq_true rfl⟩
noncomputable def Nm.n_one : Nm := ⟨29, Nat.le_of_ble_eq_true rfl⟩
noncomputable def Nm.n_op : Nm := ⟨30, Nat.le_of_ble_eq_true rfl⟩
noncomputable def Nm.n_other : Nm := ⟨31, Nat.le_of_ble_eq_true rfl⟩
noncomputable def Nm.n_pan : Nm := ⟨32, Nat.le_of_ble_eq_true rfl⟩
noncomputable def Nm.n_part : Nm := ⟨33, Nat.le_of_ble_eq_true rfl⟩
noncomputable def Nm.n_result : Nm := ⟨34, Nat.le_of_ble_eq_true rfl⟩
noncomputable def Nm.n_root : Nm := ⟨35, Nat.le_of_ble_eq_true rfl⟩
noncomputable def Nm.n_rows : Nm := ⟨36, Nat.le_of_ble_eq_true rfl⟩
noncomputable def Nm.n_s : Nm := ⟨37, Nat.le_of_ble_eq_true rfl⟩
noncomputable def Nm.n_script : Nm := ⟨38, Nat.le_of_ble_eq_true rfl⟩
noncomputable def Nm.n_self : Nm := ⟨39, Nat.le_of_ble_eq_true rfl⟩
noncomputable def Nm.n_shared : Nm := ⟨40, Nat.le_of_ble_eq_true rfl⟩
noncomputable def Nm.n_sharing : Nm := ⟨41, Nat.le_of_ble_eq_true rfl⟩
noncomputable def Nm.n_some : Nm := ⟨42, Nat.le_of_ble_eq_true rfl⟩
noncomputable def Nm.n_sort : Nm := ⟨43, Nat.le_of_ble_eq_true rfl⟩
noncomputable def Nm.n_sorts : Nm := ⟨44, Nat.le_of_ble_eq_true rfl⟩
noncomputable def Nm.n_stack : Nm := ⟨45, Nat.le_of_ble_eq_true rfl⟩
noncomputable def Nm.n_t : Nm := ⟨46, Nat.le_of_ble_eq_true rfl⟩
noncomputable def Nm.n_term : Nm := ⟨47, Nat.le_of_ble_eq_true rfl⟩
noncomputable def Nm.n_terms : Nm := ⟨48, Nat.le_of_ble_eq_true rfl⟩
noncomputable def Nm.n_walked : Nm := ⟨49, Nat.le_of_ble_eq_true rfl⟩
noncomputable def Nm.n_wanted : Nm := ⟨50, Nat.le_of_ble_eq_true rfl⟩
noncomputable def Nm.n_way : Nm := ⟨51, Nat.le_of_ble_eq_true rfl⟩
noncomputable def Nm.n_where : Nm := ⟨52, Nat.le_of_ble_eq_true rfl⟩
noncomputable def Nm.n_width : Nm := ⟨53, Nat.le_of_ble_eq_true rfl⟩
noncomputable def Nm.strs : List PySem.Str := [PySem.Str.ofString "a", PySem.Str.ofString "arg_sorts", PySem.Str.ofString "args", PySem.Str.ofString "argument", PySem.Str.ofString "arguments", PySem.Str.ofString "at", PySem.Str.ofString "b", PySem.Str.ofString "bank", PySem.Str.ofString "c", PySem.Str.ofString "calls", PySem.Str.ofString "cell", PySem.Str.ofString "data", PySem.Str.ofString "done", PySem.Str.ofString "early", PySem.Str.ofString "entered", PySem.Str.ofString "f", PySem.Str.ofString "fits", PySem.Str.ofString "found", PySem.Str.ofString "fun", PySem.Str.ofString "head", PySem.Str.ofString "heads", PySem.Str.ofString "is_open", PySem.Str.ofString "k", PySem.Str.ofString "key", PySem.Str.ofString "lap", PySem.Str.ofString "left", PySem.Str.ofString "made", PySem.Str.ofString "many", PySem.Str.ofString "name", PySem.Str.ofString "one", PySem.Str.ofString "op", PySem.Str.ofString "other", PySem.Str.ofString "pan", PySem.Str.ofString "part", PySem.Str.ofString "result", PySem.Str.ofString "root", PySem.Str.ofString "rows", PySem.Str.ofString "s", PySem.Str.ofString "script", PySem.Str.ofString "self", PySem.Str.ofString "shared", PySem.Str.ofString "sharing", PySem.Str.ofString "some", PySem.Str.ofString "sort", PySem.Str.ofString "sorts", PySem.Str.ofString "stack", PySem.Str.ofString "t", PySem.Str.ofString "term", PySem.Str.ofString "terms", PySem.Str.ofString "walked", PySem.Str.ofString "wanted", PySem.Str.ofString "way", PySem.Str.ofString "where", PySem.Str.ofString "width"]
noncomputable def Nm.str (x : Nm) : PySem.Str := (Nm.strs[x.1]?).getD (PySem.Str.ofString "")
noncomputable abbrev Fd := Fin 20
noncomputable def Fd.f_bank : Fd := ⟨0, Nat.le_of_ble_eq_true rfl⟩
noncomputable def Fd.f_bv_numbers : Fd := ⟨1, Nat.le_of_ble_eq_true rfl⟩
noncomputable def Fd.f_calls : Fd := ⟨2, Nat.le_of_ble_eq_true rfl⟩
noncomputable def Fd.f_false_number : Fd := ⟨3, Nat.le_of_ble_eq_true rfl⟩
noncomputable def Fd.f_fresh_count : Fd := ⟨4, Nat.le_of_ble_eq_true rfl⟩
noncomputable def Fd.f_fun_args : Fd := ⟨5, Nat.le_of_ble_eq_true rfl⟩
noncomputable def Fd.f_fun_names : Fd := ⟨6, Nat.le_of_ble_eq_true rfl⟩
noncomputable def Fd.f_fun_results : Fd := ⟨7, Nat.le_of_ble_eq_true rfl⟩
noncomputable def Fd.f_heads : Fd := ⟨8, Nat.le_of_ble_eq_true rfl⟩
noncomputable def Fd.f_numbers : Fd := ⟨9, Nat.le_of_ble_eq_true rfl⟩
noncomputable def Fd.f_shared : Fd := ⟨10, Nat.le_of_ble_eq_true rfl⟩
noncomputable def Fd.f_sort_names : Fd := ⟨11, Nat.le_of_ble_eq_true rfl⟩
noncomputable def Fd.f_sort_widths : Fd := ⟨12, Nat.le_of_ble_eq_true rfl⟩
noncomputable def Fd.f_term_args : Fd := ⟨13, Nat.le_of_ble_eq_true rfl⟩
noncomputable def Fd.f_term_datas : Fd := ⟨14, Nat.le_of_ble_eq_true rfl⟩
noncomputable def Fd.f_term_ops : Fd := ⟨15, Nat.le_of_ble_eq_true rfl⟩
noncomputable def Fd.f_term_sorts : Fd := ⟨16, Nat.le_of_ble_eq_true rfl⟩
noncomputable def Fd.f_told : Fd := ⟨17, Nat.le_of_ble_eq_true rfl⟩
noncomputable def Fd.f_true_number : Fd := ⟨18, Nat.le_of_ble_eq_true rfl⟩
noncomputable def Fd.f_walked : Fd := ⟨19, Nat.le_of_ble_eq_true rfl⟩
noncomputable def Fd.strs : List PySem.Str := [PySem.Str.ofString "bank", PySem.Str.ofString "bv_numbers", PySem.Str.ofString "calls", PySem.Str.ofString "false_number", PySem.Str.ofString "fresh_count", PySem.Str.ofString "fun_args", PySem.Str.ofString "fun_names", PySem.Str.ofString "fun_results", PySem.Str.ofString "heads", PySem.Str.ofString "numbers", PySem.Str.ofString "shared", PySem.Str.ofString "sort_names", PySem.Str.ofString "sort_widths", PySem.Str.ofString "term_args", PySem.Str.ofString "term_datas", PySem.Str.ofString "term_ops", PySem.Str.ofString "term_sorts", PySem.Str.ofString "told", PySem.Str.ofString "true_number", PySem.Str.ofString "walked"]
noncomputable def Fd.str (x : Fd) : PySem.Str := (Fd.strs[x.1]?).getD (PySem.Str.ofString "")
inductive Fn where
  | bank_init | bk_declare_sort | bk_width_of | bk_is_number_sort | bk_declare_fun | bk_fresh_const | bk_op | bk_args | bk_sort | bk_data | bk_width | bk_make | bk_want | bk_want_all | bk_parts | bk_parts_of_all | bk_eq | bk_ite | bk_app | bk_want_number | bk_plus | bk_bv_sort | sharing_init | sh_has_shared_sort | sh_add_term | sh_enter_part | sh_is_shared | sh_shared_terms | law_sift | law_shapes | law_terms | law_is_number | law_due | law_told | law | termbank_init
  deriving DecidableEq
inductive Cls where
  | TermBank | Sharing
  deriving DecidableEq
inductive Gl where
  | INT | REAL | BOOL | WIDEST
  deriving DecidableEq
noncomputable def Gl.val : Gl → Int
  | .INT => 1
  | .REAL => 2
  | .BOOL => 0
  | .WIDEST => 4096
inductive Lit where
  | none | bool (b : Bool) | int (i : Int) | str (x : PySem.Str)
inductive DK where
  | i | s | t
inductive Cop where
  | eq | ne | lt | gt | le | ge | isin | notin
inductive Bop where
  | add | sub | mul | mod
inductive Bi where
  | len | tuple | min | max | sorted | list | int | str
inductive Lm where
  | append | pop | extend | get

inductive E where
  | lit (v : Lit)
  | loc (x : Nm)
  | gl (g : Gl)
  | attr (e : E) (f : Fd)
  | tup (es : List E)
  | list (es : List E)
  | dict (k : DK) (ks : List PySem.Str) (es : List E)
  | idx (e i : E)
  | upto (e : E) (k : Nat)
  | rev (e : E)
  | neg (k : Nat)
  | not (e : E)
  | cmp (op : Cop) (a b : E)
  | and (a b : E)
  | or (a b : E)
  | ite (c a b : E)
  | bin (op : Bop) (a b : E)
  | call (f : Fn) (es : List E)
  | new (c : Cls) (es : List E)
  | meth (e : E) (f : Fn) (es : List E)
  | bi (b : Bi) (es : List E)
  | sortedset (e : E)
  | lm (m : Lm) (e : E) (es : List E)
  | comp (elt : E) (x : Nm) (it : E) (ifs : List E)
  | comp2 (elt : E) (x : Nm) (it : E) (y : Nm) (it2 : E) (ifs : List E)
  | fstr (pre : String) (e : E) (post : String)
inductive It where
  | e (e : E)
  | range (e : E)
  | rev (e : E)
inductive Tg where
  | nm (x : Nm)
  | pair (x y : Nm)
inductive Stm where
  | asg (x : Nm) (e : E)
  | asgT (xs : List Nm) (e : E)
  | seta (o : E) (f : Fd) (e : E)
  | seti (o i e : E)
  | expr (e : E)
  | ite (c : E) (a b : List Stm)
  | for (t : Tg) (it : It) (b : List Stm)
  | while (c : E) (b : List Stm)
  | ret (e : E)
  | retn
  | cont
  | wants
  | bad
noncomputable def Fn.owner : Fn → Cls
  | .sharing_init | .sh_has_shared_sort | .sh_add_term | .sh_enter_part | .sh_is_shared | .sh_shared_terms => .Sharing
  | _ => .TermBank
noncomputable def Cls.init : Cls → Fn
  | .TermBank => .termbank_init
  | .Sharing => .sharing_init

noncomputable def B.bank_init : List Stm := [
  .seta (.loc Nm.n_self) Fd.f_sort_names (.list [(.lit (.str (PySem.Str.ofString "Bool"))), (.lit (.str (PySem.Str.ofString "Int"))), (.lit (.str (PySem.Str.ofString "Real")))]),
  .seta (.loc Nm.n_self) Fd.f_sort_widths (.list [(.lit (.int 0)), (.lit (.int 0)), (.lit (.int 0))]),
  .seta (.loc Nm.n_self) Fd.f_fun_names (.list []),
  .seta (.loc Nm.n_self) Fd.f_fun_args (.list []),
  .seta (.loc Nm.n_self) Fd.f_fun_results (.list []),
  .seta (.loc Nm.n_self) Fd.f_fresh_count (.lit (.int 0)),
  .seta (.loc Nm.n_self) Fd.f_term_ops (.list [(.lit (.str (PySem.Str.ofString "")))]),
  .seta (.loc Nm.n_self) Fd.f_term_args (.list [(.tup [])]),
  .seta (.loc Nm.n_self) Fd.f_term_sorts (.list [(.gl Gl.BOOL)]),
  .seta (.loc Nm.n_self) Fd.f_term_datas (.list [(.lit (.int 0))]),
  .seta (.loc Nm.n_self) Fd.f_numbers (.dict DK.t [] []),
  .seta (.loc Nm.n_self) Fd.f_true_number (.meth (.loc Nm.n_self) Fn.bk_make [(.lit (.str (PySem.Str.ofString "true"))), (.tup []), (.gl Gl.BOOL), (.lit (.int 0))]),
  .seta (.loc Nm.n_self) Fd.f_false_number (.meth (.loc Nm.n_self) Fn.bk_make [(.lit (.str (PySem.Str.ofString "false"))), (.tup []), (.gl Gl.BOOL), (.lit (.int 0))])]
noncomputable def B.bk_declare_sort : List Stm := [
  .expr (.lm Lm.append (.attr (.loc Nm.n_self) Fd.f_sort_names) [(.loc Nm.n_name)]),
  .expr (.lm Lm.append (.attr (.loc Nm.n_self) Fd.f_sort_widths) [(.lit (.int 0))]),
  .ret (.bin Bop.sub (.bi Bi.len [(.attr (.loc Nm.n_self) Fd.f_sort_names)]) (.lit (.int 1)))]
noncomputable def B.bk_width_of : List Stm := [
  .ret (.idx (.attr (.loc Nm.n_self) Fd.f_sort_widths) (.loc Nm.n_s))]
noncomputable def B.bk_is_number_sort : List Stm := [
  .ret (.or (.cmp Cop.eq (.loc Nm.n_s) (.gl Gl.INT)) (.cmp Cop.eq (.loc Nm.n_s) (.gl Gl.REAL)))]
noncomputable def B.bk_declare_fun : List Stm := [
  .expr (.lm Lm.append (.attr (.loc Nm.n_self) Fd.f_fun_names) [(.loc Nm.n_name)]),
  .expr (.lm Lm.append (.attr (.loc Nm.n_self) Fd.f_fun_args) [(.bi Bi.tuple [(.loc Nm.n_arg_sorts)])]),
  .expr (.lm Lm.append (.attr (.loc Nm.n_self) Fd.f_fun_results) [(.loc Nm.n_result)]),
  .ret (.bin Bop.sub (.bi Bi.len [(.attr (.loc Nm.n_self) Fd.f_fun_names)]) (.lit (.int 1)))]
noncomputable def B.bk_fresh_const : List Stm := [
  .ret (.meth (.loc Nm.n_self) Fn.bk_make [(.lit (.str (PySem.Str.ofString "app"))), (.tup []), (.loc Nm.n_s), (.meth (.loc Nm.n_self) Fn.bk_declare_fun [(.loc Nm.n_name), (.tup []), (.loc Nm.n_s)])])]
noncomputable def B.bk_op : List Stm := [
  .ret (.idx (.attr (.loc Nm.n_self) Fd.f_term_ops) (.loc Nm.n_t))]
noncomputable def B.bk_args : List Stm := [
  .ret (.idx (.attr (.loc Nm.n_self) Fd.f_term_args) (.loc Nm.n_t))]
noncomputable def B.bk_sort : List Stm := [
  .ret (.idx (.attr (.loc Nm.n_self) Fd.f_term_sorts) (.loc Nm.n_t))]
noncomputable def B.bk_data : List Stm := [
  .ret (.idx (.attr (.loc Nm.n_self) Fd.f_term_datas) (.loc Nm.n_t))]
noncomputable def B.bk_width : List Stm := [
  .ret (.idx (.attr (.loc Nm.n_self) Fd.f_sort_widths) (.idx (.attr (.loc Nm.n_self) Fd.f_term_sorts) (.loc Nm.n_t)))]
noncomputable def B.bk_make : List Stm := [
  .asg Nm.n_key (.tup [(.loc Nm.n_op), (.loc Nm.n_args), (.loc Nm.n_sort), (.loc Nm.n_data)]),
  .asg Nm.n_found (.lm Lm.get (.attr (.loc Nm.n_self) Fd.f_numbers) [(.loc Nm.n_key), (.lit (.int 0))]),
  .ite (.cmp Cop.eq (.loc Nm.n_found) (.lit (.int 0))) [
    .asg Nm.n_found (.bi Bi.len [(.attr (.loc Nm.n_self) Fd.f_term_ops)]),
    .expr (.lm Lm.append (.attr (.loc Nm.n_self) Fd.f_term_ops) [(.loc Nm.n_op)]),
    .expr (.lm Lm.append (.attr (.loc Nm.n_self) Fd.f_term_args) [(.loc Nm.n_args)]),
    .expr (.lm Lm.append (.attr (.loc Nm.n_self) Fd.f_term_sorts) [(.loc Nm.n_sort)]),
    .expr (.lm Lm.append (.attr (.loc Nm.n_self) Fd.f_term_datas) [(.loc Nm.n_data)]),
    .seti (.attr (.loc Nm.n_self) Fd.f_numbers) (.loc Nm.n_key) (.loc Nm.n_found)] [],
  .ret (.loc Nm.n_found)]
noncomputable def B.bk_want : List Stm := [
  .ite (.cmp Cop.ne (.idx (.attr (.loc Nm.n_self) Fd.f_term_sorts) (.loc Nm.n_t)) (.loc Nm.n_s)) [
    .bad] []]
noncomputable def B.bk_want_all : List Stm := [
  .for (.nm Nm.n_t) (.e (.loc Nm.n_some)) [
    .expr (.meth (.loc Nm.n_self) Fn.bk_want [(.loc Nm.n_t), (.loc Nm.n_s), (.loc Nm.n_where)])]]
noncomputable def B.bk_parts : List Stm := [
  .ret (.meth (.loc Nm.n_self) Fn.bk_parts_of_all [(.tup [(.loc Nm.n_t)])])]
noncomputable def B.bk_parts_of_all : List Stm := [
  .asgT [Nm.n_found, Nm.n_done] (.tup [(.list []), (.dict DK.i [] [])]),
  .for (.nm Nm.n_root) (.e (.loc Nm.n_some)) [
    .asg Nm.n_stack (.list [(.tup [(.loc Nm.n_root), (.lit (.bool false))])]),
    .while (.cmp Cop.gt (.bi Bi.len [(.loc Nm.n_stack)]) (.lit (.int 0))) [
      .asgT [Nm.n_t, Nm.n_is_open] (.lm Lm.pop (.loc Nm.n_stack) []),
      .ite (.cmp Cop.isin (.loc Nm.n_t) (.loc Nm.n_done)) [
        .cont] [],
      .ite (.loc Nm.n_is_open) [
        .seti (.loc Nm.n_done) (.loc Nm.n_t) (.lit (.bool true)),
        .expr (.lm Lm.append (.loc Nm.n_found) [(.loc Nm.n_t)]),
        .cont] [],
      .expr (.lm Lm.append (.loc Nm.n_stack) [(.tup [(.loc Nm.n_t), (.lit (.bool true))])]),
      .for (.nm Nm.n_part) (.rev (.idx (.attr (.loc Nm.n_self) Fd.f_term_args) (.loc Nm.n_t))) [
        .ite (.cmp Cop.notin (.loc Nm.n_part) (.loc Nm.n_done)) [
          .expr (.lm Lm.append (.loc Nm.n_stack) [(.tup [(.loc Nm.n_part), (.lit (.bool false))])])] []]]],
  .ret (.loc Nm.n_found)]
noncomputable def B.bk_eq : List Stm := [
  .expr (.meth (.loc Nm.n_self) Fn.bk_want [(.loc Nm.n_b), (.idx (.attr (.loc Nm.n_self) Fd.f_term_sorts) (.loc Nm.n_a)), (.lit (.str (PySem.Str.ofString "=")))]),
  .ite (.cmp Cop.eq (.loc Nm.n_a) (.loc Nm.n_b)) [
    .ret (.attr (.loc Nm.n_self) Fd.f_true_number)] [],
  .ret (.meth (.loc Nm.n_self) Fn.bk_make [(.lit (.str (PySem.Str.ofString "="))), (.tup [(.bi Bi.min [(.loc Nm.n_a), (.loc Nm.n_b)]), (.bi Bi.max [(.loc Nm.n_a), (.loc Nm.n_b)])]), (.gl Gl.BOOL), (.lit (.int 0))])]
noncomputable def B.bk_ite : List Stm := [
  .expr (.meth (.loc Nm.n_self) Fn.bk_want [(.loc Nm.n_c), (.gl Gl.BOOL), (.lit (.str (PySem.Str.ofString "ite")))]),
  .expr (.meth (.loc Nm.n_self) Fn.bk_want [(.loc Nm.n_b), (.idx (.attr (.loc Nm.n_self) Fd.f_term_sorts) (.loc Nm.n_a)), (.lit (.str (PySem.Str.ofString "ite")))]),
  .ret (.meth (.loc Nm.n_self) Fn.bk_make [(.lit (.str (PySem.Str.ofString "ite"))), (.tup [(.loc Nm.n_c), (.loc Nm.n_a), (.loc Nm.n_b)]), (.idx (.attr (.loc Nm.n_self) Fd.f_term_sorts) (.loc Nm.n_a)), (.lit (.int 0))])]
noncomputable def B.bk_app : List Stm := [
  .asg Nm.n_sorts (.idx (.attr (.loc Nm.n_self) Fd.f_fun_args) (.loc Nm.n_f)),
  .ite (.cmp Cop.ne (.bi Bi.len [(.loc Nm.n_some)]) (.bi Bi.len [(.loc Nm.n_sorts)])) [
    .bad] [],
  .wants,
  .ret (.meth (.loc Nm.n_self) Fn.bk_make [(.lit (.str (PySem.Str.ofString "app"))), (.bi Bi.tuple [(.loc Nm.n_some)]), (.idx (.attr (.loc Nm.n_self) Fd.f_fun_results) (.loc Nm.n_f)), (.loc Nm.n_f)])]
noncomputable def B.bk_want_number : List Stm := [
  .ite (.not (.meth (.loc Nm.n_self) Fn.bk_is_number_sort [(.idx (.attr (.loc Nm.n_self) Fd.f_term_sorts) (.loc Nm.n_t))])) [
    .bad] []]
noncomputable def B.bk_plus : List Stm := [
  .ite (.cmp Cop.eq (.bi Bi.len [(.loc Nm.n_some)]) (.lit (.int 0))) [
    .bad] [],
  .expr (.meth (.loc Nm.n_self) Fn.bk_want_number [(.idx (.loc Nm.n_some) (.lit (.int 0))), (.lit (.str (PySem.Str.ofString "+")))]),
  .expr (.meth (.loc Nm.n_self) Fn.bk_want_all [(.loc Nm.n_some), (.idx (.attr (.loc Nm.n_self) Fd.f_term_sorts) (.idx (.loc Nm.n_some) (.lit (.int 0)))), (.lit (.str (PySem.Str.ofString "+")))]),
  .ret (.ite (.cmp Cop.eq (.bi Bi.len [(.loc Nm.n_some)]) (.lit (.int 1))) (.idx (.loc Nm.n_some) (.lit (.int 0))) (.meth (.loc Nm.n_self) Fn.bk_make [(.lit (.str (PySem.Str.ofString "+"))), (.bi Bi.tuple [(.loc Nm.n_some)]), (.idx (.attr (.loc Nm.n_self) Fd.f_term_sorts) (.idx (.loc Nm.n_some) (.lit (.int 0)))), (.lit (.int 0))]))]
noncomputable def B.bk_bv_sort : List Stm := [
  .ite (.cmp Cop.lt (.loc Nm.n_width) (.lit (.int 1))) [
    .bad] [],
  .ite (.cmp Cop.gt (.loc Nm.n_width) (.gl Gl.WIDEST)) [
    .bad] [],
  .ite (.cmp Cop.notin (.loc Nm.n_width) (.attr (.loc Nm.n_self) Fd.f_bv_numbers)) [
    .expr (.lm Lm.append (.attr (.loc Nm.n_self) Fd.f_sort_names) [(.fstr "(_ BitVec " (.loc Nm.n_width) ")")]),
    .expr (.lm Lm.append (.attr (.loc Nm.n_self) Fd.f_sort_widths) [(.loc Nm.n_width)]),
    .seti (.attr (.loc Nm.n_self) Fd.f_bv_numbers) (.loc Nm.n_width) (.bin Bop.sub (.bi Bi.len [(.attr (.loc Nm.n_self) Fd.f_sort_names)]) (.lit (.int 1)))] [],
  .ret (.idx (.attr (.loc Nm.n_self) Fd.f_bv_numbers) (.loc Nm.n_width))]
noncomputable def B.sharing_init : List Stm := [
  .seta (.loc Nm.n_self) Fd.f_bank (.loc Nm.n_bank),
  .seta (.loc Nm.n_self) Fd.f_walked (.dict DK.i [] []),
  .seta (.loc Nm.n_self) Fd.f_shared (.dict DK.i [] []),
  .seta (.loc Nm.n_self) Fd.f_heads (.list []),
  .seta (.loc Nm.n_self) Fd.f_calls (.dict DK.i [] []),
  .seta (.loc Nm.n_self) Fd.f_told (.dict DK.i [] [])]
noncomputable def B.sh_has_shared_sort : List Stm := [
  .asg Nm.n_sort (.meth (.attr (.loc Nm.n_self) Fd.f_bank) Fn.bk_sort [(.loc Nm.n_term)]),
  .ite (.or (.cmp Cop.eq (.loc Nm.n_sort) (.gl Gl.INT)) (.cmp Cop.eq (.loc Nm.n_sort) (.gl Gl.REAL))) [
    .ret (.lit (.bool true))] [],
  .ret (.cmp Cop.gt (.meth (.attr (.loc Nm.n_self) Fd.f_bank) Fn.bk_width_of [(.loc Nm.n_sort)]) (.lit (.int 0)))]
noncomputable def B.sh_add_term : List Stm := [
  .ite (.cmp Cop.isin (.loc Nm.n_term) (.attr (.loc Nm.n_self) Fd.f_walked)) [
    .retn] [],
  .for (.nm Nm.n_part) (.e (.meth (.attr (.loc Nm.n_self) Fd.f_bank) Fn.bk_parts [(.loc Nm.n_term)])) [
    .ite (.cmp Cop.notin (.loc Nm.n_part) (.attr (.loc Nm.n_self) Fd.f_walked)) [
      .seti (.attr (.loc Nm.n_self) Fd.f_walked) (.loc Nm.n_part) (.lit (.bool true)),
      .expr (.meth (.loc Nm.n_self) Fn.sh_enter_part [(.loc Nm.n_part)])] []]]
noncomputable def B.sh_enter_part : List Stm := [
  .ite (.cmp Cop.ne (.meth (.attr (.loc Nm.n_self) Fd.f_bank) Fn.bk_op [(.loc Nm.n_part)]) (.lit (.str (PySem.Str.ofString "app")))) [
    .retn] [],
  .asg Nm.n_arguments (.meth (.attr (.loc Nm.n_self) Fd.f_bank) Fn.bk_args [(.loc Nm.n_part)]),
  .ite (.cmp Cop.eq (.bi Bi.len [(.loc Nm.n_arguments)]) (.lit (.int 0))) [
    .retn] [],
  .asg Nm.n_head (.meth (.attr (.loc Nm.n_self) Fd.f_bank) Fn.bk_data [(.loc Nm.n_part)]),
  .ite (.cmp Cop.notin (.loc Nm.n_head) (.attr (.loc Nm.n_self) Fd.f_calls)) [
    .expr (.lm Lm.append (.attr (.loc Nm.n_self) Fd.f_heads) [(.loc Nm.n_head)]),
    .seti (.attr (.loc Nm.n_self) Fd.f_calls) (.loc Nm.n_head) (.list [])] [],
  .expr (.lm Lm.append (.idx (.attr (.loc Nm.n_self) Fd.f_calls) (.loc Nm.n_head)) [(.loc Nm.n_part)]),
  .for (.nm Nm.n_argument) (.e (.loc Nm.n_arguments)) [
    .ite (.meth (.loc Nm.n_self) Fn.sh_has_shared_sort [(.loc Nm.n_argument)]) [
      .seti (.attr (.loc Nm.n_self) Fd.f_shared) (.loc Nm.n_argument) (.lit (.bool true))] []],
  .ite (.meth (.loc Nm.n_self) Fn.sh_has_shared_sort [(.loc Nm.n_part)]) [
    .seti (.attr (.loc Nm.n_self) Fd.f_shared) (.loc Nm.n_part) (.lit (.bool true))] []]
noncomputable def B.sh_is_shared : List Stm := [
  .ret (.cmp Cop.isin (.loc Nm.n_term) (.attr (.loc Nm.n_self) Fd.f_shared))]
noncomputable def B.sh_shared_terms : List Stm := [
  .ret (.bi Bi.sorted [(.attr (.loc Nm.n_self) Fd.f_shared)])]
noncomputable def B.law_sift : List Stm := [
  .asg Nm.n_at (.idx (.loc Nm.n_pan) (.lit (.str (PySem.Str.ofString "at")))),
  .seti (.loc Nm.n_pan) (.lit (.str (PySem.Str.ofString "at"))) (.bin Bop.add (.loc Nm.n_at) (.lit (.int 1))),
  .ret (.bin Bop.mod (.bin Bop.mod (.ite (.cmp Cop.lt (.loc Nm.n_at) (.bi Bi.len [(.idx (.loc Nm.n_pan) (.lit (.str (PySem.Str.ofString "cells"))))])) (.idx (.idx (.loc Nm.n_pan) (.lit (.str (PySem.Str.ofString "cells")))) (.loc Nm.n_at)) (.bin Bop.add (.bin Bop.add (.bin Bop.mul (.bin Bop.mul (.lit (.int 3)) (.loc Nm.n_at)) (.loc Nm.n_at)) (.bin Bop.mul (.lit (.int 7)) (.loc Nm.n_at))) (.lit (.int 1)))) (.lit (.int 103))) (.loc Nm.n_many))]
noncomputable def B.law_shapes : List Stm := [
  .asg Nm.n_sorts (.list [(.gl Gl.INT), (.gl Gl.REAL), (.gl Gl.BOOL), (.meth (.loc Nm.n_bank) Fn.bk_bv_sort [(.lit (.int 2))]), (.meth (.loc Nm.n_bank) Fn.bk_declare_sort [(.lit (.str (PySem.Str.ofString "U")))])]),
  .asg Nm.n_rows (.list []),
  .for (.pair Nm.n_args Nm.n_result) (.e (.tup [(.tup [(.tup [(.lit (.int 0))]), (.lit (.int 0))]), (.tup [(.tup [(.lit (.int 0)), (.lit (.int 4))]), (.lit (.int 4))]), (.tup [(.tup [(.lit (.int 4))]), (.lit (.int 3))]), (.tup [(.tup [(.lit (.int 3)), (.lit (.int 1))]), (.lit (.int 1))]), (.tup [(.tup [(.lit (.int 1)), (.lit (.int 3))]), (.lit (.int 2))]), (.tup [(.tup [(.lit (.int 2))]), (.lit (.int 0))]), (.tup [(.tup [(.lit (.int 4)), (.lit (.int 4))]), (.lit (.int 2))])])) [
    .asg Nm.n_some (.bi Bi.tuple [(.comp (.idx (.loc Nm.n_sorts) (.loc Nm.n_k)) Nm.n_k (.loc Nm.n_args) [])]),
    .expr (.lm Lm.append (.loc Nm.n_rows) [(.tup [(.meth (.loc Nm.n_bank) Fn.bk_declare_fun [(.bin Bop.add (.lit (.str (PySem.Str.ofString "f"))) (.bi Bi.str [(.bi Bi.len [(.loc Nm.n_rows)])])), (.loc Nm.n_some), (.idx (.loc Nm.n_sorts) (.loc Nm.n_result))]), (.loc Nm.n_some)])])],
  .ret (.tup [(.loc Nm.n_sorts), (.loc Nm.n_rows)])]
noncomputable def B.law_terms : List Stm := [
  .asgT [Nm.n_sorts, Nm.n_rows] (.call Fn.law_shapes [(.loc Nm.n_bank)]),
  .asg Nm.n_made (.comp (.meth (.loc Nm.n_bank) Fn.bk_fresh_const [(.lit (.str (PySem.Str.ofString "c"))), (.loc Nm.n_s)]) Nm.n_s (.loc Nm.n_sorts) []),
  .for (.nm Nm.n_lap) (.range (.bin Bop.add (.lit (.int 3)) (.call Fn.law_sift [(.loc Nm.n_pan), (.lit (.int 6))]))) [
    .asgT [Nm.n_fun, Nm.n_wanted] (.idx (.loc Nm.n_rows) (.call Fn.law_sift [(.loc Nm.n_pan), (.lit (.int 7))])),
    .asg Nm.n_args (.list []),
    .for (.nm Nm.n_s) (.e (.loc Nm.n_wanted)) [
      .asg Nm.n_fits (.comp (.loc Nm.n_t) Nm.n_t (.loc Nm.n_made) [(.cmp Cop.eq (.meth (.loc Nm.n_bank) Fn.bk_sort [(.loc Nm.n_t)]) (.loc Nm.n_s))]),
      .expr (.lm Lm.append (.loc Nm.n_args) [(.idx (.loc Nm.n_fits) (.call Fn.law_sift [(.loc Nm.n_pan), (.bi Bi.len [(.loc Nm.n_fits)])]))])],
    .expr (.lm Lm.append (.loc Nm.n_made) [(.meth (.loc Nm.n_bank) Fn.bk_app [(.loc Nm.n_fun), (.loc Nm.n_args)])]),
    .asgT [Nm.n_way, Nm.n_t] (.tup [(.call Fn.law_sift [(.loc Nm.n_pan), (.lit (.int 4))]), (.idx (.loc Nm.n_made) (.neg 1))]),
    .ite (.and (.cmp Cop.eq (.loc Nm.n_way) (.lit (.int 0))) (.cmp Cop.isin (.meth (.loc Nm.n_bank) Fn.bk_sort [(.loc Nm.n_t)]) (.tup [(.gl Gl.INT), (.gl Gl.REAL)]))) [
      .expr (.lm Lm.append (.loc Nm.n_made) [(.meth (.loc Nm.n_bank) Fn.bk_plus [(.list [(.loc Nm.n_t), (.loc Nm.n_t)])])])] [],
    .ite (.cmp Cop.eq (.loc Nm.n_way) (.lit (.int 1))) [
      .expr (.lm Lm.append (.loc Nm.n_made) [(.meth (.loc Nm.n_bank) Fn.bk_eq [(.loc Nm.n_t), (.idx (.comp (.loc Nm.n_one) Nm.n_one (.loc Nm.n_made) [(.cmp Cop.eq (.meth (.loc Nm.n_bank) Fn.bk_sort [(.loc Nm.n_one)]) (.meth (.loc Nm.n_bank) Fn.bk_sort [(.loc Nm.n_t)]))]) (.lit (.int 0)))])])] [],
    .ite (.cmp Cop.eq (.loc Nm.n_way) (.lit (.int 2))) [
      .expr (.lm Lm.append (.loc Nm.n_made) [(.meth (.loc Nm.n_bank) Fn.bk_ite [(.idx (.loc Nm.n_made) (.lit (.int 2))), (.loc Nm.n_t), (.loc Nm.n_t)])])] []],
  .ret (.loc Nm.n_made)]
noncomputable def B.law_is_number : List Stm := [
  .ret (.or (.cmp Cop.isin (.meth (.loc Nm.n_bank) Fn.bk_sort [(.loc Nm.n_t)]) (.tup [(.gl Gl.INT), (.gl Gl.REAL)])) (.cmp Cop.gt (.meth (.loc Nm.n_bank) Fn.bk_width [(.loc Nm.n_t)]) (.lit (.int 0))))]
noncomputable def B.law_due : List Stm := [
  .asg Nm.n_calls (.comp (.loc Nm.n_t) Nm.n_t (.loc Nm.n_entered) [(.and (.cmp Cop.eq (.meth (.loc Nm.n_bank) Fn.bk_op [(.loc Nm.n_t)]) (.lit (.str (PySem.Str.ofString "app")))) (.cmp Cop.ne (.meth (.loc Nm.n_bank) Fn.bk_args [(.loc Nm.n_t)]) (.tup [])))]),
  .asg Nm.n_shared (.comp2 (.loc Nm.n_one) Nm.n_t (.loc Nm.n_calls) Nm.n_one (.bin Bop.add (.bi Bi.list [(.meth (.loc Nm.n_bank) Fn.bk_args [(.loc Nm.n_t)])]) (.list [(.loc Nm.n_t)])) [(.call Fn.law_is_number [(.loc Nm.n_bank), (.loc Nm.n_one)])]),
  .asg Nm.n_heads (.list []),
  .for (.nm Nm.n_t) (.e (.loc Nm.n_calls)) [
    .ite (.cmp Cop.notin (.meth (.loc Nm.n_bank) Fn.bk_data [(.loc Nm.n_t)]) (.loc Nm.n_heads)) [
      .expr (.lm Lm.append (.loc Nm.n_heads) [(.meth (.loc Nm.n_bank) Fn.bk_data [(.loc Nm.n_t)])])] []],
  .ret (.tup [(.sortedset (.loc Nm.n_shared)), (.loc Nm.n_heads), (.comp (.comp (.loc Nm.n_t) Nm.n_t (.loc Nm.n_calls) [(.cmp Cop.eq (.meth (.loc Nm.n_bank) Fn.bk_data [(.loc Nm.n_t)]) (.loc Nm.n_head))]) Nm.n_head (.loc Nm.n_heads) [])])]
noncomputable def B.law_told : List Stm := [
  .asg Nm.n_shared (.meth (.loc Nm.n_sharing) Fn.sh_shared_terms []),
  .ite (.cmp Cop.ne (.comp (.loc Nm.n_t) Nm.n_t (.loc Nm.n_terms) [(.cmp Cop.ne (.meth (.loc Nm.n_sharing) Fn.sh_is_shared [(.loc Nm.n_t)]) (.cmp Cop.isin (.loc Nm.n_t) (.loc Nm.n_shared)))]) (.list [])) [
    .ret (.lit .none)] [],
  .ret (.tup [(.loc Nm.n_shared), (.bi Bi.list [(.attr (.loc Nm.n_sharing) Fd.f_heads)]), (.comp (.bi Bi.list [(.idx (.attr (.loc Nm.n_sharing) Fd.f_calls) (.loc Nm.n_head))]) Nm.n_head (.attr (.loc Nm.n_sharing) Fd.f_heads) [])])]
noncomputable def B.law : List Stm := [
  .asgT [Nm.n_pan, Nm.n_bank] (.tup [(.dict DK.s [PySem.Str.ofString "cells", PySem.Str.ofString "at"] [(.comp (.bi Bi.int [(.loc Nm.n_cell)]) Nm.n_cell (.upto (.loc Nm.n_script) 60) []), (.lit (.int 0))]), (.new Cls.TermBank [])]),
  .asg Nm.n_made (.call Fn.law_terms [(.loc Nm.n_pan), (.loc Nm.n_bank)]),
  .asg Nm.n_some (.sortedset (.loc Nm.n_made)),
  .asgT [Nm.n_left, Nm.n_entered, Nm.n_sharing] (.tup [(.bi Bi.list [(.loc Nm.n_some)]), (.list []), (.new Cls.Sharing [(.loc Nm.n_bank)])]),
  .while (.cmp Cop.ne (.loc Nm.n_left) (.list [])) [
    .asg Nm.n_t (.lm Lm.pop (.loc Nm.n_left) [(.call Fn.law_sift [(.loc Nm.n_pan), (.bi Bi.len [(.loc Nm.n_left)])])]),
    .expr (.meth (.loc Nm.n_sharing) Fn.sh_enter_part [(.loc Nm.n_t)]),
    .expr (.lm Lm.append (.loc Nm.n_entered) [(.loc Nm.n_t)]),
    .ite (.or (.cmp Cop.ne (.call Fn.law_told [(.loc Nm.n_sharing), (.loc Nm.n_some)]) (.call Fn.law_due [(.loc Nm.n_bank), (.loc Nm.n_entered)])) (.cmp Cop.ne (.bi Bi.len [(.attr (.loc Nm.n_sharing) Fd.f_calls)]) (.bi Bi.len [(.attr (.loc Nm.n_sharing) Fd.f_heads)]))) [
      .ret (.lit (.bool false))] []],
  .asgT [Nm.n_other, Nm.n_early] (.tup [(.new Cls.Sharing [(.loc Nm.n_bank)]), (.new Cls.Sharing [(.loc Nm.n_bank)])]),
  .for (.nm Nm.n_t) (.e (.rev (.loc Nm.n_entered))) [
    .expr (.meth (.loc Nm.n_other) Fn.sh_enter_part [(.loc Nm.n_t)])],
  .for (.nm Nm.n_t) (.e (.bin Bop.add (.loc Nm.n_entered) (.loc Nm.n_entered))) [
    .expr (.meth (.loc Nm.n_early) Fn.sh_add_term [(.loc Nm.n_t)])],
  .asg Nm.n_walked (.list []),
  .for (.nm Nm.n_t) (.e (.loc Nm.n_entered)) [
    .expr (.lm Lm.extend (.loc Nm.n_walked) [(.comp (.loc Nm.n_one) Nm.n_one (.meth (.loc Nm.n_bank) Fn.bk_parts [(.loc Nm.n_t)]) [(.cmp Cop.notin (.loc Nm.n_one) (.loc Nm.n_walked))])])],
  .ite (.cmp Cop.ne (.call Fn.law_told [(.loc Nm.n_early), (.loc Nm.n_some)]) (.call Fn.law_due [(.loc Nm.n_bank), (.loc Nm.n_walked)])) [
    .ret (.lit (.bool false))] [],
  .ret (.and (.cmp Cop.eq (.call Fn.law_told [(.loc Nm.n_other), (.loc Nm.n_some)]) (.call Fn.law_due [(.loc Nm.n_bank), (.rev (.loc Nm.n_entered))])) (.cmp Cop.eq (.meth (.loc Nm.n_other) Fn.sh_shared_terms []) (.meth (.loc Nm.n_sharing) Fn.sh_shared_terms [])))]
noncomputable def Fn.params : Fn → List Nm
  | .bank_init => [Nm.n_self]
  | .bk_declare_sort => [Nm.n_self, Nm.n_name]
  | .bk_width_of => [Nm.n_self, Nm.n_s]
  | .bk_is_number_sort => [Nm.n_self, Nm.n_s]
  | .bk_declare_fun => [Nm.n_self, Nm.n_name, Nm.n_arg_sorts, Nm.n_result]
  | .bk_fresh_const => [Nm.n_self, Nm.n_name, Nm.n_s]
  | .bk_op => [Nm.n_self, Nm.n_t]
  | .bk_args => [Nm.n_self, Nm.n_t]
  | .bk_sort => [Nm.n_self, Nm.n_t]
  | .bk_data => [Nm.n_self, Nm.n_t]
  | .bk_width => [Nm.n_self, Nm.n_t]
  | .bk_make => [Nm.n_self, Nm.n_op, Nm.n_args, Nm.n_sort, Nm.n_data]
  | .bk_want => [Nm.n_self, Nm.n_t, Nm.n_s, Nm.n_where]
  | .bk_want_all => [Nm.n_self, Nm.n_some, Nm.n_s, Nm.n_where]
  | .bk_parts => [Nm.n_self, Nm.n_t]
  | .bk_parts_of_all => [Nm.n_self, Nm.n_some]
  | .bk_eq => [Nm.n_self, Nm.n_a, Nm.n_b]
  | .bk_ite => [Nm.n_self, Nm.n_c, Nm.n_a, Nm.n_b]
  | .bk_app => [Nm.n_self, Nm.n_f, Nm.n_some]
  | .bk_want_number => [Nm.n_self, Nm.n_t, Nm.n_where]
  | .bk_plus => [Nm.n_self, Nm.n_some]
  | .bk_bv_sort => [Nm.n_self, Nm.n_width]
  | .sharing_init => [Nm.n_self, Nm.n_bank]
  | .sh_has_shared_sort => [Nm.n_self, Nm.n_term]
  | .sh_add_term => [Nm.n_self, Nm.n_term]
  | .sh_enter_part => [Nm.n_self, Nm.n_part]
  | .sh_is_shared => [Nm.n_self, Nm.n_term]
  | .sh_shared_terms => [Nm.n_self]
  | .law_sift => [Nm.n_pan, Nm.n_many]
  | .law_shapes => [Nm.n_bank]
  | .law_terms => [Nm.n_pan, Nm.n_bank]
  | .law_is_number => [Nm.n_bank, Nm.n_t]
  | .law_due => [Nm.n_bank, Nm.n_entered]
  | .law_told => [Nm.n_sharing, Nm.n_terms]
  | .law => [Nm.n_script]
  | .termbank_init => [Nm.n_self]
noncomputable def Fn.body : Fn → List Stm
  | .bank_init => B.bank_init
  | .bk_declare_sort => B.bk_declare_sort
  | .bk_width_of => B.bk_width_of
  | .bk_is_number_sort => B.bk_is_number_sort
  | .bk_declare_fun => B.bk_declare_fun
  | .bk_fresh_const => B.bk_fresh_const
  | .bk_op => B.bk_op
  | .bk_args => B.bk_args
  | .bk_sort => B.bk_sort
  | .bk_data => B.bk_data
  | .bk_width => B.bk_width
  | .bk_make => B.bk_make
  | .bk_want => B.bk_want
  | .bk_want_all => B.bk_want_all
  | .bk_parts => B.bk_parts
  | .bk_parts_of_all => B.bk_parts_of_all
  | .bk_eq => B.bk_eq
  | .bk_ite => B.bk_ite
  | .bk_app => B.bk_app
  | .bk_want_number => B.bk_want_number
  | .bk_plus => B.bk_plus
  | .bk_bv_sort => B.bk_bv_sort
  | .sharing_init => B.sharing_init
  | .sh_has_shared_sort => B.sh_has_shared_sort
  | .sh_add_term => B.sh_add_term
  | .sh_enter_part => B.sh_enter_part
  | .sh_is_shared => B.sh_is_shared
  | .sh_shared_terms => B.sh_shared_terms
  | .law_sift => B.law_sift
  | .law_shapes => B.law_shapes
  | .law_terms => B.law_terms
  | .law_is_number => B.law_is_number
  | .law_due => B.law_due
  | .law_told => B.law_told
  | .law => B.law
  | .termbank_init => [.expr (.meth (.loc Nm.n_self) Fn.bank_init []), .seta (.loc Nm.n_self) Fd.f_bv_numbers (.dict DK.i [] [])]
/-! values, objects, the store -/
inductive V where
  | none | bool (b : Bool) | int (i : Int) | str (x : PySem.Str)
  | ref (n : Nat) | tup (vs : List V) | frz (ns : List Int)
set_option genInjectivity true in
structure TK where
  op : PySem.Str
  args : List Int
  sort : Int
  data : Int
  deriving DecidableEq
inductive AObj where
  | lst (xs : List V)
  | dI (m : List (Int × V))
  | dS (m : List (PySem.Str × V))
  | dT (m : List (TK × V))
  | inst (c : Cls) (fs : List (Fd × V))
noncomputable abbrev Sto := List AObj
noncomputable abbrev Locs := Nm → Option V
noncomputable def upd (l : Locs) (x : Nm) (v : V) : Locs := fun y => if y = x then some v else l y
noncomputable def dropL (l : Locs) (y : Nm) : Locs := fun z => if z = y then none else l z
inductive Fl where
  | next | brk | cont
  | ret (v : V)

noncomputable def aget {κ : Type} [DecidableEq κ] : List (κ × V) → κ → Option V
  | [], _ => none
  | (k', v) :: r, k => if k' = k then some v else aget r k
noncomputable def aset {κ : Type} [DecidableEq κ] : List (κ × V) → κ → V → List (κ × V)
  | [], k, v => [(k, v)]
  | (k', v') :: r, k, v => if k' = k then (k', v) :: r else (k', v') :: aset r k v

/-! looks: at a value, an object, a list of values -/
noncomputable def V.ref? : V → Option Nat
  | .ref n => some n
  | _ => Option.none
noncomputable def V.int? : V → Option Int
  | .int i => some i
  | _ => Option.none
noncomputable def V.str? : V → Option PySem.Str
  | .str x => some x
  | _ => Option.none
noncomputable def V.tup? : V → Option (List V)
  | .tup vs => some vs
  | _ => Option.none
noncomputable def V.frz? : V → Option (List Int)
  | .frz ns => some ns
  | _ => Option.none
noncomputable def V.bool? : V → Option Bool
  | .bool b => some b
  | _ => Option.none
noncomputable def V.none? : V → Option Unit
  | .none => some ()
  | _ => Option.none
/-- a tuple or an object -/
noncomputable def V.byTR {α : Type} (f : List V → Option α) (g : Nat → Option α) : V → Option α
  | .tup vs => f vs
  | .ref n => g n
  | _ => Option.none
noncomputable def AObj.lst? : AObj → Option (List V)
  | .lst xs => some xs
  | _ => none
noncomputable def AObj.dI? : AObj → Option (List (Int × V))
  | .dI m => some m
  | _ => none
noncomputable def AObj.dT? : AObj → Option (List (TK × V))
  | .dT m => some m
  | _ => none
noncomputable def AObj.inst? : AObj → Option (Cls × List (Fd × V))
  | .inst c fs => some (c, fs)
  | _ => none
/-- a list or a dict of ints -/
noncomputable def AObj.byLI {α : Type} (f : List V → Option α) (g : List (Int × V) → Option α) : AObj → Option α
  | .lst xs => f xs
  | .dI m => g m
  | _ => none
noncomputable def unc {α : Type} (f : V → List V → Option α) : List V → Option α
  | v :: r => f v r
  | [] => none
noncomputable def nilO {α : Type} (a : Option α) : List V → Option α
  | [] => a
  | _ :: _ => none
noncomputable def one {α : Type} (f : V → Option α) : List V → Option α := unc fun v r => nilO (f v) r
noncomputable def two {α : Type} (f : V → V → Option α) : List V → Option α := unc fun v r => one (f v) r
noncomputable def gd {α : Type} (c : Prop) [Decidable c] (a : α) : Option α := if c then some a else none

noncomputable def asInts : List V → Option (List Int)
  | [] => some []
  | v :: r => v.int?.bind fun i => (asInts r).map (i :: ·)
noncomputable def V.asTK (v : V) : Option TK := v.tup?.bind (unc fun a => unc fun b => two fun c d => a.str?.bind fun op => b.tup?.bind fun as => c.int?.bind fun s => d.int?.bind fun d => (asInts as).map fun ns => ⟨op, ns, s, d⟩)

noncomputable def Lit.val : Lit → V
  | .none => .none
  | .bool b => .bool b
  | .int i => .int i
  | .str x => .str x

noncomputable def Sto.lst (σ : Sto) (n : Nat) : Option (List V) := (σ[n]?).bind AObj.lst?
noncomputable def Sto.fld (σ : Sto) (n : Nat) (f : Fd) : Option V := ((σ[n]?).bind AObj.inst?).bind fun p => aget p.2 f
noncomputable def Sto.cls (σ : Sto) (n : Nat) : Option Cls := ((σ[n]?).bind AObj.inst?).map fun p => p.1

/-- the most items that a list or a dict may have ahead of a growth -/
noncomputable def lim : Nat := 2000

noncomputable def rd : Nat → Sto → V → Option PySem.PyData
  | 0, _, v => (match v with
    | .none => some .none
    | .bool b => some (.bool b)
    | .int i => some (.int i)
    | .str _ => Option.none
    | .ref _ => Option.none
    | .tup _ => Option.none
    | .frz _ => Option.none)
  | k + 1, σ, v => (match v with
    | .none => some .none
    | .bool b => some (.bool b)
    | .int i => some (.int i)
    | .str _ => Option.none
    | .ref n => (σ.lst n).bind fun xs => (xs.mapM (rd k σ)).map .list
    | .tup vs => (vs.mapM (rd k σ)).map .tuple
    | .frz _ => Option.none)
noncomputable def deq (σ : Sto) (a b : V) : Option Bool := (a.str?.bind fun x => b.str?.map fun y => decide (x = y)).or ((rd 4 σ a).bind fun x => (rd 4 σ b).map fun y => PySem.PyData.eqv x y)
noncomputable def amem (σ : Sto) (a b : V) : Option Bool := a.int?.bind fun i => b.byTR (fun vs => (asInts vs).map fun ns => decide (i ∈ ns)) fun n => (σ[n]?).bind (AObj.byLI (fun xs => (asInts xs).map fun ns => decide (i ∈ ns)) fun m => some (aget m i).isSome)
noncomputable def int2 (a b : V) (f : Int → Int → Bool) : Option Bool := a.int?.bind fun x => b.int?.map fun y => f x y
noncomputable def evCmp (σ : Sto) (op : Cop) (a b : V) : Option Bool := match op with
  | .eq => deq σ a b
  | .ne => (deq σ a b).map (!·)
  | .lt => int2 a b fun a b => decide (a < b)
  | .gt => int2 a b fun a b => decide (a > b)
  | .le => int2 a b fun a b => decide (a ≤ b)
  | .ge => int2 a b fun a b => decide (a ≥ b)
  | .isin => amem σ a b
  | .notin => (amem σ a b).map (!·)

/-- an item of a list -/
noncomputable def lget (xs : List V) (i : Int) : Option V := if xs.length < lim then (if 0 ≤ i then xs[i.toNat]? else if -(xs.length : Int) ≤ i then xs[(i + xs.length).toNat]? else none) else none
noncomputable def getIn (k : V) : AObj → Option V
  | .lst xs => k.int?.bind (lget xs)
  | .dI m => k.int?.bind (aget m)
  | .dS m => k.str?.bind (aget m)
  | .dT _ => none
  | .inst _ _ => none
noncomputable def getIdx (σ : Sto) (v k : V) : Option V := v.ref?.bind fun n => (σ[n]?).bind (getIn k)
noncomputable def setIn (k v : V) : AObj → Option AObj
  | .lst _ => none
  | .dI m => k.int?.bind fun i => gd (m.length < lim) (.dI (aset m i v))
  | .dS m => k.str?.bind fun x => gd (m.length < lim) (.dS (aset m x v))
  | .dT m => k.asTK.bind fun q => gd (m.length < lim) (.dT (aset m q v))
  | .inst _ _ => none
noncomputable def setIdx (σ : Sto) (v k x : V) : Option Sto := v.ref?.bind fun n => (σ[n]?).bind fun o => (setIn k x o).map fun o => σ.set n o
noncomputable def setFld (σ : Sto) (v : V) (f : Fd) (x : V) : Option Sto := v.ref?.bind fun n => ((σ[n]?).bind AObj.inst?).bind fun p => gd (p.2.length < 100) (σ.set n (.inst p.1 (aset p.2 f x)))
noncomputable def newDict (k : DK) (ks : List PySem.Str) (vs : List V) : Option AObj := match k with
  | .i => gd ((ks.isEmpty && vs.isEmpty) = true) (.dI [])
  | .t => gd ((ks.isEmpty && vs.isEmpty) = true) (.dT [])
  | .s => gd (ks.length = vs.length ∧ ks.Nodup ∧ ks.length ≤ 8) (.dS (ks.zip vs))

noncomputable def isort (l : List Int) : List Int := l.mergeSort (fun a b => decide (a ≤ b))
noncomputable def dedup : List Int → List Int
  | [] => []
  | a :: r => if a ∈ r then dedup r else a :: dedup r

/-- a new object at the store's end -/
noncomputable def Sto.new (σ : Sto) (o : AObj) : V × Sto := (.ref σ.length, σ ++ [o])

/-- from ints, strings, lists -/
noncomputable def addV (σ : Sto) (b : V) : V → Option (V × Sto)
  | .int x => b.int?.map fun y => (.int (x + y), σ)
  | .str x => b.str?.bind fun y => gd (x.length < 100 ∧ y.length < 100) (.str (x ++ y), σ)
  | .ref m => b.ref?.bind fun n => (σ.lst m).bind fun xs => (σ.lst n).bind fun ys => gd (xs.length < lim ∧ ys.length < lim) (σ.new (.lst (xs ++ ys)))
  | .none => Option.none
  | .bool _ => Option.none
  | .tup _ => Option.none
  | .frz _ => Option.none
noncomputable def evBin (σ : Sto) (op : Bop) (a b : V) : Option (V × Sto) := match op with
  | .add => addV σ b a
  | .sub => a.int?.bind fun x => b.int?.map fun y => (.int (x - y), σ)
  | .mul => a.int?.bind fun x => b.int?.bind fun y => gd (x.natAbs < 2 ^ 30 ∧ y.natAbs < 2 ^ 30) (.int (x * y), σ)
  | .mod => a.int?.bind fun x => b.int?.bind fun y => gd (0 < y ∧ y < 2 ^ 30) (.int (x % y), σ)

noncomputable def evBi (σ : Sto) (b : Bi) (vs : List V) : Option (V × Sto) := match b with
  | .len => one (V.byTR (fun vs => gd (vs.length < lim) (.int vs.length, σ)) fun n => (σ[n]?).bind (AObj.byLI (fun xs => gd (xs.length < 2 * lim) (.int xs.length, σ)) fun m => gd (m.length < 2 * lim) (.int m.length, σ))) vs
  | .tuple => one (V.byTR (fun vs => some (.tup vs, σ)) fun n => (σ.lst n).bind fun xs => gd (xs.length < lim) (.tup xs, σ)) vs
  | .min => two (fun a b => a.int?.bind fun a => b.int?.map fun b => (.int (if b < a then b else a), σ)) vs
  | .max => two (fun a b => a.int?.bind fun a => b.int?.map fun b => (.int (if b > a then b else a), σ)) vs
  | .sorted => one (fun v => v.ref?.bind fun n => ((σ[n]?).bind AObj.dI?).bind fun m => gd (m.length < 64) (σ.new (.lst ((isort (m.map (·.1))).map .int)))) vs
  | .list => one (V.byTR (fun vs => gd (vs.length < lim) (σ.new (.lst vs))) fun n => (σ.lst n).bind fun xs => gd (xs.length < lim) (σ.new (.lst xs))) vs
  | .int => one (fun v => v.int?.map fun i => (.int i, σ)) vs
  | .str => one (fun v => v.int?.bind fun i => gd (i.natAbs < 10 ^ 9) (.str (PySem.Str.ofString (toString i)), σ)) vs
noncomputable def evSortedSet (σ : Sto) (v : V) : Option (V × Sto) := v.ref?.bind fun n => ((σ.lst n).bind asInts).bind fun ns => gd (ns.length < 64) (σ.new (.lst ((isort (dedup ns)).map .int)))
noncomputable def popV (σ : Sto) (n : Nat) (xs : List V) : List V → Option (V × Sto)
  | [] => xs.getLast?.bind fun v => gd (xs.length ≤ 2 * lim) (v, σ.set n (.lst xs.dropLast))
  | x :: r => nilO (x.int?.bind fun i => (gd (0 ≤ i ∧ xs.length ≤ lim) ()).bind fun _ => (xs[i.toNat]?).map fun v => (v, σ.set n (.lst (xs.eraseIdx i.toNat)))) r
noncomputable def evLm (σ : Sto) (m : Lm) (v : V) (vs : List V) : Option (V × Sto) := v.ref?.bind fun n => (match m with
  | .append => one (fun x => (σ.lst n).bind fun xs => gd (xs.length < lim) (.none, σ.set n (.lst (xs ++ [x])))) vs
  | .pop => (σ.lst n).bind fun xs => popV σ n xs vs
  | .extend => one (fun x => x.ref?.bind fun m => (σ.lst n).bind fun xs => (σ.lst m).bind fun ys => gd (n ≠ m ∧ xs.length < lim ∧ ys.length < lim) (.none, σ.set n (.lst (xs ++ ys)))) vs
  | .get => two (fun k d => ((σ[n]?).bind AObj.dT?).bind fun m => k.asTK.map fun q => ((aget m q).getD d, σ)) vs)
noncomputable def Lm.isGet : Lm → Bool
  | .append => false
  | .pop => false
  | .extend => false
  | .get => true
noncomputable def lmOk (σ : Sto) (m : Lm) (v : V) : Bool := (v.ref?.bind fun n => if m.isGet then ((σ[n]?).bind AObj.dT?).map fun _ => () else (σ.lst n).map fun _ => ()).isSome

noncomputable def evUpto (σ : Sto) (k : Nat) (v : V) : Option (V × Sto) := v.frz?.bind fun ns => gd (ns.length < 100) (σ.new (.lst ((ns.take k).map .int)))
noncomputable def evRev (σ : Sto) (v : V) : Option (V × Sto) := v.ref?.bind fun n => (σ.lst n).bind fun xs => gd (xs.length < lim) (σ.new (.lst xs.reverse))
noncomputable def evFstr (pre post : String) (v : V) : Option V := v.int?.bind fun i => gd (0 ≤ i ∧ i < 10 ^ 9) (.str (PySem.Str.ofString pre ++ PySem.Str.ofString (toString i) ++ PySem.Str.ofString post))

/-- the loop of bk_app over zip(some, sorts): each argument has the sort that is wanted -/
noncomputable def wantOne (σ : Sto) (q : Nat) (p : Int × Int) : Bool := match getIdx σ (.ref q) (.int p.1) with
  | some v => (match v.int? with
    | some j => j == p.2
    | none => false)
  | none => false
structure Wants where
  k : Nat
  n : Nat
  us : List V
  f : Int
  q : Nat
  r : V
  ts : List Int
  ss : List Int
noncomputable def wantsAt (σ : Sto) (l : Locs) : Option Wants :=
  ((l .n_self).bind V.ref?).bind fun k => ((l .n_some).bind V.ref?).bind fun n => ((l .n_sorts).bind V.tup?).bind fun us => ((l .n_f).bind V.int?).bind fun f =>
    ((σ.fld k .f_term_sorts).bind V.ref?).bind fun q => (σ.fld k .f_fun_names).bind fun r => ((σ.lst n).bind asInts).bind fun ts => (asInts us).bind fun ss =>
      gd (σ.cls k = some .TermBank ∧ ts.length = ss.length ∧ ts.length < 100 ∧ (ts.zip ss).all (wantOne σ q) = true ∧ (getIdx σ r (.int f)).isSome = true) ⟨k, n, us, f, q, r, ts, ss⟩
noncomputable def wantsOk (σ : Sto) (l : Locs) : Option Locs := (wantsAt σ l).map fun _ => dropL (dropL l .n_t) .n_s

/-- what an iteration takes, and the list that has to stay as it is -/
noncomputable def itemsOf (σ : Sto) : V → Option (List V × Option (Nat × List V)) := V.byTR (fun vs => gd (vs.length < 100) (vs, none)) fun n => (σ.lst n).bind fun xs => gd (xs.length < 100) (xs, some (n, xs))

noncomputable def bindP : List Nm → List V → Option Locs
  | [], vs => nilO (some fun _ => none) vs
  | x :: xs, vs => unc (fun v r => (bindP xs r).map fun l => upd l x v) vs
noncomputable def bindT (t : Tg) (v : V) (l : Locs) : Option Locs := match t with
  | .nm x => some (upd l x v)
  | .pair x y => v.tup?.bind (two fun a b => some (upd (upd l x a) y b))
noncomputable def bindL : List Nm → List V → Locs → Option Locs
  | [], vs, l => nilO (some l) vs
  | x :: xs, vs, l => unc (fun v r => bindL xs r (upd l x v)) vs

section
noncomputable def stays (g : Option (Nat × List V)) (σ : Sto) : Prop := match g with
  | none => True
  | some (n, xs) => σ.lst n = some xs
noncomputable def chk (g : Option (Nat × List V)) (σ : Sto) (r : Prop) : Prop := stays g σ ∧ r
noncomputable def opt {α : Type} (o : Option α) (k : α → Prop) : Prop := match o with
  | some a => k a
  | none => False
noncomputable abbrev Spec := Fn → List V → Sto → (V → Sto → Prop) → Prop

noncomputable def goComp (f : V → Sto → (List V → Sto → Prop) → Prop) (g : Option (Nat × List V)) : List V → List V → Sto → (List V → Sto → Prop) → Prop
  | [], acc, σ, k => k acc σ
  | v :: r, acc, σ, k => f v σ fun ws σ' => chk g σ' (goComp f g r (acc ++ ws) σ' k)

mutual
noncomputable def evE (S : Spec) : E → Locs → Sto → (V → Sto → Prop) → Prop
  | .lit v, _, σ, Q => Q v.val σ
  | .loc x, l, σ, Q => opt (l x) fun v => Q v σ
  | .gl g, _, σ, Q => Q (.int g.val) σ
  | .attr e f, l, σ, Q => evE S e l σ fun v σ => opt v.ref? fun n => opt (σ.fld n f) fun u => Q u σ
  | .tup es, l, σ, Q => evEs S es l σ fun vs σ => Q (.tup vs) σ
  | .list es, l, σ, Q => evEs S es l σ fun vs σ => Q (.ref σ.length) (σ ++ [.lst vs])
  | .dict k ks es, l, σ, Q => evEs S es l σ fun vs σ => opt (newDict k ks vs) fun o => Q (.ref σ.length) (σ ++ [o])
  | .idx e i, l, σ, Q => evE S e l σ fun v σ => evE S i l σ fun k σ => opt (getIdx σ v k) fun u => Q u σ
  | .upto e k, l, σ, Q => evE S e l σ fun v σ => opt (evUpto σ k v) fun p => Q p.1 p.2
  | .rev e, l, σ, Q => evE S e l σ fun v σ => opt (evRev σ v) fun p => Q p.1 p.2
  | .neg k, _, σ, Q => Q (.int (-(k : Int))) σ
  | .not e, l, σ, Q => evT S e l σ fun b σ => Q (.bool (!b)) σ
  | .cmp op a b, l, σ, Q => evE S a l σ fun v σ => evE S b l σ fun u σ => opt (evCmp σ op v u) fun r => Q (.bool r) σ
  | .and a b, l, σ, Q => evE S a l σ fun v σ => opt v.bool? fun t => if t then evE S b l σ Q else Q (.bool false) σ
  | .or a b, l, σ, Q => evE S a l σ fun v σ => opt v.bool? fun t => if t then Q (.bool true) σ else evE S b l σ Q
  | .ite c a b, l, σ, Q => evT S c l σ fun t σ => if t then evE S a l σ Q else evE S b l σ Q
  | .bin op a b, l, σ, Q => evE S a l σ fun v σ => evE S b l σ fun u σ => opt (evBin σ op v u) fun p => Q p.1 p.2
  | .call f es, l, σ, Q => evEs S es l σ fun vs σ => S f vs σ Q
  | .new c es, l, σ, Q => evEs S es l σ fun vs σ => S c.init (.ref σ.length :: vs) (σ ++ [.inst c []]) fun v σ' => opt v.none? fun _ => Q (.ref σ.length) σ'
  | .meth e f es, l, σ, Q => evE S e l σ fun v σ => opt v.ref? fun n => if σ.cls n = some f.owner then evEs S es l σ fun vs σ => S f (.ref n :: vs) σ Q else False
  | .bi b es, l, σ, Q => evEs S es l σ fun vs σ => opt (evBi σ b vs) fun p => Q p.1 p.2
  | .sortedset e, l, σ, Q => evE S e l σ fun v σ => opt (evSortedSet σ v) fun p => Q p.1 p.2
  | .lm m e es, l, σ, Q => evE S e l σ fun v σ => if lmOk σ m v then evEs S es l σ fun vs σ => opt (evLm σ m v vs) fun p => Q p.1 p.2 else False
  | .comp elt x it ifs, l, σ, Q => evE S it l σ fun v σ => opt (itemsOf σ v) fun p =>
      goComp (fun v σ k => evIfs S ifs (upd l x v) σ fun b σ => if b then evE S elt (upd l x v) σ fun u σ => k [u] σ else k [] σ) p.2 p.1 [] σ
        fun ws σ => Q (.ref σ.length) (σ ++ [.lst ws])
  | .comp2 elt x it y it2 ifs, l, σ, Q => evE S it l σ fun v σ => opt (itemsOf σ v) fun p =>
      goComp (fun v σ k => evE S it2 (dropL (upd l x v) y) σ fun v2 σ => opt (itemsOf σ v2) fun p2 =>
          goComp (fun u σ k => evIfs S ifs (upd (upd l x v) y u) σ fun b σ => if b then evE S elt (upd (upd l x v) y u) σ fun u σ => k [u] σ else k [] σ) p2.2 p2.1 [] σ k)
        p.2 p.1 [] σ fun ws σ => Q (.ref σ.length) (σ ++ [.lst ws])
  | .fstr a e b, l, σ, Q => evE S e l σ fun v σ => opt (evFstr a b v) fun u => Q u σ
noncomputable def evEs (S : Spec) : List E → Locs → Sto → (List V → Sto → Prop) → Prop
  | [], _, σ, Q => Q [] σ
  | e :: r, l, σ, Q => evE S e l σ fun v σ => evEs S r l σ fun vs σ => Q (v :: vs) σ
noncomputable def evIfs (S : Spec) : List E → Locs → Sto → (Bool → Sto → Prop) → Prop
  | [], _, σ, Q => Q true σ
  | e :: r, l, σ, Q => evT S e l σ fun b σ => if b then evIfs S r l σ Q else Q false σ
noncomputable def evT (S : Spec) : E → Locs → Sto → (Bool → Sto → Prop) → Prop
  | .not e, l, σ, Q => evT S e l σ fun b σ => Q (!b) σ
  | .and a b, l, σ, Q => evT S a l σ fun t σ => if t then evT S b l σ Q else Q false σ
  | .or a b, l, σ, Q => evT S a l σ fun t σ => if t then Q true σ else evT S b l σ Q
  | .cmp op a b, l, σ, Q => evE S a l σ fun v σ => evE S b l σ fun u σ => opt (evCmp σ op v u) fun r => Q r σ
  | .loc x, l, σ, Q => opt (l x) fun v => opt v.bool? fun b => Q b σ
  | .call f es, l, σ, Q => evEs S es l σ fun vs σ => S f vs σ fun v σ => opt v.bool? fun b => Q b σ
  | .meth e f es, l, σ, Q => evE S e l σ fun v σ => opt v.ref? fun n => if σ.cls n = some f.owner then evEs S es l σ fun vs σ => S f (.ref n :: vs) σ (fun v σ => opt v.bool? fun b => Q b σ) else False
  | _, _, _, _ => False
end

noncomputable def evIt (S : Spec) : It → Locs → Sto → (List V → Option (Nat × List V) → Sto → Prop) → Prop
  | .e e, l, σ, Q => evE S e l σ fun v σ => opt (itemsOf σ v) fun p => Q p.1 p.2 σ
  | .range e, l, σ, Q => evE S e l σ fun v σ => opt v.int? fun n => if 0 ≤ n ∧ n < 1000 then Q ((List.range n.toNat).map fun (i : Nat) => V.int (i : Int)) none σ else False
  | .rev e, l, σ, Q => evE S e l σ fun v σ => opt v.tup? fun vs => if vs.length < 2000 then Q vs.reverse none σ else False

/-- what follows a loop's body: the next round, or the end -/
noncomputable def turn (next : Locs → Sto → Prop) (k : Fl → Locs → Sto → Prop) (fl : Fl) (l : Locs) (σ : Sto) : Prop := match fl with
  | .next => next l σ
  | .brk => k .next l σ
  | .cont => next l σ
  | .ret u => k (.ret u) l σ
/-- what follows a statement -/
noncomputable def seqQ (next : Locs → Sto → Prop) (k : Fl → Locs → Sto → Prop) (fl : Fl) (l : Locs) (σ : Sto) : Prop := match fl with
  | .next => next l σ
  | .brk => k .brk l σ
  | .cont => k .cont l σ
  | .ret u => k (.ret u) l σ
/-- what a call gives -/
noncomputable def Fl.val? : Fl → Option V
  | .next => some .none
  | .brk => none
  | .cont => none
  | .ret v => some v
noncomputable def goFor (f : V → Locs → Sto → (Fl → Locs → Sto → Prop) → Prop) (g : Option (Nat × List V)) : List V → Locs → Sto → (Fl → Locs → Sto → Prop) → Prop
  | [], l, σ, k => k .next l σ
  | v :: r, l, σ, k => f v l σ (turn (fun l σ => chk g σ (goFor f g r l σ k)) k)
noncomputable def goWhile (test : Locs → Sto → (Bool → Sto → Prop) → Prop) (body : Locs → Sto → (Fl → Locs → Sto → Prop) → Prop) : Nat → Locs → Sto → (Fl → Locs → Sto → Prop) → Prop
  | 0, _, _, _ => False
  | n + 1, l, σ, k => test l σ fun b σ => if b then body l σ (turn (fun l σ => goWhile test body n l σ k) k) else k .next l σ

mutual
noncomputable def evS (S : Spec) : Stm → Locs → Sto → (Fl → Locs → Sto → Prop) → Prop
  | .asg x e, l, σ, Q => evE S e l σ fun v σ => Q .next (upd l x v) σ
  | .asgT xs e, l, σ, Q => evE S e l σ fun v σ => opt v.tup? fun vs => opt (bindL xs vs l) fun l' => Q .next l' σ
  | .seta o f e, l, σ, Q => evE S e l σ fun v σ => evE S o l σ fun u σ => opt (setFld σ u f v) fun σ => Q .next l σ
  | .seti o i e, l, σ, Q => evE S e l σ fun v σ => evE S o l σ fun u σ => evE S i l σ fun k σ => opt (setIdx σ u k v) fun σ => Q .next l σ
  | .expr e, l, σ, Q => evE S e l σ fun _ σ => Q .next l σ
  | .ite c a b, l, σ, Q => evT S c l σ fun t σ => if t then evB S a l σ Q else evB S b l σ Q
  | .for t it b, l, σ, Q => evIt S it l σ fun xs g σ => goFor (fun v l σ k => opt (bindT t v l) fun l => evB S b l σ k) g xs l σ Q
  | .while c b, l, σ, Q => ∃ n, goWhile (fun l σ k => evT S c l σ k) (fun l σ k => evB S b l σ k) n l σ Q
  | .ret e, l, σ, Q => evE S e l σ fun v σ => Q (.ret v) l σ
  | .retn, l, σ, Q => Q (.ret .none) l σ
  | .cont, l, σ, Q => Q .cont l σ
  | .wants, l, σ, Q => opt (wantsOk σ l) fun l' => Q .next l' σ
  | .bad, _, _, _ => False
noncomputable def evB (S : Spec) : List Stm → Locs → Sto → (Fl → Locs → Sto → Prop) → Prop
  | [], l, σ, Q => Q .next l σ
  | s :: r, l, σ, Q => evS S s l σ (seqQ (fun l σ => evB S r l σ Q) Q)
end

noncomputable def Sp : Nat → Spec
  | 0 => fun _ _ _ _ => False
  | d + 1 => fun f vs σ Q => opt (bindP f.params vs) fun l => evB (Sp d) f.body l σ fun fl _ σ => opt fl.val? fun v => Q v σ
end

end Mine
namespace Mine
open PySem

/-! looks into options and values -/
theorem bnd {α β : Type} {o : Option α} {f : α → Option β} {q : β} (e : o.bind f = some q) : ∃ a, o = some a ∧ f a = some q := Option.bind_eq_some_iff.mp e
theorem bndK {α β : Type} {P : Prop} {o : Option α} {f : α → Option β} {q : β} (e : o.bind f = some q) (k : ∀ a, o = some a → f a = some q → P) : P := let ⟨a, h1, h2⟩ := bnd e; k a h1 h2
theorem mapK {α β : Type} {P : β → Prop} {o : Option α} {f : α → β} {q : β} (e : o.map f = some q) (k : ∀ a, o = some a → P (f a)) : P q := let ⟨a, h1, h2⟩ := Option.map_eq_some_iff.mp e; h2 ▸ k a h1
theorem gdK {α : Type} {c : Prop} [Decidable c] {a q : α} {P : α → Prop} (e : gd c a = some q) (k : c → P a) : P q := by
  unfold gd at e
  by_cases h : c
  · rw [if_pos h] at e; exact Option.some.inj e ▸ k h
  · rw [if_neg h] at e; cases e
theorem gd_of {α : Type} {c : Prop} [Decidable c] {a : α} (h : c) : gd c a = some a := if_pos h
theorem no_some {α : Type} {q : α} {P : Prop} (e : (none : Option α) = some q) : P := nomatch e
theorem V.ref?_eq {v : V} {k : Nat} (e : v.ref? = some k) : v = .ref k := by cases v <;> first | exact no_some e | (cases e; rfl)
theorem V.int?_eq {v : V} {k : Int} (e : v.int? = some k) : v = .int k := by cases v <;> first | exact no_some e | (cases e; rfl)
theorem V.str?_eq {v : V} {k : Str} (e : v.str? = some k) : v = .str k := by cases v <;> first | exact no_some e | (cases e; rfl)
theorem V.tup?_eq {v : V} {k : List V} (e : v.tup? = some k) : v = .tup k := by cases v <;> first | exact no_some e | (cases e; rfl)
theorem V.frz?_eq {v : V} {k : List Int} (e : v.frz? = some k) : v = .frz k := by cases v <;> first | exact no_some e | (cases e; rfl)
theorem V.bool?_eq {v : V} {k : Bool} (e : v.bool? = some k) : v = .bool k := by cases v <;> first | exact no_some e | (cases e; rfl)
theorem V.none?_eq {v : V} {k : Unit} (e : v.none? = some k) : v = .none := by cases v <;> first | exact no_some e | rfl
theorem V.byTR_el {α : Type} {f : List V → Option α} {g : Nat → Option α} {v : V} {q : α} {P : V → Prop} (e : v.byTR f g = some q) (h1 : ∀ vs, f vs = some q → P (.tup vs)) (h2 : ∀ n, g n = some q → P (.ref n)) : P v := by
  cases v <;> first | exact h1 _ e | exact h2 _ e | exact no_some e
theorem AObj.byLI_el {α : Type} {f : List V → Option α} {g : List (Int × V) → Option α} {o : AObj} {q : α} {P : AObj → Prop} (e : o.byLI f g = some q) (h1 : ∀ xs, f xs = some q → P (.lst xs)) (h2 : ∀ m, g m = some q → P (.dI m)) : P o := by
  cases o <;> first | exact h1 _ e | exact h2 _ e | exact no_some e
theorem AObj.lst?_eq {o : AObj} {xs : List V} (e : o.lst? = some xs) : o = .lst xs := by cases o <;> first | exact no_some e | (cases e; rfl)
theorem AObj.dI?_eq {o : AObj} {xs : List (Int × V)} (e : o.dI? = some xs) : o = .dI xs := by cases o <;> first | exact no_some e | (cases e; rfl)
theorem AObj.dT?_eq {o : AObj} {xs : List (TK × V)} (e : o.dT? = some xs) : o = .dT xs := by cases o <;> first | exact no_some e | (cases e; rfl)
theorem AObj.inst?_eq {o : AObj} {p : Cls × List (Fd × V)} (e : o.inst? = some p) : o = .inst p.1 p.2 := by cases o <;> first | exact no_some e | (cases e; rfl)
theorem unc_el {α : Type} {f : V → List V → Option α} {q : α} {P : List V → Prop} {l : List V} (e : unc f l = some q) (k : ∀ v r, f v r = some q → P (v :: r)) : P l := by
  cases l with
  | nil => exact no_some e
  | cons v r => exact k v r e
theorem nilO_el {α : Type} {a : Option α} {q : α} {P : List V → Prop} {l : List V} (e : nilO a l = some q) (k : a = some q → P []) : P l := by
  cases l with
  | nil => exact k e
  | cons v r => exact no_some e
theorem one_el {α : Type} {f : V → Option α} {q : α} {P : List V → Prop} {l : List V} (e : one f l = some q) (k : ∀ v, f v = some q → P [v]) : P l :=
  unc_el e fun v _ e => nilO_el (P := fun r => P (v :: r)) e (k v)
theorem two_el {α : Type} {f : V → V → Option α} {q : α} {P : List V → Prop} {l : List V} (e : two f l = some q) (k : ∀ v u, f v u = some q → P [v, u]) : P l :=
  unc_el e fun v _ e => one_el (P := fun r => P (v :: r)) e (k v)
theorem lst_at {σ : Sto} {n : Nat} {xs : List V} (e : σ.lst n = some xs) : σ[n]? = some (.lst xs) := bndK e fun _ h1 h2 => AObj.lst?_eq h2 ▸ h1
theorem lst_of {σ : Sto} {n : Nat} {xs : List V} (e : σ[n]? = some (.lst xs)) : σ.lst n = some xs := by unfold Sto.lst; rw [e]; rfl
theorem bnd_of {α β : Type} {o : Option α} {f : α → Option β} {a : α} (e : o = some a) : o.bind f = f a := e ▸ rfl
theorem map_of {α β : Type} {o : Option α} {f : α → β} {a : α} (e : o = some a) : o.map f = some (f a) := e ▸ rfl
theorem asInts_map (ns : List Int) : asInts (ns.map V.int) = some ns := by
  induction ns with
  | nil => rfl
  | cons a r ih => show (asInts (r.map V.int)).map (a :: ·) = _; rw [ih]; rfl
theorem asInts_eq : ∀ {vs : List V} {ns : List Int}, asInts vs = some ns → vs = ns.map .int
  | [], _, e => by cases e; rfl
  | v :: r, _, e => by
    obtain ⟨i, hi, e⟩ := bnd e
    refine mapK (P := fun ns => v :: r = List.map V.int ns) e fun ms e1 => ?_
    rw [V.int?_eq hi, asInts_eq e1]; rfl
end Mine
namespace Mine
open PySem PySem.W PySem.Calls PyProof.Rows

/-- a term's key: a tuple of a text, a tuple of ints, an int, an int -/
noncomputable def IsTK (prog : Program) (w : World) (h : Heap) (k : TK) (a : Addr) : Prop :=
  ∃ b t u v, h.IsTuple a #[.str k.op t, .ref b, .int k.sort u, .int k.data v] ∧ IsTupleKey (PySem.intKind prog w) h k.args b
noncomputable def tkHash (prog : Program) (w : World) (k : TK) : Int :=
  reduceHash (Builtin.Tuple.tupleHashOf [hashStr w k.op, tupleKeyHash (PySem.intKind prog w) k.args, hashInt k.sort, hashInt k.data])

section
variable {prog : Program} {w : World} {A : Around} {E : Value → Shared → Prop} {s : Shared}

theorem tk_inj {h : Heap} {a : Addr} {x y : TK} (hx : IsTK prog w h x a) (hy : IsTK prog w h y a) : x = y := by
  obtain ⟨b, t, u, v, ⟨o, ho, _, n, hd⟩, hb⟩ := hx
  obtain ⟨b', t', u', v', ⟨o', ho', _, n', hd'⟩, hb'⟩ := hy
  rw [ho] at ho'
  cases ho'
  rw [hd] at hd'
  injection hd' with e _
  simp only [Array.mk.injEq, List.cons.injEq, Value.str.injEq, Value.ref.injEq, Value.int.injEq, and_true] at e
  obtain ⟨⟨e1, _⟩, e2, ⟨e3, _⟩, e4, _⟩ := e
  subst e2
  have := hb.inj hb'
  cases x; cases y
  simp_all

theorem tk_keeps {h h' : Heap} {k : TK} {a d : Addr} {o : Obj} {es ep} (x : IsTK prog w h k a) (ho : h.get? d = some o) (hd : o.data = .dict es ep) (hs : Heap.SameBut d h h') : IsTK prog w h' k a := by
  obtain ⟨b, t, u, v, ⟨o', ho', hc, n, hd'⟩, hb⟩ := x
  refine ⟨b, t, u, v, ⟨o', (hs.2 a ?_).trans ho', hc, n, hd'⟩, hb.keeps ho hd hs⟩
  rintro rfl
  rw [ho] at ho'; cases ho'
  rw [hd] at hd'; cases hd'

theorem tk_type {k : TK} {a : Addr} (x : IsTK prog w s.heap k a) : s.TypeIs (.ref a) "tuple" := let ⟨_, _, _, _, ⟨o, ho, hc, _⟩, _⟩ := x; ⟨o, ho, hc⟩

theorem tk_pyHash {k : TK} {a : Addr} {Q : Int → Shared → Prop} (hu : A.units + 1 < cLine) (hk : IsTK prog w s.heap k a) (h : Q (tkHash prog w k) { s with toks := s.toks + (k.args.length + 5) }) :
    wpAny (model prog w) A (pyHash (.ref a)) Q E s := by
  have hT := tk_type hk
  obtain ⟨b, t, u, v, ⟨o, ho, hc, n, hd⟩, hb⟩ := hk
  have hu0 : A.units < cLine := Nat.lt_of_succ_lt hu
  unfold pyHash
  first | unfold pyHashByItsType | skip
  first | refine wpAny_bind (wpAny_cRoomFor_or (.inr hu0) ?_) | skip
  refine wpAny_bind (wpAny_specialOf hT F.slot_tuple_hash.lookup ?_)
  show wpAny _ _ (if (some (Value.builtin "tuple.__hash__") == some Value.none) = true then _ else _) Q E s
  rw [if_neg (by rw [beq_builtin_none]; exact Bool.false_ne_true)]
  refine wpAny_bind (wpAny_specialOf hT F.slot_tuple_hash.lookup ?_)
  show wpAny _ _ (callSpecialIfBoundUnlessNone? (.ref a) "__hash__" _ >>= _) Q E s
  refine wpAny_bind (wpAny_callSpecialIfBoundUnlessNone?_slot hT F.slot_tuple_hash (wpAny_call_entry F.slot_tuple_hash hT F.entry_tuple_hash ?_ (F.args_tuple_hash_1 _)))
  show wpAny _ _ (Builtin.Tuple.tupleItemsOf (.ref a) >>= _) _ _ s
  refine wpAny_bind (wpAny_tupleItemsOf ho hd ?_)
  refine wpAny_bind ?_
  rw [← Array.forIn_toList]
  show wpAny _ _ (forIn [Value.str k.op t, .ref b, .int k.sort u, .int k.data v] _ _) _ _ s
  have key : ∀ (f : Value → Array Int → Sem (ForInStep (Array Int))), (∀ x acc, f x acc = (do let y ← pyHash x; pure (ForInStep.yield (acc.push y)))) → ∀ Q', Q' #[hashStr w k.op, tupleKeyHash (PySem.intKind prog w) k.args, hashInt k.sort, hashInt k.data] { s with toks := s.toks + (k.args.length + 4) } →
      wpAny (model prog w) A.in1 (forIn [Value.str k.op t, .ref b, .int k.sort u, .int k.data v] (#[] : Array Int) f) Q' E s := by
    intro f hf Q' q
    rw [List.forIn_cons, hf]
    refine wpAny_bind (wpAny_bind (wpAny_pyHash_str (wpAny_pure ?_)))
    dsimp only
    rw [List.forIn_cons, hf]
    refine wpAny_bind (wpAny_bind (wpAny_pyHash_tuple (knd := PySem.intKind prog w) (A := A.in1) hu hb (wpAny_pure ?_)))
    dsimp only
    rw [List.forIn_cons, hf]
    refine wpAny_bind (wpAny_bind (wpAny_pyHash_int (wpAny_pure ?_)))
    dsimp only
    rw [List.forIn_cons, hf]
    refine wpAny_bind (wpAny_bind (wpAny_pyHash_int (wpAny_pure ?_)))
    dsimp only
    rw [List.forIn_nil]
    refine wpAny_pure ?_
    have e : s.toks + 1 + (k.args.length + 1) + 1 + 1 = s.toks + (k.args.length + 4) := by (first | lia | omega)
    simpa [e] using q
  refine key _ ?_ _ ?_
  · intro x acc
    first | rfl | (simp; rfl)
  · show wpAny _ _ (retInt (Builtin.Tuple.tupleHashOf _)) _ _ _
    refine wpAny_ret_mkInt ?_
    show wpAny _ _ (if (decide (-(2 : Int) ^ 63 ≤ Builtin.Tuple.tupleHashOf [hashStr w k.op, tupleKeyHash (PySem.intKind prog w) k.args, hashInt k.sort, hashInt k.data]) && decide (Builtin.Tuple.tupleHashOf [hashStr w k.op, tupleKeyHash (PySem.intKind prog w) k.args, hashInt k.sort, hashInt k.data] < 2 ^ 63)) = true then _ else _) Q E _
    have e : s.toks + (k.args.length + 4) + 1 = s.toks + (k.args.length + 5) := by (first | lia | omega)
    unfold tkHash reduceHash at h
    split
    · rename_i hr
      rw [if_pos hr] at h
      exact wpAny_pure (by simpa [e] using h)
    · rename_i hr
      rw [if_neg hr] at h
      exact wpAny_bind (wpAny_rule (wpAny_pure (by simpa [e] using h)))

theorem itemsAre_any {prog' : Program} {w' : World} {ks : List Int} {vs : List Value} (x : ItemsAre (PySem.intKind prog w) ks vs) : ItemsAre (PySem.intKind prog' w') ks vs := by
  induction x with
  | nil => exact .nil
  | cons h _ ih => exact .cons h ih
theorem tupleKey_any {prog' : Program} {w' : World} {h : Heap} {ks : List Int} {a : Addr} (x : IsTupleKey (PySem.intKind prog w) h ks a) : IsTupleKey (PySem.intKind prog' w') h ks a :=
  let ⟨o, items, n, h1, h2, h3, h4⟩ := x; ⟨o, items, n, h1, h2, h3, itemsAre_any h4⟩

theorem tk_eqAt {x y : TK} {a b : Addr} (hu : A.units + 1 < cLine) (hx : IsTK prog w s.heap x a) (hy : IsTK prog w s.heap y b) : SeqAt.EqAt A s (.ref a) (.ref b) (decide (x = y)) := by
  by_cases hab : a = b
  · subst hab
    rw [decide_eq_true (tk_inj hx hy)]; exact .same _
  · refine .of_refs hab ?_
    obtain ⟨c, t, u, v, ht, hc⟩ := hx
    obtain ⟨c', t', u', v', ht', hc'⟩ := hy
    have hu0 : A.units < cLine := Nat.lt_of_succ_lt hu
    have r := SeqAt.RcAt.tuples (e := fun j => match j with | 0 => x.op == y.op | 1 => decide (x.args = y.args) | 2 => x.sort == y.sort | _ => x.data == y.data) ht ht' hu0 (fun j h1 h2 => by
      have : j < 4 := h1
      rcases j with _ | _ | _ | _ | j
      · exact SeqAt.EqAt.str_str _ _ _ _
      · exact fun prog' w' E Q q => wpAny_eqBool_tuple (knd := PySem.intKind prog' w') (A := A.in1) hu (tupleKey_any hc) (tupleKey_any hc') q
      · exact SeqAt.EqAt.int_int _ _ _ _
      · exact SeqAt.EqAt.int_int _ _ _ _
      · (first | lia | omega))
    have e : ((List.range (min (#[Value.str x.op t, .ref c, .int x.sort u, .int x.data v] : Array Value).size (#[Value.str y.op t', .ref c', .int y.sort u', .int y.data v'] : Array Value).size)).all (fun j => match j with | 0 => x.op == y.op | 1 => decide (x.args = y.args) | 2 => x.sort == y.sort | _ => x.data == y.data) &&
        (#[Value.str x.op t, .ref c, .int x.sort u, .int x.data v] : Array Value).size == (#[Value.str y.op t', .ref c', .int y.sort u', .int y.data v'] : Array Value).size) = decide (x = y) := by
      show ((List.range 4).all _ && true) = _
      rw [show List.range 4 = [0, 1, 2, 3] from rfl]
      obtain ⟨x1, x2, x3, x4⟩ := x
      obtain ⟨y1, y2, y3, y4⟩ := y
      simp only [List.all_cons, List.all_nil, Bool.and_true, TK.mk.injEq]
      by_cases h1 : x1 = y1 <;> by_cases h2 : x2 = y2 <;> by_cases h3 : x3 = y3 <;> by_cases h4 : x4 = y4 <;> simp [h1, h2, h3, h4]
    rw [e] at r
    exact r

theorem eqIsQuiet_tuple_any {ks : List Int} {a : Addr} {d : Nat} {Q : Bool → Shared → Prop} (hk : IsTupleKey (PySem.intKind prog w) s.heap ks a) (h : Q true s) : wpAny (model prog w) A (eqIsQuiet (d + 1) (.ref a)) Q E s := by
  have hT := hk.typeIs
  obtain ⟨o, items, n, ho, _, hd, hi⟩ := hk
  unfold eqIsQuiet
  refine wpAny_bind (wpAny_specialOf hT F.slot_tuple_eq.lookup ?_)
  show wpAny _ _ (isInstance (.ref a) (.type "tuple") >>= _) _ _ s
  refine wpAny_bind (wpAny_isInstance hT isSubtype_tuple_tuple ?_)
  simp only [Bool.not_true, Bool.false_eq_true, if_false]
  refine wpAny_bind (wpAny_seqItems ho hd ?_)
  refine wpAny_bind ?_
  show wpAny _ _ (forIn items _ _) _ _ s
  rw [← Array.forIn_toList]
  refine wpAny_forIn_list _ (fun rest r s' => r.1 = none ∧ s' = s ∧ ∀ v ∈ rest, carriedByValue v = true) _ ?_ ?_ _ _ ⟨rfl, rfl, hi.byValue⟩
  · rintro v rest r s' ⟨hr, rfl, hall⟩
    rw [eqIsQuiet_byValue _ (hall v List.mem_cons_self)]
    refine wpAny_bind (wpAny_pure ?_)
    simp only [Bool.not_true, Bool.false_eq_true, if_false]
    exact wpAny_pure ⟨rfl, rfl, fun u hu' => hall u (List.mem_cons_of_mem _ hu')⟩
  · rintro ⟨r1, r2⟩ s' ⟨hr, rfl, _⟩
    simp only at hr
    subst hr
    exact wpAny_pure h

theorem tk_quiet {k : TK} {a : Addr} {Q : Bool → Shared → Prop} (hk : IsTK prog w s.heap k a) (h : Q true s) : wpAny (model prog w) A (eqIsQuiet 8 (.ref a)) Q E s := by
  have hT := tk_type hk
  obtain ⟨b, t, u, v, ⟨o, ho, hc, n, hd⟩, hb⟩ := hk
  unfold eqIsQuiet
  refine wpAny_bind (wpAny_specialOf hT F.slot_tuple_eq.lookup ?_)
  show wpAny _ _ (isInstance (.ref a) (.type "tuple") >>= _) _ _ s
  refine wpAny_bind (wpAny_isInstance hT isSubtype_tuple_tuple ?_)
  simp only [Bool.not_true, Bool.false_eq_true, if_false]
  refine wpAny_bind (wpAny_seqItems ho hd ?_)
  refine wpAny_bind ?_
  show wpAny _ _ (forIn (#[.str k.op t, .ref b, .int k.sort u, .int k.data v] : Array Value) _ _) _ _ s
  rw [← Array.forIn_toList]
  refine wpAny_forIn_list _ (fun rest r s' => r.1 = none ∧ s' = s ∧ ∀ x ∈ rest, carriedByValue x = true ∨ x = .ref b) _ ?_ ?_ _ _ ⟨rfl, rfl, ?_⟩
  · rintro x rest r s' ⟨hr, rfl, hall⟩
    have q : ∀ Q' : Bool → Shared → Prop, Q' true s' → wpAny (model prog w) A (eqIsQuiet 7 x) Q' E s' := fun Q' z => by
      rcases hall x List.mem_cons_self with y | rfl
      · rw [eqIsQuiet_byValue _ y]; exact wpAny_pure z
      · exact eqIsQuiet_tuple_any hb z
    refine wpAny_bind (q _ ?_)
    simp only [Bool.not_true, Bool.false_eq_true, if_false]
    exact wpAny_pure ⟨rfl, rfl, fun y hy => hall y (List.mem_cons_of_mem _ hy)⟩
  · rintro ⟨r1, r2⟩ s' ⟨hr, rfl, _⟩
    simp only at hr
    subst hr
    exact wpAny_pure h
  · intro x hx
    simp only [List.mem_cons, List.not_mem_nil, or_false] at hx
    rcases hx with rfl | rfl | rfl | rfl
    · exact .inl rfl
    · exact .inr rfl
    · exact .inl rfl
    · exact .inl rfl

noncomputable def tkKind (prog : Program) (w : World) : HeapKind prog w TK where
  is := IsTK prog w
  hash := tkHash prog w
  draws := fun k => k.args.length + 5
  room := fun A => A.units + 1 < cLine
  inj := fun hx hy => tk_inj hx hy
  keeps := fun x ho hd hs => tk_keeps x ho hd hs
  pyHash := fun hu hk h => tk_pyHash hu hk h
  eqBool := fun hu hx hy h => tk_eqAt hu hx hy _ _ _ _ h
  quiet := fun hk h => tk_quiet hk h
end
end Mine
namespace Mine
open PySem PySem.W PySem.Calls PyProof.Rows

/-- the places: of each object its address, and its dict's -/
structure Pl where
  φ : Nat → Addr
  δ : Nat → Addr

/-- two lists, item by item -/
inductive F2 {α β : Type} (R : α → β → Prop) : List α → List β → Prop
  | nil : F2 R [] []
  | cons {a : α} {b : β} {as : List α} {bs : List β} : R a b → F2 R as bs → F2 R (a :: as) (b :: bs)
inductive VR (base : Heap) (p : Pl) (n : Nat) (h : Heap) : Value → V → Prop
  | none : VR base p n h .none .none
  | bool (b : Bool) : VR base p n h (.bool b) (.bool b)
  | int (i : Int) (t : Tok) : VR base p n h (.int i t) (.int i)
  | str (x : Str) (t : Tok) : VR base p n h (.str x t) (.str x)
  | ref (k : Nat) : k < n → VR base p n h (.ref (p.φ k)) (.ref k)
  | tup {a : Addr} {items : Array Value} {vs : List V} : h.IsTuple a items → F2 (VR base p n h) items.toList vs → VR base p n h (.ref a) (.tup vs)
  | frz {a : Addr} {items : List Value} {ns : List Int} : base.IsList a items.toArray → IntsAre items ns → VR base p n h (.ref a) (.frz ns)
noncomputable abbrev VRs (base : Heap) (p : Pl) (n : Nat) (h : Heap) : List Value → List V → Prop := F2 (VR base p n h)
theorem F2.mono {α β : Type} {R R' : α → β → Prop} (k : ∀ a b, R a b → R' a b) {as : List α} {bs : List β} (x : F2 R as bs) : F2 R' as bs := by
  induction x with
  | nil => exact .nil
  | cons a _ ih => exact .cons (k _ _ a) ih

inductive Ents {κ : Type} (KR : κ → Value → Int → Prop) (vr : Value → V → Prop) : List DictEntry → List (κ × V) → Prop
  | nil : Ents KR vr [] []
  | cons {k : κ} {key c : Value} {hs : Int} {v : V} {es : List DictEntry} {m : List (κ × V)} : KR k key hs → vr c v → Ents KR vr es m → Ents KR vr (⟨hs, key, c⟩ :: es) ((k, v) :: m)

inductive KV {κ : Type} (vr : Value → V → Prop) : List (κ × Value) → List (κ × V) → Prop
  | nil : KV vr [] []
  | cons {k : κ} {c : Value} {v : V} {es : List (κ × Value)} {m : List (κ × V)} : vr c v → KV vr es m → KV vr ((k, c) :: es) ((k, v) :: m)
noncomputable def KF (P : Params) (f : Fd) (key : Value) (hs : Int) : Prop := (∃ t, key = .str f.str t) ∧ hs = PyData.keyHash P f.str

/-- what stands still: the program, the world, the heap ahead of the call, the classes' addresses -/
structure G0 where
  prog : Program
  w : World
  base : Heap
  ca : Cls → Addr

noncomputable def ORel (G : G0) (h : Heap) (vr : Value → V → Prop) (x dx : Addr) : AObj → Prop
  | .lst xs => dx = x ∧ ∃ items n, h.get? x = some (listOf items n) ∧ F2 vr items.toList xs
  | .dI m => dx = x ∧ ∃ kvs, h.DictOf (PySem.intKind G.prog G.w) x kvs ∧ KV vr kvs m
  | .dS m => dx = x ∧ ∃ kvs, h.DictOf (PySem.strKind G.prog G.w) x kvs ∧ KV vr kvs m
  | .dT m => dx = x ∧ ∃ xs, h.DictOfH (tkKind G.prog G.w) x xs ∧ KV vr (xs.map fun y => (y.1, y.2.2)) m
  | .inst c fs => h.get? x = some (instObj (G.ca c) dx) ∧ ∃ es n, h.get? dx = some (dictOf es n) ∧ Ents (KF G.w.params) vr es fs ∧ (fs.map (·.1)).Nodup

structure Rp (G : G0) (p : Pl) (σ : Sto) (h : Heap) : Prop where
  base : ∀ b o, G.base.get? b = some o → h.get? b = some o
  new : ∀ k, k < σ.length → G.base.get? (p.φ k) = none ∧ G.base.get? (p.δ k) = none
  apart : ∀ j k, j < σ.length → k < σ.length → j ≠ k → p.φ j ≠ p.φ k ∧ p.δ j ≠ p.φ k ∧ p.δ j ≠ p.δ k
  obj : ∀ k o, σ[k]? = some o → ORel G h (VR G.base p σ.length h) (p.φ k) (p.δ k) o

structure Stp (W : Addr → Prop) (p : Pl) (n : Nat) (h : Heap) (p' : Pl) (n' : Nat) (h' : Heap) : Prop where
  len : n ≤ n'
  agree : ∀ k, k < n → p'.φ k = p.φ k ∧ p'.δ k = p.δ k
  kept : ∀ b o, h.get? b = some o → (∀ k, k < n → p.φ k ≠ b ∧ p.δ k ≠ b) → ¬ W b → h'.get? b = some o
  alive : ∀ b, (h.get? b).isSome = true → (h'.get? b).isSome = true
  fresh : ∀ k, n ≤ k → k < n' → h.get? (p'.φ k) = none ∧ h.get? (p'.δ k) = none

noncomputable def noW : Addr → Prop := fun _ => False

theorem Stp.refl {W : Addr → Prop} {p : Pl} {n : Nat} {h : Heap} : Stp W p n h p n h :=
  ⟨Nat.le_refl _, fun _ _ => ⟨rfl, rfl⟩, fun _ _ e _ _ => e, fun _ e => e, fun _ h1 h2 => absurd h2 (Nat.not_lt.mpr h1)⟩

theorem Stp.grow {W : Addr → Prop} {p : Pl} {n : Nat} {h h' : Heap} (k : ∀ b o, h.get? b = some o → h'.get? b = some o) : Stp W p n h p n h' :=
  ⟨Nat.le_refl _, fun _ _ => ⟨rfl, rfl⟩, fun b o e _ _ => k b o e, fun b e => by
    obtain ⟨o, ho⟩ := Option.isSome_iff_exists.mp e
    rw [k b o ho]; rfl, fun _ h1 h2 => absurd h2 (Nat.not_lt.mpr h1)⟩

theorem none_none {h : Heap} {a : Addr} {o : Obj} (e : h.get? a = some o) {P : Prop} (z : h.get? a = none) : P := nomatch e.symm.trans z
theorem isSome_of {h : Heap} {a : Addr} {o : Obj} (e : h.get? a = some o) : (h.get? a).isSome = true := by rw [e]; rfl
theorem none_of_alive {h h' : Heap} {a : Addr} (k : (h.get? a).isSome = true → (h'.get? a).isSome = true) (z : h'.get? a = none) : h.get? a = none := by
  cases e : h.get? a with
  | none => rfl
  | some o => exact nomatch (congrArg Option.isSome z).symm.trans (k (isSome_of e))
theorem Stp.trans {W W₁ : Addr → Prop} {p p₁ p₂ : Pl} {n n₁ n₂ : Nat} {h h₁ h₂ : Heap} (a : Stp W p n h p₁ n₁ h₁) (b : Stp W₁ p₁ n₁ h₁ p₂ n₂ h₂)
    (hW : ∀ c, (h.get? c).isSome = true → W₁ c → W c) : Stp W p n h p₂ n₂ h₂ where
  len := Nat.le_trans a.len b.len
  agree k hk := have q1 := a.agree k hk; have q2 := b.agree k (Nat.lt_of_lt_of_le hk a.len); ⟨q2.1.trans q1.1, q2.2.trans q1.2⟩
  kept c o e hp hw := b.kept c o (a.kept c o e hp hw) (fun k hk => (Nat.lt_or_ge k n).elim (fun q => by rw [(a.agree k q).1, (a.agree k q).2]; exact hp k q)
    fun q => have f := a.fresh k q hk; ⟨fun z => none_none e (z ▸ f.1), fun z => none_none e (z ▸ f.2)⟩) fun w => hw (hW c (isSome_of e) w)
  alive c e := b.alive c (a.alive c e)
  fresh k h1 h2 := (Nat.lt_or_ge k n₁).elim (fun q => by rw [(b.agree k q).1, (b.agree k q).2]; exact a.fresh k h1 q)
    fun q => have f := b.fresh k q h2; ⟨none_of_alive (a.alive _) f.1, none_of_alive (a.alive _) f.2⟩

theorem Stp.transN {W : Addr → Prop} {p p₁ p₂ : Pl} {n n₁ n₂ : Nat} {h h₁ h₂ : Heap} (a : Stp W p n h p₁ n₁ h₁) (b : Stp noW p₁ n₁ h₁ p₂ n₂ h₂) : Stp W p n h p₂ n₂ h₂ := a.trans b fun _ _ w => w.elim
theorem Stp.transW {W : Addr → Prop} {p p₁ p₂ : Pl} {n n₁ n₂ : Nat} {h h₁ h₂ : Heap} (a : Stp W p n h p₁ n₁ h₁) (b : Stp W p₁ n₁ h₁ p₂ n₂ h₂) : Stp W p n h p₂ n₂ h₂ := a.trans b fun _ _ w => w
theorem Stp.weak {W W' : Addr → Prop} {p p' : Pl} {n n' : Nat} {h h' : Heap} (a : Stp W p n h p' n' h') (hW : ∀ c, (h.get? c).isSome = true → W c → W' c) : Stp W' p n h p' n' h' :=
  ⟨a.len, a.agree, fun b o e hp hw => a.kept b o e hp fun w => hw (hW b (by rw [e]; rfl) w), a.alive, a.fresh⟩

/-- tuples stay -/
noncomputable def Tups (h h' : Heap) : Prop := ∀ a items, h.IsTuple a items → h'.IsTuple a items

theorem VR.mono {base : Heap} {p p' : Pl} {n n' : Nat} {h h' : Heap} (hl : n ≤ n') (ha : ∀ k, k < n → p'.φ k = p.φ k) (ht : Tups h h') {c : Value} {v : V} (x : VR base p n h c v) : VR base p' n' h' c v :=
  VR.rec (motive_1 := fun c v _ => VR base p' n' h' c v) (motive_2 := fun cs vs _ => VRs base p' n' h' cs vs) .none .bool .int .str (fun k hk => ha k hk ▸ .ref k (Nat.lt_of_lt_of_le hk hl)) (fun h1 _ ih => .tup (ht _ _ h1) ih) (fun h1 h2 => .frz h1 h2)
    .nil (fun _ _ h1 h2 => .cons h1 h2) x
theorem VRs.mono {base : Heap} {p p' : Pl} {n n' : Nat} {h h' : Heap} (hl : n ≤ n') (ha : ∀ k, k < n → p'.φ k = p.φ k) (ht : Tups h h') {cs : List Value} {vs : List V} (x : VRs base p n h cs vs) : VRs base p' n' h' cs vs :=
  F2.mono (fun _ _ => VR.mono hl ha ht) x

theorem Ents.mono {κ : Type} {KR KR' : κ → Value → Int → Prop} {vr vr' : Value → V → Prop} (hk : ∀ k c i, KR k c i → KR' k c i) (hv : ∀ c v, vr c v → vr' c v) {es : List DictEntry} {m : List (κ × V)}
    (x : Ents KR vr es m) : Ents KR' vr' es m := by
  induction x with
  | nil => exact .nil
  | cons a b _ ih => exact .cons (hk _ _ _ a) (hv _ _ b) ih

theorem KV.mono {κ : Type} {vr vr' : Value → V → Prop} (hv : ∀ c v, vr c v → vr' c v) {es : List (κ × Value)} {m : List (κ × V)} (x : KV vr es m) : KV vr' es m := by
  induction x with
  | nil => exact .nil
  | cons a _ ih => exact .cons (hv _ _ a) ih
theorem KV.keys {κ : Type} {vr : Value → V → Prop} {es : List (κ × Value)} {m : List (κ × V)} (x : KV vr es m) : es.map (·.1) = m.map (·.1) := by
  induction x with
  | nil => rfl
  | cons a _ ih => simp [ih]
theorem KV.length {κ : Type} {vr : Value → V → Prop} {es : List (κ × Value)} {m : List (κ × V)} (x : KV vr es m) : es.length = m.length := by
  induction x with
  | nil => rfl
  | cons a _ ih => simp [ih]

theorem ents_tup {prog : Program} {w : World} {h h' : Heap} (ht : Tups h h') {ks : List Int} {a : Addr} (x : IsTupleKey (PySem.intKind prog w) h ks a) : IsTupleKey (PySem.intKind prog w) h' ks a := by
  obtain ⟨o, items, n, h1, h2, h3, h4⟩ := x
  obtain ⟨o', e', hc', n', hd'⟩ := ht a items ⟨o, h1, h2, n, h3⟩
  exact ⟨o', items, n', e', hc', hd', h4⟩
theorem IsTK.mono {prog : Program} {w : World} {h h' : Heap} (ht : Tups h h') {k : TK} {a : Addr} (x : IsTK prog w h k a) : IsTK prog w h' k a :=
  x.imp fun _ => Exists.imp fun _ => Exists.imp fun _ => Exists.imp fun _ => And.imp (ht _ _) (ents_tup ht)
theorem DictOf.to {prog : Program} {w : World} {κ : Type} [DecidableEq κ] {knd : PySem.KeyKind prog w κ} {h h' : Heap} {x : Addr} {kvs : List (κ × Value)} (d : h.DictOf knd x kvs) (hx : ∀ o, h.get? x = some o → h'.get? x = some o) : h'.DictOf knd x kvs :=
  d.imp fun _ => Exists.imp fun _ => Exists.imp fun _ => And.imp (hx _) id
theorem DictOfH.to {prog : Program} {w : World} {h h' : Heap} {x : Addr} {xs : List (TK × Addr × Value)} (d : h.DictOfH (tkKind prog w) x xs) (ht : Tups h h') (hx : ∀ o, h.get? x = some o → h'.get? x = some o) : h'.DictOfH (tkKind prog w) x xs :=
  d.imp fun _ => Exists.imp fun _ => Exists.imp fun _ => And.imp (hx _) (And.imp id (And.imp id (And.imp id (And.imp (fun z y hy => IsTK.mono ht (z y hy)) id))))
theorem DictOf.at {prog : Program} {w : World} {κ : Type} [DecidableEq κ] {knd : PySem.KeyKind prog w κ} {h : Heap} {x : Addr} {kvs : List (κ × Value)} (d : h.DictOf knd x kvs) : ∃ o, h.get? x = some o ∧ o.cls = .type "dict" :=
  d.imp fun _ z => z.elim fun _ z => z.elim fun _ z => ⟨z.1, z.2.1.1⟩
theorem DictOfH.at {prog : Program} {w : World} {h : Heap} {x : Addr} {xs : List (TK × Addr × Value)} (d : h.DictOfH (tkKind prog w) x xs) : ∃ o, h.get? x = some o ∧ o.cls = .type "dict" :=
  d.imp fun _ z => z.elim fun _ z => z.elim fun _ z => ⟨z.1, z.2.1.1⟩

theorem ORel.mono {G : G0} {h h' : Heap} {vr vr' : Value → V → Prop} {x dx : Addr} (ht : Tups h h') (hv : ∀ c v, vr c v → vr' c v)
    (hx : ∀ o, h.get? x = some o → h'.get? x = some o) (hdx : ∀ o, h.get? dx = some o → h'.get? dx = some o) {o : AObj} (r : ORel G h vr x dx o) : ORel G h' vr' x dx o := by
  cases o with
  | lst xs => exact r.imp id (Exists.imp fun _ => Exists.imp fun _ => And.imp (hx _) (F2.mono hv))
  | dI m => exact r.imp id (Exists.imp fun _ => And.imp (fun d => DictOf.to d hx) (KV.mono hv))
  | dS m => exact r.imp id (Exists.imp fun _ => And.imp (fun d => DictOf.to d hx) (KV.mono hv))
  | dT m => exact r.imp id (Exists.imp fun _ => And.imp (fun d => DictOfH.to d ht hx) (KV.mono hv))
  | inst c fs => exact r.imp (hx _) (Exists.imp fun _ => Exists.imp fun _ => And.imp (hdx _) (And.imp (Ents.mono (fun _ _ _ z => z) hv) id))
/-- what stands at an object's places -/
theorem ORel.at {G : G0} {h : Heap} {vr : Value → V → Prop} {x dx : Addr} {o : AObj} (r : ORel G h vr x dx o) : (∃ o, h.get? x = some o ∧ o.cls ≠ .type "tuple") ∧ ∃ o, h.get? dx = some o ∧ o.cls ≠ .type "tuple" := by
  have nl : (Value.type "list") ≠ .type "tuple" := by decide
  have nd : (Value.type "dict") ≠ .type "tuple" := by decide
  have both : ∀ {t : String}, (∃ o, h.get? x = some o ∧ o.cls = .type t) → .type t ≠ Value.type "tuple" → dx = x → (∃ o, h.get? x = some o ∧ o.cls ≠ .type "tuple") ∧ ∃ o, h.get? dx = some o ∧ o.cls ≠ .type "tuple" := fun z n e => by
    have q : ∃ o, h.get? x = some o ∧ o.cls ≠ .type "tuple" := z.imp fun _ => And.imp id fun z w => n (z.symm.trans w)
    rw [e]; exact ⟨q, q⟩
  cases o with
  | lst xs => exact both (r.2.elim fun _ z => z.elim fun _ z => ⟨_, z.1, rfl⟩) nl r.1
  | dI m => exact both (r.2.elim fun _ z => DictOf.at z.1) nd r.1
  | dS m => exact both (r.2.elim fun _ z => DictOf.at z.1) nd r.1
  | dT m => exact both (r.2.elim fun _ z => DictOfH.at z.1) nd r.1
  | inst c fs => exact ⟨⟨_, r.1, nofun⟩, r.2.elim fun _ z => z.elim fun _ z => ⟨_, z.1, nd⟩⟩

section
variable {G : G0} {p p' : Pl} {σ σ' : Sto} {h h' : Heap} {W : Addr → Prop}

theorem Rp.get (R : Rp G p σ h) {k : Nat} {o : AObj} (e : σ[k]? = some o) : ORel G h (VR G.base p σ.length h) (p.φ k) (p.δ k) o := R.obj k o e

theorem not_tup_of {o : Obj} {a : Addr} (e : h.get? a = some o) (hn : o.cls ≠ .type "tuple") (items : Array Value) : ¬ h.IsTuple a items := fun ⟨_, e', hc, _⟩ => hn (Option.some.inj (e.symm.trans e') ▸ hc)
theorem Rp.alive (R : Rp G p σ h) {k : Nat} (hk : k < σ.length) : (h.get? (p.φ k)).isSome = true ∧ (h.get? (p.δ k)).isSome = true :=
  (R.obj k σ[k] (List.getElem?_eq_getElem hk)).at.imp (fun z => z.elim fun _ z => isSome_of z.1) fun z => z.elim fun _ z => isSome_of z.1
theorem Rp.noTup (R : Rp G p σ h) {k : Nat} (hk : k < σ.length) (items : Array Value) : ¬ h.IsTuple (p.φ k) items ∧ ¬ h.IsTuple (p.δ k) items :=
  (R.obj k σ[k] (List.getElem?_eq_getElem hk)).at.imp (fun z => z.elim fun _ z => not_tup_of z.1 z.2 _) fun z => z.elim fun _ z => not_tup_of z.1 z.2 _
theorem not_here {a b : Addr} (e : h.get? b = none) (q : (h.get? a).isSome = true) (z : a = b) : False := by rw [z, e] at q; cases q
theorem Rp.off (R : Rp G p σ h) {b : Addr} (e : h.get? b = none) {j : Nat} (hj : j < σ.length) : p.φ j ≠ b ∧ p.δ j ≠ b :=
  (R.alive hj).imp (not_here e) (not_here e)

/-- nothing of W is a tuple -/
noncomputable def NoTupW (W : Addr → Prop) (h : Heap) : Prop := ∀ b items, W b → ¬ h.IsTuple b items
theorem noTupW_no : NoTupW noW h := fun _ _ w => w.elim

theorem Stp.tups (S : Stp W p σ.length h p' σ'.length h') (R : Rp G p σ h) (hW : NoTupW W h) : Tups h h' := fun a items ht =>
  let ⟨o, e, r⟩ := id ht
  ⟨o, S.kept a o e (fun k hk => ⟨fun z => (R.noTup hk items).1 (z ▸ ht), fun z => (R.noTup hk items).2 (z ▸ ht)⟩) (fun w => hW a items w ht), r⟩
theorem Stp.vr (S : Stp W p σ.length h p' σ'.length h') (R : Rp G p σ h) (hW : NoTupW W h) {c : Value} {v : V} (x : VR G.base p σ.length h c v) : VR G.base p' σ'.length h' c v :=
  x.mono S.len (fun k hk => (S.agree k hk).1) (S.tups R hW)
theorem Stp.vrs (S : Stp W p σ.length h p' σ'.length h') (R : Rp G p σ h) (hW : NoTupW W h) {c : List Value} {v : List V} (x : VRs G.base p σ.length h c v) : VRs G.base p' σ'.length h' c v :=
  x.mono S.len (fun k hk => (S.agree k hk).1) (S.tups R hW)

/-- the heap grows: the same objects stand -/
theorem Rp.grow (R : Rp G p σ h) (k : ∀ b o, h.get? b = some o → h'.get? b = some o) : Rp G p σ h' := by
  have S : Stp noW p σ.length h p σ.length h' := Stp.grow k
  have T := S.tups R noTupW_no
  exact ⟨fun b o e => k b o (R.base b o e), R.new, R.apart, fun j o e => (R.obj j o e).mono T (fun _ _ z => S.vr R noTupW_no z) (k _) (k _)⟩
/-- a stored place outside of the objects -/
theorem Rp.change (R : Rp G p σ h) (k : ∀ b o, h.get? b = some o → ¬ W b → h'.get? b = some o) (hW : NoTupW W h) (hb : ∀ b, W b → G.base.get? b = none) (hp : ∀ j, j < σ.length → ¬ W (p.φ j) ∧ ¬ W (p.δ j)) : Rp G p σ h' := by
  have T : Tups h h' := fun a items ht => by
    obtain ⟨o, e, r⟩ := id ht
    exact ⟨o, k a o e fun w => hW a items w ht, r⟩
  refine ⟨fun b o e => k b o (R.base b o e) fun w => ?_, R.new, R.apart, fun j o e => ?_⟩
  · rw [hb b w] at e; cases e
  · have hj : j < σ.length := (List.getElem?_eq_some_iff.mp e).1
    exact (R.obj j o e).mono T (fun _ _ z => z.mono (Nat.le_refl _) (fun _ _ => rfl) T) (fun o z => k _ o z (hp j hj).1) (fun o z => k _ o z (hp j hj).2)

noncomputable def Pl.put (p : Pl) (n : Nat) (a d : Addr) : Pl := ⟨fun k => if k = n then a else p.φ k, fun k => if k = n then d else p.δ k⟩
theorem Pl.put_lt (p : Pl) {n k : Nat} (a d : Addr) (h : k < n) : (p.put n a d).φ k = p.φ k ∧ (p.put n a d).δ k = p.δ k := by
  have : k ≠ n := Nat.ne_of_lt h
  simp [Pl.put, this]
theorem Pl.put_self (p : Pl) (n : Nat) (a d : Addr) : (p.put n a d).φ n = a ∧ (p.put n a d).δ n = d := by simp [Pl.put]

theorem Rp.none_of (R : Rp G p σ h) {b : Addr} (e : h.get? b = none) : G.base.get? b = none := by
  cases q : G.base.get? b with
  | none => rfl
  | some o => rw [R.base b o q] at e; cases e

/-- a new object -/
theorem Pl.put_cases {p : Pl} {n : Nat} {a d : Addr} {P : Nat → Addr → Addr → Prop} (h1 : ∀ k, k < n → P k (p.φ k) (p.δ k)) (h2 : P n a d) : ∀ k, k < n + 1 → P k ((p.put n a d).φ k) ((p.put n a d).δ k) := fun k hk => by
  rcases Nat.lt_or_ge k n with q | q
  · rw [(p.put_lt a d q).1, (p.put_lt a d q).2]; exact h1 k q
  · cases Nat.le_antisymm (Nat.le_of_lt_succ hk) q
    rw [(p.put_self _ a d).1, (p.put_self _ a d).2]; exact h2
theorem len_snoc {o : AObj} : (σ ++ [o]).length = σ.length + 1 := List.length_append
/-- an object that stands already becomes the store's -/
theorem Rp.adopt (R : Rp G p σ h) {a d : Addr} {o : AObj} (k : ∀ b o, b ≠ a → b ≠ d → h.get? b = some o → h'.get? b = some o) (nt : ∀ items, ¬ h.IsTuple a items ∧ ¬ h.IsTuple d items)
    (off : ∀ j, j < σ.length → (p.φ j ≠ a ∧ p.δ j ≠ a) ∧ (p.φ j ≠ d ∧ p.δ j ≠ d)) (na : G.base.get? a = none) (nd : G.base.get? d = none)
    (ho : (∀ c v, VR G.base p σ.length h c v → VR G.base (p.put σ.length a d) (σ.length + 1) h' c v) → ORel G h' (VR G.base (p.put σ.length a d) (σ.length + 1) h') a d o) :
    Rp G (p.put σ.length a d) (σ ++ [o]) h' := by
  have T : Tups h h' := fun b items ht => (id ht).imp fun x => And.imp (k b x (fun z => (nt items).1 (z ▸ ht)) fun z => (nt items).2 (z ▸ ht)) id
  have m1 : ∀ c v, VR G.base p σ.length h c v → VR G.base (p.put σ.length a d) (σ.length + 1) h' c v := fun c v z => z.mono (Nat.le_succ _) (fun j hj => (p.put_lt a d hj).1) T
  refine ⟨fun b o e => k b o (fun z => none_none e (z ▸ na)) (fun z => none_none e (z ▸ nd)) (R.base b o e), fun j hj => ?_, fun i j hi hj hij => ?_, fun j o' e => ?_⟩
  · exact Pl.put_cases (P := fun _ x y => G.base.get? x = none ∧ G.base.get? y = none) R.new ⟨na, nd⟩ j (len_snoc ▸ hj)
  · refine Pl.put_cases (P := fun i x y => i ≠ j → x ≠ (p.put σ.length a d).φ j ∧ y ≠ (p.put σ.length a d).φ j ∧ y ≠ (p.put σ.length a d).δ j) (fun i hi => ?_) ?_ i (len_snoc ▸ hi) hij
    · exact Pl.put_cases (P := fun j x y => i ≠ j → p.φ i ≠ x ∧ p.δ i ≠ x ∧ p.δ i ≠ y) (fun j hj z => R.apart i j hi hj z) (fun _ => ⟨(off i hi).1.1, (off i hi).1.2, (off i hi).2.2⟩) j (len_snoc ▸ hj)
    · exact Pl.put_cases (P := fun j x y => σ.length ≠ j → a ≠ x ∧ d ≠ x ∧ d ≠ y) (fun j hj _ => ⟨(off j hj).1.1.symm, (off j hj).2.1.symm, (off j hj).2.2.symm⟩) (fun z => absurd rfl z) j (len_snoc ▸ hj)
  · rw [len_snoc]
    rcases Nat.lt_or_ge j σ.length with q | q
    · rw [List.getElem?_append_left q] at e
      rw [(p.put_lt a d q).1, (p.put_lt a d q).2]
      have z := off j q
      exact (R.obj j o' e).mono T m1 (fun o => k _ o z.1.1 z.2.1) (fun o => k _ o z.1.2 z.2.2)
    · have hj := (List.getElem?_eq_some_iff.mp e).1
      rw [len_snoc] at hj
      cases Nat.le_antisymm (Nat.le_of_lt_succ hj) q
      rw [List.getElem?_concat_length] at e
      cases e
      rw [(p.put_self _ a d).1, (p.put_self _ a d).2]; exact ho m1
theorem no_tup {a : Addr} (e : h.get? a = none) (items : Array Value) : ¬ h.IsTuple a items := fun z => z.elim fun _ z => none_none z.1 e
theorem Rp.alloc (R : Rp G p σ h) {a d : Addr} {o : AObj} (k : ∀ b o, h.get? b = some o → h'.get? b = some o) (ha : h.get? a = none) (hd : h.get? d = none)
    (ho : (∀ c v, VR G.base p σ.length h c v → VR G.base (p.put σ.length a d) (σ.length + 1) h' c v) → ORel G h' (VR G.base (p.put σ.length a d) (σ.length + 1) h') a d o) :
    Stp noW p σ.length h (p.put σ.length a d) (σ ++ [o]).length h' ∧ Rp G (p.put σ.length a d) (σ ++ [o]) h' := by
  refine ⟨?_, R.adopt (fun b o _ _ => k b o) (fun _ => ⟨no_tup ha _, no_tup hd _⟩) (fun j hj => ⟨R.off ha hj, R.off hd hj⟩) (R.none_of ha) (R.none_of hd) ho⟩
  rw [len_snoc]
  exact ⟨Nat.le_succ _, fun j hj => p.put_lt a d hj, fun b o e _ _ => k b o e, fun b e => (Option.isSome_iff_exists.mp e).elim fun o ho => isSome_of (k b o ho),
    fun j h1 h2 => Pl.put_cases (P := fun j x y => σ.length ≤ j → h.get? x = none ∧ h.get? y = none) (fun _ z w => absurd z (Nat.not_lt.mpr w)) (fun _ => ⟨ha, hd⟩) j h2 h1⟩

/-- an object turned: the address d, one of the object's own, is stored at -/
theorem Rp.turn (R : Rp G p σ h) {i : Nat} {d : Addr} {o : AObj} (hi : i < σ.length) (hd : d = p.φ i ∨ d = p.δ i) (k : ∀ b, b ≠ d → h'.get? b = h.get? b) (ha : (h'.get? d).isSome = true)
    (ho : ∀ vr, (∀ c v, VR G.base p σ.length h c v → vr c v) → Tups h h' → ORel G h' vr (p.φ i) (p.δ i) o) :
    Stp noW p σ.length h p (σ.set i o).length h' ∧ Rp G p (σ.set i o) h' := by
  have hlen : (σ.set i o).length = σ.length := List.length_set
  have nd : ∀ b, p.φ i ≠ b ∧ p.δ i ≠ b → b ≠ d := fun b z w => hd.elim (fun q => z.1 (q.symm.trans w.symm)) fun q => z.2 (q.symm.trans w.symm)
  have S : Stp noW p σ.length h p (σ.set i o).length h' := by
    rw [hlen]
    refine ⟨Nat.le_refl _, fun _ _ => ⟨rfl, rfl⟩, fun b x e hp _ => (k b (nd b (hp i hi))).trans e, fun b e => ?_, fun _ h1 h2 => absurd h2 (Nat.not_lt.mpr h1)⟩
    by_cases z : b = d
    · rw [z]; exact ha
    · rw [k b z]; exact e
  have T := S.tups (σ' := σ.set i o) R noTupW_no
  have dj : ∀ j, j < σ.length → j ≠ i → p.φ j ≠ d ∧ p.δ j ≠ d := fun j hj hji =>
    have a1 := R.apart j i hj hi hji
    have a2 := R.apart i j hi hj (Ne.symm hji)
    ⟨nd _ ⟨a1.1.symm, a2.2.1⟩, nd _ ⟨a1.2.1.symm, a1.2.2.symm⟩⟩
  refine ⟨S, fun b x e => ?_, fun j hj => R.new j (hlen ▸ hj), fun a b h1 h2 h3 => R.apart a b (hlen ▸ h1) (hlen ▸ h2) h3, fun j o' e => ?_⟩
  · exact (k b (nd b ⟨fun z => none_none e (z ▸ (R.new i hi).1), fun z => none_none e (z ▸ (R.new i hi).2)⟩)).trans (R.base b x e)
  · have hj : j < σ.length := hlen ▸ (List.getElem?_eq_some_iff.mp e).1
    have m1 : ∀ c v, VR G.base p σ.length h c v → VR G.base p (σ.set i o).length h' c v := fun c v z => S.vr (σ' := σ.set i o) R noTupW_no z
    by_cases q : j = i
    · subst q
      rw [List.getElem?_set_self hj] at e
      cases e
      exact ho _ m1 T
    · rw [List.getElem?_set_ne (fun z => q z.symm)] at e
      have z := dj j hj q
      exact (R.obj j o' e).mono T m1 (fun o y => (k _ z.1).trans y) (fun o y => (k _ z.2).trans y)
end
end Mine
namespace Mine
open PySem PySem.W PySem.Calls PyProof.Rows

section
variable {base : Heap} {p : Pl} {n : Nat} {h : Heap} {c : Value} {v : V}
theorem VR.ref_inv {k : Nat} (x : VR base p n h c (.ref k)) : c = .ref (p.φ k) ∧ k < n := by cases x with | ref _ hk => exact ⟨rfl, hk⟩
theorem VR.int_inv {k : Int} (x : VR base p n h c (.int k)) : ∃ t, c = .int k t := by cases x with | int _ t => exact ⟨t, rfl⟩
theorem VR.str_inv {k : Str} (x : VR base p n h c (.str k)) : ∃ t, c = .str k t := by cases x with | str _ t => exact ⟨t, rfl⟩
theorem VR.bool_inv {k : Bool} (x : VR base p n h c (.bool k)) : c = .bool k := by cases x; rfl
theorem VR.none_inv (x : VR base p n h c .none) : c = .none := by cases x; rfl
theorem VR.tup_inv {vs : List V} (x : VR base p n h c (.tup vs)) : ∃ a items, c = .ref a ∧ h.IsTuple a items ∧ VRs base p n h items.toList vs := by cases x with | tup a b => exact ⟨_, _, rfl, a, b⟩
theorem VR.frz_inv {ns : List Int} (x : VR base p n h c (.frz ns)) : ∃ a items, c = .ref a ∧ base.IsList a items.toArray ∧ IntsAre items ns := by cases x with | frz a b => exact ⟨_, _, rfl, a, b⟩
theorem VR.ref? (x : VR base p n h c v) {k : Nat} (e : v.ref? = some k) : c = .ref (p.φ k) ∧ k < n := VR.ref_inv (V.ref?_eq e ▸ x)
theorem VR.int? (x : VR base p n h c v) {k : Int} (e : v.int? = some k) : ∃ t, c = .int k t := VR.int_inv (V.int?_eq e ▸ x)
theorem VR.str? (x : VR base p n h c v) {k : Str} (e : v.str? = some k) : ∃ t, c = .str k t := VR.str_inv (V.str?_eq e ▸ x)
theorem VR.tup? (x : VR base p n h c v) {vs : List V} (e : v.tup? = some vs) : ∃ a items, c = .ref a ∧ h.IsTuple a items ∧ VRs base p n h items.toList vs := VR.tup_inv (V.tup?_eq e ▸ x)
theorem VRs.length {cs : List Value} {vs : List V} (x : VRs base p n h cs vs) : cs.length = vs.length := by
  induction x with
  | nil => rfl
  | cons _ _ ih => exact congrArg Nat.succ ih
theorem VRs.append {cs ds : List Value} {vs us : List V} (x : VRs base p n h cs vs) (y : VRs base p n h ds us) : VRs base p n h (cs ++ ds) (vs ++ us) := by
  induction x with
  | nil => exact y
  | cons a _ ih => exact .cons a ih
theorem VRs.one {c : Value} {v : V} (x : VR base p n h c v) : VRs base p n h [c] [v] := .cons x .nil
theorem VRs.get {cs : List Value} {vs : List V} (x : VRs base p n h cs vs) {i : Nat} {v : V} (e : vs[i]? = some v) : ∃ c, cs[i]? = some c ∧ VR base p n h c v := by
  induction x generalizing i with
  | nil => cases e
  | cons a r ih =>
    cases i with
    | zero => cases e; exact ⟨_, rfl, a⟩
    | succ j => exact ih e
theorem VRs.getC {cs : List Value} {vs : List V} (x : VRs base p n h cs vs) {i : Nat} {c : Value} (e : cs[i]? = some c) : ∃ v, vs[i]? = some v ∧ VR base p n h c v := by
  induction x generalizing i with
  | nil => cases e
  | cons a r ih =>
    cases i with
    | zero => cases e; exact ⟨_, rfl, a⟩
    | succ j => exact ih e
theorem VRs.reverse {cs : List Value} {vs : List V} (x : VRs base p n h cs vs) : VRs base p n h cs.reverse vs.reverse := by
  induction x with
  | nil => exact .nil
  | cons a _ ih => rw [List.reverse_cons, List.reverse_cons]; exact VRs.append ih (VRs.one a)
theorem VRs.take (k : Nat) {cs : List Value} {vs : List V} (x : VRs base p n h cs vs) : VRs base p n h (cs.take k) (vs.take k) := by
  induction x generalizing k with
  | nil => rw [List.take_nil, List.take_nil]; exact .nil
  | cons a _ ih =>
    cases k with
    | zero => exact .nil
    | succ k => exact .cons a (ih k)
theorem VRs.dropLast {cs : List Value} {vs : List V} (x : VRs base p n h cs vs) : VRs base p n h cs.dropLast vs.dropLast := by
  rw [List.dropLast_eq_take, List.dropLast_eq_take, VRs.length x]; exact VRs.take _ x
theorem VRs.eraseIdx (k : Nat) {cs : List Value} {vs : List V} (x : VRs base p n h cs vs) : VRs base p n h (cs.eraseIdx k) (vs.eraseIdx k) := by
  induction x generalizing k with
  | nil => exact .nil
  | cons a r ih =>
    cases k with
    | zero => exact r
    | succ k => exact .cons a (ih k)
theorem VRs.ints {cs : List Value} {vs : List V} {ns : List Int} (x : VRs base p n h cs vs) (e : asInts vs = some ns) : IntsAre cs ns := by
  induction x generalizing ns with
  | nil => cases e; exact .nil
  | cons a _ ih =>
    obtain ⟨i, hi, e⟩ := bnd e
    obtain ⟨t, rfl⟩ := VR.int? a hi
    exact mapK (P := IntsAre _) e fun ms e1 => .cons i t (ih e1)
theorem VRs.ofInts {cs : List Value} {ns : List Int} (x : IntsAre cs ns) : VRs base p n h cs (ns.map .int) := by
  induction x with
  | nil => exact .nil
  | cons i t _ ih => exact .cons (.int i t) ih
theorem size_of_vrs {its : Array Value} {xs : List V} (x : VRs base p n h its.toList xs) : its.size = xs.length := Array.length_toList.symm.trans (VRs.length x)
end

/-- an operation gave u, and left σ' -/
inductive OP (G : G0) (p : Pl) (σ : Sto) (s : Shared) (u : V) (σ' : Sto) (c : Value) : Shared → Prop
  | mk (h' : Heap) (tk : Nat) (p' : Pl) : Stp noW p σ.length s.heap p' σ'.length h' → Rp G p' σ' h' → VR G.base p' σ'.length h' c u → OP G p σ s u σ' c { s with heap := h', toks := tk }
/-- the same for what gives nothing -/
inductive UP (G : G0) (p : Pl) (σ : Sto) (s : Shared) (σ' : Sto) : Shared → Prop
  | mk (h' : Heap) (tk : Nat) (p' : Pl) : Stp noW p σ.length s.heap p' σ'.length h' → Rp G p' σ' h' → UP G p σ s σ' { s with heap := h', toks := tk }

section
variable {G : G0} {p : Pl} {σ σ' : Sto} {s : Shared} {h' : Heap} {tk : Nat} {c : Value} {u : V}
theorem OP.same (R : Rp G p σ s.heap) (x : VR G.base p σ.length s.heap c u) : OP G p σ s u σ c { s with toks := tk } := ⟨s.heap, tk, p, .refl, R, x⟩
theorem OP.grow (R : Rp G p σ s.heap) (k : ∀ b o, s.heap.get? b = some o → h'.get? b = some o) (x : VR G.base p σ.length h' c u) : OP G p σ s u σ c { s with heap := h', toks := tk } :=
  ⟨h', tk, p, .grow k, R.grow k, x⟩
/-- a new object -/
theorem OP.alloc (R : Rp G p σ s.heap) {a d : Addr} {o : AObj} (k : ∀ b o, s.heap.get? b = some o → h'.get? b = some o) (ha : s.heap.get? a = none) (hd : s.heap.get? d = none)
    (ho : ∀ vr, (∀ c v, VR G.base p σ.length s.heap c v → vr c v) → ORel G h' vr a d o) :
    OP G p σ s (.ref σ.length) (σ ++ [o]) (.ref a) { s with heap := h', toks := tk } := by
  have q := R.alloc (o := o) k ha hd (ho _)
  refine ⟨h', tk, _, q.1, q.2, ?_⟩
  have z : VR G.base (p.put σ.length a d) (σ ++ [o]).length h' (.ref ((p.put σ.length a d).φ σ.length)) (.ref σ.length) := .ref _ (len_snoc ▸ Nat.lt_succ_self _)
  rw [(p.put_self σ.length a d).1] at z; exact z

theorem lst_get {n : Nat} {xs : List V} {h : Heap} (R : Rp G p σ h) (e : σ.lst n = some xs) :
    n < σ.length ∧ p.δ n = p.φ n ∧ ∃ items k, h.get? (p.φ n) = some (listOf items k) ∧ VRs G.base p σ.length h items.toList xs :=
  have q := lst_at e
  ⟨(List.getElem?_eq_some_iff.mp q).1, R.get q⟩

theorem isList_of {h : Heap} {a : Addr} {items : Array Value} {k : Nat} (e : h.get? a = some (listOf items k)) : h.IsList a items := ⟨_, e, rfl, k, rfl⟩

/-- a list turned -/
theorem OP.list {n : Nat} {xs ys : List V} {its : Array Value} {k : Nat} (R : Rp G p σ s.heap) (e : σ.lst n = some xs) (hs : Heap.SameBut (p.φ n) s.heap h') (ho : h'.get? (p.φ n) = some (listOf its k))
    (hv : VRs G.base p σ.length s.heap its.toList ys) (x : VR G.base p σ.length s.heap c u) : OP G p σ s u (σ.set n (.lst ys)) c { s with heap := h', toks := tk } :=
  have z := lst_get R e
  have q := R.turn (o := .lst ys) z.1 (.inl rfl) hs.2 (isSome_of ho) fun _ m1 _ => ⟨z.2.1, its, k, ho, F2.mono m1 hv⟩
  ⟨h', tk, p, q.1, q.2, q.1.vr (σ' := σ.set n (.lst ys)) R noTupW_no x⟩
end

section
variable {prog : Program} {w : World} {A : Around} {E : Value → Shared → Prop} {s : Shared} {G : G0} {p : Pl} {σ σ' : Sto} {c c' d : Value} {u v : V}

theorem le_line {k : Nat} (h : k ≤ 100000) : k ≤ sizeLine := Nat.le_trans h (by decide)
theorem lim_line {k : Nat} (h : k < lim) : k ≤ sizeLine := le_line (Nat.le_trans (Nat.le_of_lt h) (by decide))
theorem lim2_line {k : Nat} (h : k ≤ 2 * lim) : k ≤ sizeLine := le_line (Nat.le_trans h (by decide))

theorem op_append (R : Rp G p σ s.heap) (hc : VR G.base p σ.length s.heap c v) {x : V} {q : V × Sto} (hd : VR G.base p σ.length s.heap d x) (e : evLm σ .append v [x] = some q) :
    wpAny (model prog w) A (call (.builtin "list.append") [c, d]) (OP G p σ s q.1 q.2) E s := by
  obtain ⟨n, hn, e⟩ := bnd e
  obtain ⟨xs, hl, e⟩ := bnd e
  refine gdK (P := fun q => wpAny _ _ _ (OP G p σ s q.1 q.2) E s) e fun hlim => ?_
  obtain ⟨rfl, hk⟩ := hc.ref? hn
  obtain ⟨hn, hδ, its, k₀, h0, hv0⟩ := lst_get R hl
  refine wpAny_list_append_plain ⟨k₀, h0⟩ (fun h' ⟨k', h1⟩ hs => OP.list (tk := s.toks) R hl hs h1 ?_ .none) (by rw [size_of_vrs hv0]; exact lim_line hlim)
  rw [Array.toList_push]
  exact VRs.append hv0 (.one hd)

theorem sameBut_update {h : Heap} {a : Addr} (f : Obj → Obj) : Heap.SameBut a h (h.update a f) := Heap.SameBut.update ..
theorem lt_of_get {α : Type} {xs : Array α} {i : Nat} {a : α} (e : xs[i]? = some a) : i < xs.size := (Array.getElem?_eq_some_iff.mp e).1

theorem op_pop (R : Rp G p σ s.heap) (hc : VR G.base p σ.length s.heap c v) {q : V × Sto} (e : evLm σ .pop v [] = some q) :
    wpAny (model prog w) A (call (.builtin "list.pop") [c]) (OP G p σ s q.1 q.2) E s := by
  obtain ⟨n, hn, e⟩ := bnd e
  obtain ⟨xs, hl, e⟩ := bnd e
  obtain ⟨y, hy, e⟩ := bnd e
  refine gdK (P := fun q => wpAny _ _ _ (OP G p σ s q.1 q.2) E s) e fun hlim => ?_
  obtain ⟨rfl, hk⟩ := hc.ref? hn
  obtain ⟨hn, hδ, its, k₀, h0, hv0⟩ := lst_get R hl
  have hs := size_of_vrs hv0
  rw [List.getLast?_eq_getElem?] at hy
  obtain ⟨cy, h1, h2⟩ := VRs.get hv0 hy
  have h1' : its[its.size - 1]? = some cy := by rw [← Array.getElem?_toList, hs]; exact h1
  have hlt := lt_of_get h1'
  refine call_meets PySem.F.slot_list_pop ⟨_, h0, rfl⟩ PySem.F.entry_list_pop (PySem.F.args_list_pop_1 _) (PySem.MeetsSeq.list_pop_last _ _ k₀ cy h1' (by rw [hs]; exact lim2_line hlim)) ⟨h0, ?_⟩
  refine OP.list (tk := s.toks) R hl (sameBut_update _) (IsL.update h0 _) ?_ h2
  have ee : (its.eraseIdxIfInBounds (its.size - 1)).toList = its.toList.dropLast := by
    unfold Array.eraseIdxIfInBounds
    rw [dif_pos hlt, Array.toList_eraseIdx, List.dropLast_eq_take, List.eraseIdx_eq_take_drop_succ, Array.length_toList]
    rw [List.drop_eq_nil_of_le (by rw [Array.length_toList]; exact Nat.le_add_of_sub_le (Nat.le_refl _)), List.append_nil]
  rw [ee]; exact VRs.dropLast hv0

theorem seqIndex_nat {i : Int} {n : Nat} (h0 : 0 ≤ i) (h1 : i.toNat < n) : seqIndex? i n = some i.toNat := by
  unfold seqIndex?
  simp only []
  first
    | (rw [if_neg (by (first | lia | omega))]; simp; (first | lia | omega))
    | (split <;> simp_all <;> (first | lia | omega))

theorem op_popAt (R : Rp G p σ s.heap) (hc : VR G.base p σ.length s.heap c v) {x : V} {q : V × Sto} (hd : VR G.base p σ.length s.heap d x) (e : evLm σ .pop v [x] = some q) :
    wpAny (model prog w) A (call (.builtin "list.pop") [c, d]) (OP G p σ s q.1 q.2) E s := by
  obtain ⟨n, hn, e⟩ := bnd e
  obtain ⟨xs, hl, e⟩ := bnd e
  obtain ⟨i, hi, e⟩ := bnd e
  obtain ⟨_, hlim, e⟩ := bnd e
  have hlim := gdK (P := fun _ => 0 ≤ i ∧ xs.length ≤ lim) hlim id
  refine mapK (P := fun q => wpAny _ _ _ (OP G p σ s q.1 q.2) E s) e fun y hy => ?_
  obtain ⟨rfl, hk⟩ := hc.ref? hn
  obtain ⟨t, rfl⟩ := hd.int? hi
  obtain ⟨hn, hδ, its, k₀, h0, hv0⟩ := lst_get R hl
  have hs := size_of_vrs hv0
  obtain ⟨cy, h1, h2⟩ := VRs.get hv0 hy
  have h1' : its[i.toNat]? = some cy := by rw [← Array.getElem?_toList]; exact h1
  have hlt := lt_of_get h1'
  have hfit : Builtin.List.listFitsIndex i = true := by
    unfold Builtin.List.listFitsIndex
    have := hlim.2
    unfold lim at this
    have : its.size ≤ 2000 := hs ▸ this
    simp; (first | lia | omega)
  refine call_meets PySem.F.slot_list_pop ⟨_, h0, rfl⟩ PySem.F.entry_list_pop (PySem.F.args_list_pop_2 _ _) (PySem.MeetsSeq.list_pop_at _ _ k₀ i t _ cy hfit (seqIndex_nat hlim.1 hlt) h1' (by rw [hs]; exact lim2_line (Nat.le_trans hlim.2 (by decide)))) ⟨h0, ?_⟩
  refine OP.list (tk := s.toks) R hl (sameBut_update _) (IsL.update h0 _) ?_ h2
  have ee : (its.eraseIdxIfInBounds i.toNat).toList = its.toList.eraseIdx i.toNat := by
    unfold Array.eraseIdxIfInBounds
    rw [dif_pos hlt, Array.toList_eraseIdx]
  rw [ee]; exact VRs.eraseIdx _ hv0

theorem op_extend (R : Rp G p σ s.heap) (hc : VR G.base p σ.length s.heap c v) {x : V} {q : V × Sto} (hd : VR G.base p σ.length s.heap d x) (e : evLm σ .extend v [x] = some q) :
    wpAny (model prog w) A (call (.builtin "list.extend") [c, d]) (OP G p σ s q.1 q.2) E s := by
  obtain ⟨n, hn, e⟩ := bnd e
  obtain ⟨m, hm, e⟩ := bnd e
  obtain ⟨xs, hl, e⟩ := bnd e
  obtain ⟨ys, hl2, e⟩ := bnd e
  refine gdK (P := fun q => wpAny _ _ _ (OP G p σ s q.1 q.2) E s) e fun hlim => ?_
  obtain ⟨rfl, hk⟩ := hc.ref? hn
  obtain ⟨rfl, hj⟩ := hd.ref? hm
  obtain ⟨hn, hδ, its, k₀, h0, hv0⟩ := lst_get R hl
  obtain ⟨hn2, hδ2, its2, k2, h2, hv2⟩ := lst_get R hl2
  have l1 : its.size ≤ 2000 := size_of_vrs hv0 ▸ Nat.le_of_lt hlim.2.1
  have l2 : its2.size ≤ 2000 := size_of_vrs hv2 ▸ Nat.le_of_lt hlim.2.2
  have hL : its.size + its2.size ≤ sizeLine := le_line (Nat.le_trans (Nat.add_le_add l1 l2) (Nat.le_of_ble_eq_true rfl))
  refine call_meets PySem.F.slot_list_extend ⟨_, h0, rfl⟩ PySem.F.entry_list_extend (PySem.F.args_list_extend_2 _ _) (AutoSeq1.list_extend_list_list_0 _ its k₀ _ its2 k2 ?_ (Nat.le_trans (Nat.le_add_right _ _) hL) (Nat.le_succ_of_le hL)) ⟨h0, h2, ?_⟩
  · unfold Builtin.List.listTooLong
    simp; (first | lia | omega)
  · refine OP.list (tk := s.toks) R hl (sameBut_update _) (IsL.update h0 _) ?_ .none
    rw [Array.toList_append]; exact VRs.append hv0 hv2
end
end Mine
namespace Mine
open PySem PySem.W PySem.Calls PyProof.Rows

theorem aset_length {κ : Type} [DecidableEq κ] (m : List (κ × V)) (k : κ) (v : V) : (aset m k v).length ≤ m.length + 1 := by
  induction m with
  | nil => exact Nat.le_refl _
  | cons a r ih =>
    unfold aset
    split
    · exact Nat.le_succ _
    · exact Nat.succ_le_succ ih
theorem valueAt_cons {κ : Type} [DecidableEq κ] (k' : κ) (c : Value) (es : List (κ × Value)) (k : κ) : valueAt ((k', c) :: es) k = if k' = k then some c else valueAt es k := by
  unfold valueAt
  rw [List.find?_cons]
  by_cases h : k' = k
  · rw [if_pos h]; simp only [h, decide_true]; rfl
  · rw [if_neg h]; simp only [h, decide_false]
theorem aget_cons {κ : Type} [DecidableEq κ] (k' : κ) (c : V) (es : List (κ × V)) (k : κ) : aget ((k', c) :: es) k = if k' = k then some c else aget es k := rfl
theorem KV.get {κ : Type} [DecidableEq κ] {vr : Value → V → Prop} {es : List (κ × Value)} {m : List (κ × V)} (x : KV vr es m) {k : κ} {v : V} (e : aget m k = some v) : ∃ c, valueAt es k = some c ∧ vr c v := by
  induction x with
  | nil => cases e
  | cons a _ ih =>
    rw [aget_cons] at e
    rw [valueAt_cons]
    split at e
    · rename_i h; cases e; rw [if_pos h]; exact ⟨_, rfl, a⟩
    · rename_i h; rw [if_neg h]; exact ih e
theorem KV.getNone {κ : Type} [DecidableEq κ] {vr : Value → V → Prop} {es : List (κ × Value)} {m : List (κ × V)} (x : KV vr es m) {k : κ} (e : aget m k = none) : valueAt es k = none := by
  induction x with
  | nil => rfl
  | cons a _ ih =>
    rw [aget_cons] at e
    rw [valueAt_cons]
    split at e
    · cases e
    · rename_i h; rw [if_neg h]; exact ih e
theorem KV.isSome {κ : Type} [DecidableEq κ] {vr : Value → V → Prop} {es : List (κ × Value)} {m : List (κ × V)} (x : KV vr es m) (k : κ) : (valueAt es k).isSome = (aget m k).isSome := by
  cases e : aget m k with
  | none => rw [x.getNone e]; rfl
  | some v => obtain ⟨c, q, _⟩ := x.get e; rw [q]; rfl

theorem aset_spec {κ : Type} [DecidableEq κ] (m : List (κ × V)) (hn : (m.map (·.1)).Nodup) (k : κ) (v : V) :
    aset m k v = if m.any (fun p => p.1 = k) then m.map (fun p => if p.1 = k then (p.1, v) else p) else m ++ [(k, v)] := by
  induction m with
  | nil => simp [aset]
  | cons a r ih =>
    obtain ⟨k', v'⟩ := a
    simp only [List.map_cons, List.nodup_cons] at hn
    unfold aset
    by_cases h : k' = k
    · subst h
      simp only [if_true, List.any_cons, decide_true, Bool.true_or, List.map_cons]
      congr 1
      have : r.map (fun p => if p.1 = k' then (p.1, v) else p) = r := by
        have : ∀ p ∈ r, (fun p : κ × V => if p.1 = k' then (p.1, v) else p) p = p := fun p hp => by
          have : p.1 ≠ k' := fun z => hn.1 (z ▸ List.mem_map_of_mem hp)
          simp [this]
        conv => rhs; rw [← List.map_id r]
        exact List.map_congr_left this
      rw [this]
    · rw [if_neg h, ih hn.2]
      simp only [List.any_cons, h, decide_false, Bool.false_or, List.map_cons, if_false]
      split <;> simp
theorem KV.any {κ : Type} [DecidableEq κ] {vr : Value → V → Prop} {es : List (κ × Value)} {m : List (κ × V)} (x : KV vr es m) (k : κ) : es.any (fun p => p.1 = k) = m.any (fun p => p.1 = k) := by
  induction x with
  | nil => rfl
  | cons a _ ih => simp [ih]
theorem KV.mapSet {κ : Type} [DecidableEq κ] {vr : Value → V → Prop} {es : List (κ × Value)} {m : List (κ × V)} (x : KV vr es m) {k : κ} {c : Value} {v : V} (hc : vr c v) :
    KV vr (es.map fun p => if p.1 = k then (p.1, c) else p) (m.map fun p => if p.1 = k then (p.1, v) else p) := by
  induction x with
  | nil => exact .nil
  | @cons k' c' v' es m a _ ih =>
    simp only [List.map_cons]
    by_cases h : k' = k
    · simp only [h, if_true]; exact .cons hc ih
    · simp only [h, if_false]; exact .cons a ih
theorem KV.snoc {κ : Type} {vr : Value → V → Prop} {es : List (κ × Value)} {m : List (κ × V)} (x : KV vr es m) {k : κ} {c : Value} {v : V} (hc : vr c v) : KV vr (es ++ [(k, c)]) (m ++ [(k, v)]) := by
  induction x with
  | nil => exact .cons hc .nil
  | cons a _ ih => exact .cons a ih
theorem KV.set {κ : Type} [DecidableEq κ] {vr : Value → V → Prop} {es : List (κ × Value)} {m : List (κ × V)} (x : KV vr es m) (hn : (es.map (·.1)).Nodup) {k : κ} {c : Value} {v : V} (hc : vr c v) :
    KV vr (stored es k c) (aset m k v) := by
  rw [aset_spec m (x.keys ▸ hn), ← x.any k]
  unfold stored
  split
  · exact x.mapSet hc
  · exact x.snoc hc

theorem DictOf.nodup {prog : Program} {w : World} {κ : Type} [DecidableEq κ] {knd : PySem.KeyKind prog w κ} {h : Heap} {x : Addr} {kvs : List (κ × Value)} (d : h.DictOf knd x kvs) : (kvs.map (·.1)).Nodup :=
  d.elim fun _ z => z.elim fun _ z => z.elim fun _ z => z.2.2.2.2.2
theorem DictOfH.nodup {prog : Program} {w : World} {h : Heap} {x : Addr} {xs : List (TK × Addr × Value)} (d : h.DictOfH (tkKind prog w) x xs) : (xs.map (·.1)).Nodup :=
  d.elim fun _ z => z.elim fun _ z => z.elim fun _ z => z.2.2.2.2.2

section
variable {prog : Program} {w : World} {A : Around} {E : Value → Shared → Prop} {s : Shared} {G : G0} {p : Pl} {σ σ' : Sto} {c c' d : Value} {u v : V} {h' : Heap} {tk : Nat}

/-- what the whole call leans on -/
structure GOk (G : G0) : Prop where
  sys : (G.base.get? sysModules).isSome = true

theorem ne_sys (H : GOk G) {h : Heap} (R : Rp G p σ h) {k : Nat} (hk : k < σ.length) : (p.φ k == sysModules) = false :=
  beq_eq_false_iff_ne.mpr fun z => nomatch (congrArg Option.isSome ((congrArg G.base.get? z).symm.trans (R.new k hk).1)).symm.trans H.sys

theorem sto_at {n : Nat} {o : AObj} {h : Heap} (R : Rp G p σ h) (e : σ[n]? = some o) : n < σ.length ∧ ORel G h (VR G.base p σ.length h) (p.φ n) (p.δ n) o :=
  ⟨(List.getElem?_eq_some_iff.mp e).1, R.get e⟩

/-- a dict turned -/
theorem UP.turn {n : Nat} {o : AObj} (R : Rp G p σ s.heap) (hn : n < σ.length) (hs : Heap.SameBut (p.φ n) s.heap h') (hd : ∃ o, h'.get? (p.φ n) = some o ∧ o.cls = .type "dict")
    (ho : ∀ vr, (∀ c v, VR G.base p σ.length s.heap c v → vr c v) → Tups s.heap h' → ORel G h' vr (p.φ n) (p.δ n) o) :
    UP G p σ s (σ.set n o) { s with heap := h', toks := tk } := by
  have q := R.turn (o := o) hn (.inl rfl) hs.2 (hd.elim fun _ z => isSome_of z.1) ho
  exact ⟨h', tk, p, q.1, q.2⟩

theorem int_is (i : Int) (t : Tok) : (PySem.intKind prog w).is i (.int i t) = true := by simp [PySem.intKind, Value.isInt]
theorem str_is (x : Str) (t : Tok) : (PySem.strKind prog w).is x (.str x t) = true := strKind_is prog w x t

theorem itemsAre_of {cs : List Value} {ns : List Int} (x : IntsAre cs ns) : ItemsAre (PySem.intKind prog w) ns cs := by
  induction x with
  | nil => exact .nil
  | cons i t _ ih => exact .cons (int_is i t) ih
theorem tupKey_of {base h : Heap} {n : Nat} {b : Addr} {its : Array Value} {as : List V} {ns : List Int} (hb : h.IsTuple b its) (hv : VRs base p n h its.toList as) (e : asInts as = some ns) : IsTupleKey (PySem.intKind prog w) h ns b := by
  obtain ⟨o, e1, hc, n', hd⟩ := hb
  exact ⟨o, its, n', e1, hc, hd, itemsAre_of (VRs.ints hv e)⟩
theorem F2.uncons {α β : Type} {R : α → β → Prop} {as : List α} {b : β} {bs : List β} (x : F2 R as (b :: bs)) : ∃ a r, as = a :: r ∧ R a b ∧ F2 R r bs := by cases x with | cons a r => exact ⟨_, _, rfl, a, r⟩
theorem F2.nil_inv {α β : Type} {R : α → β → Prop} {as : List α} (x : F2 R as []) : as = [] := by cases x; rfl
theorem F2.two {α β : Type} {R : α → β → Prop} {as : List α} {b c : β} {r : List β} (x : F2 R as (b :: c :: r)) : ∃ a d q, as = a :: d :: q ∧ R a b ∧ R d c ∧ F2 R q r := by
  obtain ⟨a, q, rfl, h1, x⟩ := x.uncons
  obtain ⟨d, q, rfl, h2, x⟩ := x.uncons
  exact ⟨a, d, q, rfl, h1, h2, x⟩
theorem asTK_el {v : V} {q : TK} {P : V → TK → Prop} (e : v.asTK = some q) (k : ∀ op as i j ns, asInts as = some ns → P (.tup [.str op, .tup as, .int i, .int j]) ⟨op, ns, i, j⟩) : P v q := by
  obtain ⟨vs, hv, e⟩ := bnd e
  rw [V.tup?_eq hv]
  refine unc_el (P := fun vs => P (.tup vs) q) e fun a r e => ?_
  refine unc_el (P := fun r => P (.tup (a :: r)) q) e fun b r e => ?_
  refine two_el (P := fun r => P (.tup (a :: b :: r)) q) e fun c d e => ?_
  obtain ⟨op, h1, e⟩ := bnd e
  obtain ⟨as, h2, e⟩ := bnd e
  obtain ⟨i, h3, e⟩ := bnd e
  obtain ⟨j, h4, e⟩ := bnd e
  rw [V.str?_eq h1, V.tup?_eq h2, V.int?_eq h3, V.int?_eq h4]
  exact mapK (P := P _) e fun ns => k op as i j ns
/-- a value that is a term's key -/
theorem VR.isTK {h : Heap} {n : Nat} {c : Value} {v : V} {q : TK} (x : VR G.base p n h c v) (e : v.asTK = some q) : ∃ a, c = .ref a ∧ IsTK prog w h q a := by
  revert x
  refine asTK_el (P := fun v q => VR G.base p n h c v → ∃ a, c = .ref a ∧ IsTK prog w h q a) e fun op as i j ns e1 x => ?_
  obtain ⟨a, items, rfl, ht, hv⟩ := x.tup_inv
  obtain ⟨l⟩ := items
  obtain ⟨c1, c2, _, rfl, h1, h2, hv⟩ := F2.two hv
  obtain ⟨c3, c4, _, rfl, h3, h4, hv⟩ := F2.two hv
  cases F2.nil_inv hv
  obtain ⟨t1, rfl⟩ := VR.str_inv h1
  obtain ⟨b, its, rfl, hb, hbv⟩ := VR.tup_inv h2
  obtain ⟨t3, rfl⟩ := VR.int_inv h3
  obtain ⟨t4, rfl⟩ := VR.int_inv h4
  exact ⟨a, rfl, _, _, _, _, ht, tupKey_of hb hbv e1⟩

theorem storedH_kv (xs : List (TK × Addr × Value)) (q : TK) (a : Addr) (cv : Value) : (storedH xs q a cv).map (fun y => (y.1, y.2.2)) = stored (xs.map fun y => (y.1, y.2.2)) q cv := by
  unfold storedH stored
  have ea : (atKey xs q).isSome = (xs.map fun y => (y.1, y.2.2)).any (fun kv => decide (kv.1 = q)) := by
    unfold atKey
    rw [Option.isSome_map, List.isSome_find?, List.any_map]; rfl
  rw [ea]
  split
  · rw [List.map_map, List.map_map]
    refine List.map_congr_left fun y _ => ?_
    unfold putAt
    show _ = if y.1 = q then _ else _
    by_cases hy : y.1 = q
    · rw [if_pos hy]; simp [hy]
    · rw [if_neg hy]; simp [hy]
  · exact List.map_append

theorem op_setIdx (R : Rp G p σ s.heap) (hu : A.units + 2 < cLine) {k x : V} {cv : Value} (hc : VR G.base p σ.length s.heap c v) (hk : VR G.base p σ.length s.heap d k) (hv : VR G.base p σ.length s.heap cv x) (e : setIdx σ v k x = some σ') :
    wpAny (model G.prog G.w) A (setItem c d cv) (fun _ s' => UP G p σ s σ' s') E s := by
  obtain ⟨n, hn, e⟩ := bnd e
  obtain ⟨o, hm, e⟩ := bnd e
  refine mapK (P := fun σ' => wpAny _ _ _ (fun _ s' => UP G p σ s σ' s') E s) e fun o' e => ?_
  obtain ⟨rfl, hn⟩ := hc.ref? hn
  have hr := R.get hm
  cases o with
  | lst _ => exact no_some e
  | inst _ _ => exact no_some e
  | dI m =>
    obtain ⟨i, hi, e⟩ := bnd e
    refine gdK (P := fun o => wpAny _ _ _ (fun _ s' => UP G p σ s (σ.set n o) s') E s) e fun hl => ?_
    obtain ⟨t, rfl⟩ := hk.int? hi
    obtain ⟨hd, kvs, h1, h2⟩ := hr
    exact wpAny_setItem_pairs (knd := PySem.intKind G.prog G.w) (int_is _ _) h1 (fun h' hD hs => UP.turn R hn hs (DictOf.at hD) fun vr m1 _ => ⟨hd, _, hD, (h2.mono m1).set (DictOf.nodup h1) (m1 _ _ hv)⟩) (lim_line (h2.length ▸ hl))
  | dS m =>
    obtain ⟨i, hi, e⟩ := bnd e
    refine gdK (P := fun o => wpAny _ _ _ (fun _ s' => UP G p σ s (σ.set n o) s') E s) e fun hl => ?_
    obtain ⟨t, rfl⟩ := hk.str? hi
    obtain ⟨hd, kvs, h1, h2⟩ := hr
    exact wpAny_setItem_pairs (knd := PySem.strKind G.prog G.w) (str_is _ _) h1 (fun h' hD hs => UP.turn R hn hs (DictOf.at hD) fun vr m1 _ => ⟨hd, _, hD, (h2.mono m1).set (DictOf.nodup h1) (m1 _ _ hv)⟩) (lim_line (h2.length ▸ hl))
  | dT m =>
    obtain ⟨q, hq, e⟩ := bnd e
    refine gdK (P := fun o => wpAny _ _ _ (fun _ s' => UP G p σ s (σ.set n o) s') E s) e fun hl => ?_
    obtain ⟨a, rfl, hT⟩ := hk.isTK (prog := G.prog) (w := G.w) hq
    obtain ⟨hd, xs, h1, h2⟩ := hr
    refine wpAny_setItem_heap (knd := tkKind G.prog G.w) (show A.in1.units + 1 < cLine from hu) hT h1 (fun h' hD hs => UP.turn R hn hs (DictOfH.at hD) fun vr m1 _ => ⟨hd, _, hD, ?_⟩) (lim_line (by rw [← List.length_map (as := xs), h2.length]; exact hl))
    rw [storedH_kv]
    exact (h2.mono m1).set (by rw [List.map_map]; exact DictOfH.nodup h1) (m1 _ _ hv)
end
end Mine
namespace Mine
open PySem PySem.W PySem.Calls PyProof.Rows

section
variable {prog : Program} {w : World} {A : Around} {E : Value → Shared → Prop} {s : Shared} {G : G0} {p : Pl} {σ σ' : Sto} {c c' d : Value} {u v : V} {h' : Heap} {tk : Nat}

/-- a step that turns nothing in the heap -/
noncomputable def XQ (G : G0) (p : Pl) (n : Nat) (s : Shared) (v : V) (c : Value) (s' : Shared) : Prop := VR G.base p n s.heap c v ∧ ∃ tk, s' = { s with toks := tk }
theorem XQ.op (R : Rp G p σ s.heap) {s' : Shared} (x : XQ G p σ.length s u c s') : OP G p σ s u σ c s' := x.2.elim fun _ e => e ▸ OP.same R x.1
theorem x_getIdx (R : Rp G p σ s.heap) {k : V} (hc : VR G.base p σ.length s.heap c v) (hk : VR G.base p σ.length s.heap d k) (e : getIdx σ v k = some u) :
    wpAny (model G.prog G.w) A (getItem c d) (XQ G p σ.length s u) E s := by
  obtain ⟨n, hn, e⟩ := bnd e
  obtain ⟨o, hm, e⟩ := bnd e
  obtain ⟨rfl, hn⟩ := hc.ref? hn
  have hr := R.get hm
  cases o with
  | lst xs =>
    obtain ⟨i, hi, e⟩ := bnd e
    obtain ⟨t, rfl⟩ := hk.int? hi
    obtain ⟨_, its, k₀, h0, hv⟩ := hr
    have hs := size_of_vrs hv
    unfold lget at e
    split at e
    case isFalse => cases e
    rename_i hbb
    have hs3 : its.size ≤ 2000 := hs ▸ Nat.le_of_lt hbb
    split at e
    · rename_i h0'
      obtain ⟨cy, h1, h2⟩ := VRs.get hv e
      have hlt := lt_of_get (Array.getElem?_toList ▸ h1)
      exact wpAny_getItem_list (isList_of h0) h0' (by (first | lia | omega)) (by rw [← Array.getElem?_toList]; exact h1) ⟨h2, _, rfl⟩
    · rename_i h0'
      split at e
      · rename_i h1'
        obtain ⟨cy, h1, h2⟩ := VRs.get hv e
        exact wpAny_getItem_list_neg (isList_of h0) (by (first | lia | omega)) (by rw [hs]; exact h1') (by (first | lia | omega)) (by rw [← Array.getElem?_toList, hs]; exact h1) ⟨h2, _, rfl⟩
      · cases e
  | dI m =>
    obtain ⟨i, hi, e⟩ := bnd e
    obtain ⟨t, rfl⟩ := hk.int? hi
    obtain ⟨hd, kvs, h1, h2⟩ := hr
    obtain ⟨cy, q1, q2⟩ := h2.get e
    exact wpAny_getItem_of (knd := PySem.intKind G.prog G.w) (int_is _ _) h1.mapOf q1 ⟨q2, _, rfl⟩
  | dS m =>
    obtain ⟨i, hi, e⟩ := bnd e
    obtain ⟨t, rfl⟩ := hk.str? hi
    obtain ⟨hd, kvs, h1, h2⟩ := hr
    obtain ⟨cy, q1, q2⟩ := h2.get e
    exact wpAny_getItem_of (knd := PySem.strKind G.prog G.w) (str_is _ _) h1.mapOf q1 ⟨q2, _, rfl⟩
  | dT m => exact no_some e
  | inst _ _ => exact no_some e
theorem op_getIdx (R : Rp G p σ s.heap) {k : V} (hc : VR G.base p σ.length s.heap c v) (hk : VR G.base p σ.length s.heap d k) (e : getIdx σ v k = some u) :
    wpAny (model G.prog G.w) A (getItem c d) (OP G p σ s u σ) E s := wpAny_mono (x_getIdx R hc hk e) (fun _ _ z => z.op R) fun _ _ e => e

theorem op_get (H : GOk G) (R : Rp G p σ s.heap) (hu : A.units + 2 < cLine) {k x : V} {cv : Value} {q : V × Sto} (hc : VR G.base p σ.length s.heap c v) (hk : VR G.base p σ.length s.heap d k) (hv : VR G.base p σ.length s.heap cv x) (e : evLm σ .get v [k, x] = some q) :
    wpAny (model G.prog G.w) A (call (.builtin "dict.get") [c, d, cv]) (OP G p σ s q.1 q.2) E s := by
  obtain ⟨n, hn, e⟩ := bnd e
  obtain ⟨m, hm, e⟩ := bnd e
  refine mapK (P := fun q => wpAny _ _ _ (OP G p σ s q.1 q.2) E s) e fun y hy => ?_
  obtain ⟨o, ho, hm⟩ := bnd hm
  cases AObj.dT?_eq hm
  obtain ⟨rfl, hn⟩ := hc.ref? hn
  obtain ⟨hd, xs, h1, h2⟩ := R.get ho
  obtain ⟨a, rfl, hT⟩ := hk.isTK (prog := G.prog) (w := G.w) hy
  refine call_meetsIn PySem.F.slot_dict_get (show s.TypeIs (.ref (p.φ n)) "dict" from DictOfH.at h1) PySem.F.entry_dict_get (PySem.F.args_dict_get_3 _ _ _) (meetsH_dict_get_default (tkKind G.prog G.w) _ a (ne_sys H R hn) cv) ⟨show A.in1.units + 1 < cLine from hu, y, xs, hT, h1, ?_⟩
  refine OP.same R ?_
  have ea : (atKey xs y).map (·.2) = valueAt (xs.map fun z => (z.1, z.2.2)) y := by
    unfold atKey valueAt
    rw [List.find?_map, Option.map_map, Option.map_map]; rfl
  rw [ea]
  cases hg : aget m y with
  | none => rw [h2.getNone hg]; exact hv
  | some b => obtain ⟨cb, q1, q2⟩ := h2.get hg; rw [q1]; exact q2

/-! new lists -/
theorem OP.newList {its : Array Value} {k₀ : Nat} {xs : List V} {a : Addr} (R : Rp G p σ s.heap) (k : ∀ b o, s.heap.get? b = some o → h'.get? b = some o) (ha : s.heap.get? a = none) (ho : h'.get? a = some (listOf its k₀))
    (hv : VRs G.base p σ.length s.heap its.toList xs) : OP G p σ s (.ref σ.length) (σ ++ [.lst xs]) (.ref a) { s with heap := h', toks := tk } :=
  OP.alloc R k ha ha fun _ m => ⟨rfl, its, k₀, ho, F2.mono m hv⟩

theorem none_at {h : Heap} {a : Addr} (ha : h.objs.size ≤ a) : h.get? a = none := by
  cases e : h.get? a with
  | none => rfl
  | some o => exact absurd (Heap.lt_size e) (Nat.not_lt.mpr ha)

theorem toNat_small {k : Nat} (h : k < 2 * lim) : (k : Int) < 2 ^ 63 := Int.lt_of_lt_of_le (Int.ofNat_lt.mpr h) (by decide)

theorem op_len (H : GOk G) (R : Rp G p σ s.heap) {q : V × Sto} (hc : VR G.base p σ.length s.heap c v) (e : evBi σ .len [v] = some q) :
    wpAny (model G.prog G.w) A (call (.builtin "len") [c]) (OP G p σ s q.1 q.2) E s := by
  revert hc
  refine V.byTR_el (P := fun v => VR G.base p σ.length s.heap c v → wpAny _ _ _ (OP G p σ s q.1 q.2) E s) e (fun vs e hc => ?_) fun n e hc => ?_
  · refine gdK (P := fun q => wpAny _ _ _ (OP G p σ s q.1 q.2) E s) e fun hl => ?_
    obtain ⟨a, its, rfl, ht, hv⟩ := hc.tup_inv
    rw [← size_of_vrs hv] at hl ⊢
    exact len_tuple ht (toNat_small (Nat.lt_of_lt_of_le hl (Nat.le_of_ble_eq_true rfl))) (OP.same R (.int _ _))
  · obtain ⟨rfl, hn⟩ := hc.ref_inv
    obtain ⟨o, ho, e⟩ := bnd e
    have hr := R.get ho
    revert hr
    refine AObj.byLI_el (P := fun o => ORel G s.heap _ _ _ o → wpAny _ _ _ (OP G p σ s q.1 q.2) E s) e (fun xs e hr => ?_) fun m e hr => ?_
    · refine gdK (P := fun q => wpAny _ _ _ (OP G p σ s q.1 q.2) E s) e fun hl => ?_
      obtain ⟨_, its, k₀, h0, hv⟩ := hr
      rw [← size_of_vrs hv] at hl ⊢
      exact PyProof.Rows.len_list (isList_of h0) (toNat_small hl) (OP.same R (.int _ _))
    · refine gdK (P := fun q => wpAny _ _ _ (OP G p σ s q.1 q.2) E s) e fun hl => ?_
      obtain ⟨hd, kvs, h1, h2⟩ := hr
      rw [← h2.length] at hl ⊢
      exact call_len_dict (knd := PySem.intKind G.prog G.w) (ne_sys H R hn) h1 (toNat_small hl) (OP.same R (.int _ _))

theorem op_tuple (R : Rp G p σ s.heap) {q : V × Sto} (hc : VR G.base p σ.length s.heap c v) (e : evBi σ .tuple [v] = some q) :
    wpAny (model prog w) A (call (.type "tuple") [c]) (OP G p σ s q.1 q.2) E s := by
  revert hc
  refine V.byTR_el (P := fun v => VR G.base p σ.length s.heap c v → wpAny _ _ _ (OP G p σ s q.1 q.2) E s) e (fun vs e hc => ?_) fun n e hc => ?_
  · cases e
    obtain ⟨a, its, rfl, ht, hv⟩ := hc.tup_inv
    exact call_tuple_same ht (OP.same (tk := s.toks) R hc)
  · obtain ⟨rfl, hn⟩ := hc.ref_inv
    obtain ⟨xs, hl, e⟩ := bnd e
    refine gdK (P := fun q => wpAny _ _ _ (OP G p σ s q.1 q.2) E s) e fun hl' => ?_
    obtain ⟨_, _, its, k₀, h0, hv⟩ := lst_get R hl
    refine call_tuple_list (isList_of h0) (fun h' k => ?_) (by rw [size_of_vrs hv]; exact lim_line hl')
    have k2 : ∀ b o, s.heap.get? b = some o → (h'.push { cls := .type "tuple", data := .seq its }).get? b = some o := fun b o z => Heap.get?_push_of_some _ (k b o z)
    exact OP.grow (tk := s.toks) R k2 (.tup ⟨_, Heap.get?_push_size _ rfl, rfl, 0, rfl⟩ ((Stp.grow (W := noW) k2).vrs (σ' := σ) R noTupW_no hv))

theorem op_list (R : Rp G p σ s.heap) {q : V × Sto} (hc : VR G.base p σ.length s.heap c v) (e : evBi σ .list [v] = some q) :
    wpAny (model prog w) A (call (.type "list") [c]) (OP G p σ s q.1 q.2) E s := by
  revert hc
  refine V.byTR_el (P := fun v => VR G.base p σ.length s.heap c v → wpAny _ _ _ (OP G p σ s q.1 q.2) E s) e (fun vs e hc => ?_) fun n e hc => ?_
  · refine gdK (P := fun q => wpAny _ _ _ (OP G p σ s q.1 q.2) E s) e fun hl => ?_
    obtain ⟨a, its, rfl, ⟨o, ho, hcl, n, hd⟩, hv⟩ := hc.tup_inv
    exact call_list_seq _ (.inr rfl) ho hcl hd (fun h' c' k h1 => OP.newList (tk := s.toks) R k (none_at (Nat.le_refl _)) h1 hv) (by rw [size_of_vrs hv]; exact lim_line hl)
  · obtain ⟨rfl, hn⟩ := hc.ref_inv
    obtain ⟨xs, hl, e⟩ := bnd e
    refine gdK (P := fun q => wpAny _ _ _ (OP G p σ s q.1 q.2) E s) e fun hl' => ?_
    obtain ⟨_, _, its, k₀, h0, hv⟩ := lst_get R hl
    exact call_list_seq _ (.inl rfl) h0 rfl rfl (fun h' c' k h1 => OP.newList (tk := s.toks) R k (none_at (Nat.le_refl _)) h1 hv) (by rw [size_of_vrs hv]; exact lim_line hl')

theorem op_int (R : Rp G p σ s.heap) {q : V × Sto} (hc : VR G.base p σ.length s.heap c v) (e : evBi σ .int [v] = some q) :
    wpAny (model prog w) A (call (.type "int") [c]) (OP G p σ s q.1 q.2) E s :=
  mapK (P := fun q => wpAny _ _ _ (OP G p σ s q.1 q.2) E s) e fun i hi => by
    obtain ⟨t, rfl⟩ := hc.int? hi
    exact call_int_int (OP.same (tk := s.toks) R (.int _ _))

theorem log2_small {n : Nat} (h : n < 10 ^ 9) : n.log2 < 1920 := by
  rcases Nat.eq_zero_or_pos n with rfl | hp
  · decide
  · rw [Nat.log2_lt (Nat.ne_of_gt hp)]
    exact Nat.lt_of_lt_of_le h (Nat.le_trans (show 10 ^ 9 ≤ 2 ^ 30 by decide) (Nat.pow_le_pow_right (by decide) (by decide)))

theorem op_str (R : Rp G p σ s.heap) {q : V × Sto} (hc : VR G.base p σ.length s.heap c v) (e : evBi σ .str [v] = some q) :
    wpAny (model prog w) A (call (.type "str") [c]) (OP G p σ s q.1 q.2) E s := by
  obtain ⟨i, hi, e⟩ := bnd e
  obtain ⟨t, rfl⟩ := hc.int? hi
  exact gdK (P := fun q => wpAny _ _ _ (OP G p σ s q.1 q.2) E s) e fun hl => PySem.P.str_of_int (log2_small hl) (OP.same R (.str _ _))

theorem op_min (R : Rp G p σ s.heap) (hh : A.handled = none) {q : V × Sto} {x : V} (hc : VR G.base p σ.length s.heap c v) (hd : VR G.base p σ.length s.heap d x) (e : evBi σ .min [v, x] = some q) :
    wpAny (model prog w) A (call (.builtin "min") [c, d]) (OP G p σ s q.1 q.2) E s := by
  obtain ⟨i, hi, e⟩ := bnd e
  refine mapK (P := fun q => wpAny _ _ _ (OP G p σ s q.1 q.2) E s) e fun j hj => ?_
  obtain ⟨t, rfl⟩ := hc.int? hi
  obtain ⟨t', rfl⟩ := hd.int? hj
  refine min_two_ints hh fun h' tk k => OP.grow R k ?_
  split <;> exact .int _ _
theorem op_max (R : Rp G p σ s.heap) (hh : A.handled = none) {q : V × Sto} {x : V} (hc : VR G.base p σ.length s.heap c v) (hd : VR G.base p σ.length s.heap d x) (e : evBi σ .max [v, x] = some q) :
    wpAny (model prog w) A (call (.builtin "max") [c, d]) (OP G p σ s q.1 q.2) E s := by
  obtain ⟨i, hi, e⟩ := bnd e
  refine mapK (P := fun q => wpAny _ _ _ (OP G p σ s q.1 q.2) E s) e fun j hj => ?_
  obtain ⟨t, rfl⟩ := hc.int? hi
  obtain ⟨t', rfl⟩ := hd.int? hj
  refine max_two_ints hh fun h' tk k => OP.grow R k ?_
  split <;> exact .int _ _
end
end Mine
namespace Mine
open PySem PySem.W PySem.Calls PyProof.Rows

noncomputable def opOf : Bop → Operator
  | .add => .Add
  | .sub => .Sub
  | .mul => .Mult
  | .mod => .Mod
noncomputable def cmpOf : Cop → CmpOp
  | .eq => .Eq
  | .ne => .NotEq
  | .lt => .Lt
  | .gt => .Gt
  | .le => .LtE
  | .ge => .GtE
  | .isin => .In
  | .notin => .NotIn

section
variable {prog : Program} {w : World} {A : Around} {E : Value → Shared → Prop} {s : Shared} {G : G0} {p : Pl} {σ σ' : Sto} {c c' d : Value} {u v : V} {h' : Heap} {tk : Nat}

theorem intBits_small {a : Int} (h : a.natAbs < 2 ^ 30) : Builtin.Int.intBits a ≤ 64 := by
  unfold Builtin.Int.intBits
  split
  · exact Nat.zero_le _
  · rename_i hz
    have h0 : a.natAbs ≠ 0 := by simp at hz; (first | lia | omega)
    have : a.natAbs.log2 < 30 := by rw [Nat.log2_lt h0]; exact h
    (first | lia | omega)

theorem str_le {x : Str} (h : x.length < 100) : x.length ≤ 100 := Nat.le_of_lt h

theorem op_bin (R : Rp G p σ s.heap) {op : Bop} {x : V} {q : V × Sto} (hc : VR G.base p σ.length s.heap c v) (hd : VR G.base p σ.length s.heap d x) (e : evBin σ op v x = some q) :
    wpAny (model prog w) A (binaryOp (opOf op) c d) (OP G p σ s q.1 q.2) E s := by
  cases op with
  | add =>
    revert hc
    cases v <;> try exact no_some e
    · intro hc
      refine mapK (P := fun q => wpAny _ _ _ (OP G p σ s q.1 q.2) E s) e fun j hj => ?_
      obtain ⟨t, rfl⟩ := hc.int_inv
      obtain ⟨t', rfl⟩ := hd.int? hj
      exact add_int (OP.same R (.int _ _))
    · intro hc
      obtain ⟨y, hy, e⟩ := bnd e
      refine gdK (P := fun q => wpAny _ _ _ (OP G p σ s q.1 q.2) E s) e fun hb => ?_
      obtain ⟨t, rfl⟩ := hc.str_inv
      obtain ⟨t', rfl⟩ := hd.str? hy
      exact add_str (fun t' tk => OP.same R (.str _ _)) (le_line (Nat.le_trans (Nat.add_le_add (Nat.le_of_lt hb.1) (Nat.le_of_lt hb.2)) (Nat.le_of_ble_eq_true rfl)))
    · intro hc
      obtain ⟨n, hn, e⟩ := bnd e
      obtain ⟨xs, h1, e⟩ := bnd e
      obtain ⟨ys, h2, e⟩ := bnd e
      refine gdK (P := fun q => wpAny _ _ _ (OP G p σ s q.1 q.2) E s) e fun hb => ?_
      obtain ⟨rfl, hm⟩ := hc.ref_inv
      obtain ⟨rfl, hn⟩ := hd.ref? hn
      obtain ⟨_, _, its, k₀, a0, a1⟩ := lst_get R h1
      obtain ⟨_, _, its2, k₂, b0, b1⟩ := lst_get R h2
      have l1 : its.size ≤ 2000 := size_of_vrs a1 ▸ Nat.le_of_lt hb.1
      have l2 : its2.size ≤ 2000 := size_of_vrs b1 ▸ Nat.le_of_lt hb.2
      refine PySem.P.add_list a0 b0 (OP.newList (tk := s.toks) R (fun b o z => Heap.get?_push_of_some _ z) (none_at (Nat.le_refl _)) (Heap.get?_push_size _ rfl) ?_) (le_line (Nat.le_trans (Nat.add_le_add l1 l2) (Nat.le_of_ble_eq_true rfl)))
      rw [Array.toList_append]; exact VRs.append a1 b1
  | sub =>
    obtain ⟨i, hi, e⟩ := bnd e
    refine mapK (P := fun q => wpAny _ _ _ (OP G p σ s q.1 q.2) E s) e fun j hj => ?_
    obtain ⟨t, rfl⟩ := hc.int? hi
    obtain ⟨t', rfl⟩ := hd.int? hj
    exact sub_int (OP.same R (.int _ _))
  | mul =>
    obtain ⟨i, hi, e⟩ := bnd e
    obtain ⟨j, hj, e⟩ := bnd e
    refine gdK (P := fun q => wpAny _ _ _ (OP G p σ s q.1 q.2) E s) e fun hb => ?_
    obtain ⟨t, rfl⟩ := hc.int? hi
    obtain ⟨t', rfl⟩ := hd.int? hj
    exact mul_int (OP.same R (.int _ _)) (IntMulOk.of_left (intBits_small hb.1))
  | mod =>
    obtain ⟨i, hi, e⟩ := bnd e
    obtain ⟨j, hj, e⟩ := bnd e
    refine gdK (P := fun q => wpAny _ _ _ (OP G p σ s q.1 q.2) E s) e fun hb => ?_
    obtain ⟨t, rfl⟩ := hc.int? hi
    obtain ⟨t', rfl⟩ := hd.int? hj
    refine mod_int' (Int.ne_of_gt hb.1) (OP.same R ?_)
    rw [Int.fmod_eq_emod_of_nonneg _ (Int.le_of_lt hb.1)]; exact .int _ _

/-! comparisons -/
theorem rd_el {k : Nat} {v : V} {t : PyData} {P : V → PyData → Prop} (e : rd k σ v = some t) (h0 : P .none .none) (h1 : ∀ b, P (.bool b) (.bool b)) (h2 : ∀ i, P (.int i) (.int i))
    (h3 : ∀ j n xs ts, k = j + 1 → σ.lst n = some xs → xs.mapM (rd j σ) = some ts → P (.ref n) (.list ts)) (h4 : ∀ j vs ts, k = j + 1 → vs.mapM (rd j σ) = some ts → P (.tup vs) (.tuple ts)) : P v t := by
  cases k with
  | zero => cases v <;> first | exact no_some e | (cases e; first | exact h0 | exact h1 _ | exact h2 _)
  | succ j =>
    cases v with
    | ref n =>
      obtain ⟨xs, hl, e⟩ := bnd e
      exact mapK (P := P _) e fun ts e => h3 j n xs ts rfl hl e
    | tup vs => exact mapK (P := P _) e fun ts e => h4 j vs ts rfl e
    | _ => first | exact no_some e | (cases e; first | exact h0 | exact h1 _ | exact h2 _)
theorem mapM_cons_el {α β : Type} {f : α → Option β} {a : α} {r : List α} {ts : List β} {P : List β → Prop} (e : (a :: r).mapM f = some ts) (k : ∀ t us, f a = some t → r.mapM f = some us → P (t :: us)) : P ts := by
  rw [List.mapM_cons] at e
  obtain ⟨t, h1, e⟩ := bnd e
  obtain ⟨us, h2, e⟩ := bnd e
  cases e
  exact k t us h1 h2
noncomputable def RdOk (h : Heap) (k : Nat) (c : Value) (t : PyData) : Prop := (∃ as, Reads h c t as) ∧ t.canLay0 = true ∧ t.depth ≤ k
theorem rds_reads {h : Heap} {k : Nat} {vr : Value → V → Prop} {f : V → Option PyData} (ih : ∀ c v t, vr c v → f v = some t → RdOk h k c t) {cs : List Value} {vs : List V} (x : F2 vr cs vs) {ts : List PyData} (e : vs.mapM f = some ts) :
    (∃ as, ReadsAll h cs ts as) ∧ PyData.canLayAll0 ts = true ∧ PyData.depthAll ts ≤ k := by
  induction x generalizing ts with
  | nil => cases e; exact ⟨⟨_, ReadsAll.nil⟩, rfl, Nat.zero_le _⟩
  | cons a _ ih2 =>
    refine mapM_cons_el (P := fun ts => (∃ as, ReadsAll h _ ts as) ∧ PyData.canLayAll0 ts = true ∧ PyData.depthAll ts ≤ k) e fun t us e1 e2 => ?_
    obtain ⟨⟨as, q⟩, q2, q3⟩ := ih _ _ _ a e1
    obtain ⟨⟨bs, r1⟩, r2, r3⟩ := ih2 e2
    exact ⟨⟨_, ReadsAll.cons q r1⟩, by unfold PyData.canLayAll0; rw [q2, r2]; rfl, by unfold PyData.depthAll; exact Nat.max_le.mpr ⟨q3, r3⟩⟩
theorem rd_reads {h : Heap} (R : Rp G p σ h) : ∀ (k : Nat) {c : Value} {v : V} {t : PyData}, VR G.base p σ.length h c v → rd k σ v = some t → RdOk h k c t := fun k => by
  induction k with
  | zero =>
    intro c v t x e
    revert x
    refine rd_el (P := fun v t => VR G.base p σ.length h c v → RdOk h 0 c t) e (fun x => ?_) (fun b x => ?_) (fun i x => ?_) (fun _ _ _ _ z => nomatch z) (fun _ _ _ z => nomatch z)
    · cases x.none_inv; exact ⟨⟨_, Reads.none⟩, rfl, Nat.zero_le _⟩
    · cases x.bool_inv; exact ⟨⟨_, Reads.bool _⟩, rfl, Nat.zero_le _⟩
    · obtain ⟨t, rfl⟩ := x.int_inv; exact ⟨⟨_, Reads.int _ _⟩, rfl, Nat.zero_le _⟩
  | succ k ih =>
    intro c v t x e
    revert x
    refine rd_el (P := fun v t => VR G.base p σ.length h c v → RdOk h (k + 1) c t) e (fun x => ?_) (fun b x => ?_) (fun i x => ?_) (fun j n xs ts z hl e x => ?_) (fun j vs ts z e x => ?_)
    · cases x.none_inv; exact ⟨⟨_, Reads.none⟩, rfl, Nat.zero_le _⟩
    · cases x.bool_inv; exact ⟨⟨_, Reads.bool _⟩, rfl, Nat.zero_le _⟩
    · obtain ⟨t, rfl⟩ := x.int_inv; exact ⟨⟨_, Reads.int _ _⟩, rfl, Nat.zero_le _⟩
    · cases z
      obtain ⟨rfl, _⟩ := x.ref_inv
      obtain ⟨_, _, its, k₀, h0, hv⟩ := lst_get R hl
      obtain ⟨⟨as, q⟩, q2, q3⟩ := rds_reads (fun c v t => @ih c v t) hv e
      exact ⟨⟨_, reads_list_at h0 rfl rfl q⟩, by unfold PyData.canLay0; exact q2, by unfold PyData.depth; (first | lia | omega)⟩
    · cases z
      obtain ⟨a, its, rfl, ⟨o, ho, hc, n, hd⟩, hv⟩ := x.tup_inv
      obtain ⟨⟨as, q⟩, q2, q3⟩ := rds_reads (fun c v t => @ih c v t) hv e
      exact ⟨⟨_, reads_tuple_at ho hc hd q⟩, by unfold PyData.canLay0; exact q2, by unfold PyData.depth; (first | lia | omega)⟩

theorem deq_el {v x : V} {b : Bool} {P : Bool → Prop} (e : deq σ v x = some b) (h1 : ∀ y z, v = .str y → x = .str z → P (decide (y = z))) (h2 : ∀ y z, rd 4 σ v = some y → rd 4 σ x = some z → P (y.eqv z)) : P b := by
  rcases Option.or_eq_some_iff.mp e with e | ⟨_, e⟩
  · obtain ⟨y, hy, e⟩ := bnd e
    exact mapK (P := P) e fun z hz => h1 y z (V.str?_eq hy) (V.str?_eq hz)
  · obtain ⟨y, hy, e⟩ := bnd e
    exact mapK (P := P) e fun z hz => h2 y z hy hz
theorem op_deq (R : Rp G p σ s.heap) (hu : A.units + 10 < cLine) {x : V} {b : Bool} (hc : VR G.base p σ.length s.heap c v) (hd : VR G.base p σ.length s.heap d x) (e : deq σ v x = some b) :
    wpAny (model prog w) A (compareOp .Eq c d) (OP G p σ s (.bool b) σ) E s ∧ wpAny (model prog w) A (compareOp .NotEq c d) (OP G p σ s (.bool (!b)) σ) E s := by
  refine deq_el (P := fun b => wpAny _ _ _ (OP G p σ s (.bool b) σ) E s ∧ wpAny _ _ _ (OP G p σ s (.bool (!b)) σ) E s) e (fun y z e1 e2 => ?_) fun y z h1 h2 => ?_
  · subst e1; subst e2
    obtain ⟨t, rfl⟩ := hc.str_inv
    obtain ⟨t', rfl⟩ := hd.str_inv
    have k : (y == z) = decide (y = z) := by by_cases h : y = z <;> simp [h]
    rw [← k]
    exact ⟨eq_str (OP.same (tk := s.toks) R (.bool _)), ne_str (OP.same (tk := s.toks) R (.bool _))⟩
  · obtain ⟨⟨as, a1⟩, a2, a3⟩ := rd_reads R 4 hc h1
    obtain ⟨⟨bs, b1⟩, b2, b3⟩ := rd_reads R 4 hd h2
    have hm : min y.depth z.depth ≤ 4 := Nat.le_trans (Nat.min_le_left _ _) a3
    exact ⟨SeqAt.compareEq_reads a1 b1 a2 b2 (by (first | lia | omega)) (OP.same (tk := s.toks) R (.bool _)), SeqAt.compareNe_reads a1 b1 a2 b2 (by (first | lia | omega)) (OP.same (tk := s.toks) R (.bool _))⟩
end
end Mine
namespace Mine
open PySem PySem.W PySem.Calls PyProof.Rows

section
variable {prog : Program} {w : World} {A : Around} {E : Value → Shared → Prop} {s : Shared} {G : G0} {p : Pl} {σ σ' : Sto} {c c' d : Value} {u v : V} {h' : Heap} {tk : Nat}

/-- whether a value is the int -/
noncomputable def isI (i : Int) (y : Value) : Bool := match y with
  | .int j _ => j == i
  | _ => false
theorem any_ints {cs : List Value} {ns : List Int} (i : Int) (h : IntsAre cs ns) : cs.any (isI i) = decide (i ∈ ns) := by
  induction h with
  | nil => rfl
  | @cons j t cs ns r ih =>
    rw [List.any_cons, ih]
    show (j == i || _) = _
    by_cases h : j = i
    · subst h; simp
    · have : ¬ i = j := fun z => h z.symm
      simp [h, this]
theorem eqAt_ints {ns : List Int} {i : Int} {t : Tok} {cs : List Value} (h : IntsAre cs ns) : ∀ y ∈ cs, SeqAt.EqAt A s y (.int i t) (isI i y) := by
  induction h with
  | nil => intro y hy; cases hy
  | cons j u r ih =>
    intro y hy
    rcases List.mem_cons.mp hy with rfl | hy
    · exact SeqAt.EqAt.int_int _ _ _ _
    · exact ih y hy

theorem op_amem (H : GOk G) (R : Rp G p σ s.heap) {x : V} {b : Bool} (hc : VR G.base p σ.length s.heap c v) (hd : VR G.base p σ.length s.heap d x) (e : amem σ v x = some b) :
    wpAny (model G.prog G.w) A (compareOp .In c d) (OP G p σ s (.bool b) σ) E s ∧ wpAny (model G.prog G.w) A (compareOp .NotIn c d) (OP G p σ s (.bool (!b)) σ) E s := by
  obtain ⟨i, hi, e⟩ := bnd e
  obtain ⟨t, rfl⟩ := hc.int? hi
  have hA : ∀ {its : Array Value} {xs : List V} {ns : List Int}, VRs G.base p σ.length s.heap its.toList xs → asInts xs = some ns → its.any (isI i) = decide (i ∈ ns) ∧ ∀ y ∈ its, SeqAt.EqAt A.in1 s y (.int i t) (isI i y) := fun hv e1 =>
    have hi := VRs.ints hv e1
    ⟨by rw [← Array.any_toList]; exact any_ints i hi, fun y hy => eqAt_ints hi y (Array.mem_toList_iff.mpr hy)⟩
  have fin : ∀ b tk, OP G p σ s (.bool b) σ (.bool b) { s with toks := tk } := fun b tk => OP.same R (.bool _)
  revert hd
  refine V.byTR_el (P := fun x => VR G.base p σ.length s.heap d x → wpAny _ _ _ (OP G p σ s (.bool b) σ) E s ∧ wpAny _ _ _ (OP G p σ s (.bool (!b)) σ) E s) e (fun vs e hd => ?_) fun n e hd => ?_
  · obtain ⟨a, its, rfl, ht, hv⟩ := hd.tup_inv
    refine mapK (P := fun b => wpAny _ _ _ (OP G p σ s (.bool b) σ) E s ∧ wpAny _ _ _ (OP G p σ s (.bool (!b)) σ) E s) e fun ns e1 => ?_
    have z := hA hv e1
    rw [← z.1]
    exact ⟨SeqAt.in_tupleAt _ ht z.2 (fin _ _), SeqAt.notIn_tupleAt _ ht z.2 (fin _ _)⟩
  · obtain ⟨rfl, hn⟩ := hd.ref_inv
    obtain ⟨o, ho, e⟩ := bnd e
    have hr := R.get ho
    revert hr
    refine AObj.byLI_el (P := fun o => ORel G s.heap _ _ _ o → wpAny _ _ _ (OP G p σ s (.bool b) σ) E s ∧ wpAny _ _ _ (OP G p σ s (.bool (!b)) σ) E s) e (fun xs e hr => ?_) fun m e hr => ?_
    · refine mapK (P := fun b => wpAny _ _ _ (OP G p σ s (.bool b) σ) E s ∧ wpAny _ _ _ (OP G p σ s (.bool (!b)) σ) E s) e fun ns e1 => ?_
      obtain ⟨_, its, k₀, h0, hv⟩ := hr
      have z := hA hv e1
      rw [← z.1]
      exact ⟨SeqAt.in_listAt _ (isList_of h0) z.2 (fin _ _), SeqAt.notIn_listAt _ (isList_of h0) z.2 (fin _ _)⟩
    · cases e
      obtain ⟨_, kvs, h1, h2⟩ := hr
      rw [← h2.isSome]
      exact ⟨wpAny_in_of (knd := PySem.intKind G.prog G.w) (int_is _ _) (ne_sys H R hn) h1.mapOf (fin _ _), wpAny_notIn_of (knd := PySem.intKind G.prog G.w) (int_is _ _) (ne_sys H R hn) h1.mapOf (fin _ _)⟩

theorem int2_el {x : V} {f : Int → Int → Bool} {b : Bool} {P : Value → Value → Bool → Prop} (hc : VR G.base p σ.length s.heap c v) (hd : VR G.base p σ.length s.heap d x) (e : int2 v x f = some b) (k : ∀ i t j t', P (.int i t) (.int j t') (f i j)) : P c d b := by
  obtain ⟨i, hi, e⟩ := bnd e
  refine mapK (P := P c d) e fun j hj => ?_
  obtain ⟨t, rfl⟩ := hc.int? hi
  obtain ⟨t', rfl⟩ := hd.int? hj
  exact k i t j t'
theorem op_cmp (H : GOk G) (R : Rp G p σ s.heap) (hu : A.units + 10 < cLine) {x : V} {b : Bool} {op : Cop} (hc : VR G.base p σ.length s.heap c v) (hd : VR G.base p σ.length s.heap d x) (e : evCmp σ op v x = some b) :
    wpAny (model G.prog G.w) A (compareOp (cmpOf op) c d) (OP G p σ s (.bool b) σ) E s := by
  cases op with
  | eq => exact (op_deq R hu hc hd e).1
  | ne => exact mapK (P := fun b => wpAny _ _ _ (OP G p σ s (.bool b) σ) E s) e fun b' e1 => (op_deq R hu hc hd e1).2
  | lt => exact int2_el (P := fun c d b => wpAny _ _ (compareOp _ c d) (OP G p σ s (.bool b) σ) E s) hc hd e fun i t j t' => lt_int (OP.same (tk := s.toks) R (.bool _))
  | gt => exact int2_el (P := fun c d b => wpAny _ _ (compareOp _ c d) (OP G p σ s (.bool b) σ) E s) hc hd e fun i t j t' => gt_int (OP.same (tk := s.toks) R (.bool _))
  | le => exact int2_el (P := fun c d b => wpAny _ _ (compareOp _ c d) (OP G p σ s (.bool b) σ) E s) hc hd e fun i t j t' => le_int (OP.same (tk := s.toks) R (.bool _))
  | ge => exact int2_el (P := fun c d b => wpAny _ _ (compareOp _ c d) (OP G p σ s (.bool b) σ) E s) hc hd e fun i t j t' => ge_int (OP.same (tk := s.toks) R (.bool _))
  | isin => exact (op_amem H R hc hd e).1
  | notin => exact mapK (P := fun b => wpAny _ _ _ (OP G p σ s (.bool b) σ) E s) e fun b' e1 => (op_amem H R hc hd e1).2

/-! slices: the slice object stands at sl -/
theorem op_rev (R : Rp G p σ s.heap) {q : V × Sto} {sl : Addr} {t : Tok} (hsl : s.heap.IsSliceOf sl .none .none (.int (-1) t)) (hc : VR G.base p σ.length s.heap c v) (e : evRev σ v = some q) :
    wpAny (model prog w) A (getItem c (.ref sl)) (OP G p σ s q.1 q.2) E s := by
  obtain ⟨n, hn, e⟩ := bnd e
  obtain ⟨xs, hl, e⟩ := bnd e
  refine gdK (P := fun q => wpAny _ _ _ (OP G p σ s q.1 q.2) E s) e fun hlim => ?_
  obtain ⟨rfl, hn⟩ := hc.ref? hn
  obtain ⟨_, _, its, k₀, h0, hv⟩ := lst_get R hl
  refine wpAny_getItem_list_slice (isList_of h0) hsl .none .none (.int _ _) (by decide) ?_ (by rw [size_of_vrs hv]; exact lim_line hlim)
  refine OP.newList (tk := s.toks) R (fun b o z => Heap.get?_push_of_some _ z) (none_at (Nat.le_refl _)) (Heap.get?_push_size _ rfl) ?_
  rw [krv_pick]; exact VRs.reverse hv

theorem op_upto (R : Rp G p σ s.heap) {q : V × Sto} {sl : Addr} {t : Tok} {k : Nat} (hk : k < 100) (hsl : s.heap.IsSliceOf sl .none (.int k t) .none) (hc : VR G.base p σ.length s.heap c v) (e : evUpto σ k v = some q) :
    wpAny (model prog w) A (getItem c (.ref sl)) (OP G p σ s q.1 q.2) E s := by
  obtain ⟨ns, hn, e⟩ := bnd e
  cases V.frz?_eq hn
  refine gdK (P := fun q => wpAny _ _ _ (OP G p σ s q.1 q.2) E s) e fun hz => ?_
  obtain ⟨a, items, rfl, hl, hi⟩ := hc.frz_inv
  have hl' : s.heap.IsList a items.toArray := hl.at fun o z => R.base _ _ z
  refine wpAny_getItem_list_slice hl' hsl .none (.int _ _) .none (by decide) ?_ (by rw [List.size_toArray, hi.length]; exact le_line (Nat.le_trans (Nat.le_of_lt hz) (Nat.le_of_ble_eq_true rfl)))
  refine OP.newList (tk := s.toks) R (fun b o z => Heap.get?_push_of_some _ z) (none_at (Nat.le_refl _)) (Heap.get?_push_size _ rfl) ?_
  have := kmk_upto (vs := items) (ns := ns) (y := (k : Int)) hi (by (first | lia | omega))
  rw [Int.toNat_natCast] at this
  exact VRs.ofInts this

theorem isort_uniq {a b : List Int} (h : a.Perm b) (o : a.Pairwise (· ≤ ·)) : a = isort b := by
  refine lks_uniq (h.trans (List.mergeSort_perm b _).symm) o ?_
  have := List.pairwise_mergeSort (le := fun a b : Int => decide (a ≤ b)) (fun a b c h1 h2 => by simp at *; (first | lia | omega)) (fun a b => by simp; (first | lia | omega)) b
  refine List.Pairwise.imp ?_ this
  intro a b h; simpa using h

theorem op_sort {D : Addr} {vs : List Value} {ns : List Int} {k : Nat} {Q : Value → Shared → Prop} (ho : s.heap.get? D = some (listOf vs.toArray k)) (hi : IntsAre vs ns) (h64 : vs.length < 64)
    (h : ∀ h' its c, (∀ b o, b ≠ D → s.heap.get? b = some o → h'.get? b = some o) → h'.get? D = some (listOf its c) → IntsAre its.toList (isort ns) → Q .none { s with heap := h' }) :
    wpAny (model prog w) A (call (.builtin "list.sort") [.ref D]) Q E s := by
  refine wpAny_call_entry PyProof.Rows.slot_list_sort ⟨_, ho, rfl⟩ PyProof.Rows.entry_list_sort (list_sort_tree ho hi h64 fun out ns' a1 a2 a3 => ⟨.none, rfl, ?_⟩) (PyProof.Rows.args_list_sort _)
  obtain ⟨e, he⟩ := sortedHeap_at (out := out) ho
  refine h _ out e (fun b o hb z => ?_) he (isort_uniq a2 a3 ▸ a1)
  rw [sortedHeap_old hb (Heap.lt_size z)]; exact z

theorem ints_of_places {vs : List Value} {ns : List Int} (hl : vs.length = ns.length) (h : ∀ (j : Nat) (v : Value), vs[j]? = some v → ∃ t, v = .int (ns.getD j 0) t) : IntsAre vs ns := by
  induction vs generalizing ns with
  | nil => cases ns with
    | nil => exact .nil
    | cons _ _ => simp at hl
  | cons v r ih => cases ns with
    | nil => simp at hl
    | cons a t =>
      obtain ⟨u, e⟩ := h 0 v rfl
      simp at e
      subst e
      exact .cons a u (ih (by simpa using hl) fun j x hx => by simpa using h (j + 1) x (by simpa using hx))

theorem dictAt_of {κ : Type} [DecidableEq κ] {knd : PySem.KeyKind prog w κ} {h : Heap} {x : Addr} {kvs : List (κ × Value)} (d : h.DictOf knd x kvs) : ∃ ep, h.DictAt knd x kvs ep :=
  d.elim fun o z => z.elim fun es z => z.elim fun ep z => ⟨ep, o, es, z⟩

theorem op_sorted (H : GOk G) (R : Rp G p σ s.heap) (hh : A.handled = none) {q : V × Sto} (hc : VR G.base p σ.length s.heap c v) (e : evBi σ .sorted [v] = some q) :
    wpAny (model G.prog G.w) A (call (.builtin "sorted") [c]) (OP G p σ s q.1 q.2) E s := by
  obtain ⟨n, hn, e⟩ := bnd e
  obtain ⟨m, hm, e⟩ := bnd e
  refine gdK (P := fun q => wpAny _ _ _ (OP G p σ s q.1 q.2) E s) e fun hl => ?_
  obtain ⟨o, ho, hm⟩ := bnd hm
  cases AObj.dI?_eq hm
  obtain ⟨rfl, hn⟩ := hc.ref? hn
  obtain ⟨hd, kvs, h1, h2⟩ := R.get ho
  obtain ⟨ep, hat⟩ := dictAt_of h1
  have hkl : kvs.length < 64 := h2.length ▸ hl
  have hln : ∀ {k : Nat}, k = kvs.length → k ≤ sizeLine := fun z => le_line (Nat.le_trans (Nat.le_of_lt (z ▸ hkl)) (Nat.le_of_ble_eq_true rfl))
  refine call_function_entry kind_sorted plain_sorted entry_sorted (args_sorted1 _) ?_
  unfold Builtin.«sorted»
  refine wpAny_bind (m := checkCount "sorted" 1 1 _) (wpAny_pure ?_)
  refine wpAny_bind (kdu_collect (A := A.in1) (kdl_dict (knd := PySem.intKind G.prog G.w) (kvs := kvs) (ep := ep) (ne_sys H R hn)) hh hat (hln rfl) fun h' tk acc hk hacc => ?_)
  have hal : acc.toList.length = kvs.length := by rw [Array.length_toList]; exact hacc.1
  refine wpAny_bind (wpAny_newList ?_ (hln hacc.1))
  have hi : IntsAre acc.toList (m.map (·.1)) := by
    rw [← h2.keys]
    refine ints_of_places (by rw [List.length_map]; exact hal) fun j x hx => ?_
    obtain ⟨k, y, hy, hk'⟩ := hacc.2 j x (by rw [← Array.getElem?_toList]; exact hx)
    obtain ⟨t, rfl⟩ := Value.isInt_shape hk'
    exact ⟨t, by simp [List.getD, hy]⟩
  refine wpAny_bind (wpAny_holding (op_sort (Heap.get?_push_size _ rfl) hi (hal ▸ hkl) fun h'' its c a1 a2 a3 => ?_))
  refine wpAny_pure ⟨_, rfl, ?_⟩
  have hnone : s.heap.get? h'.objs.size = none := by
    cases z : s.heap.get? h'.objs.size with
    | none => rfl
    | some o => exact absurd (Heap.lt_size (hk _ _ z)) (Nat.lt_irrefl _)
  exact OP.newList (tk := tk) R (fun b o z => a1 b o (Nat.ne_of_lt (Heap.lt_size (hk b o z))) (Heap.get?_push_of_some _ (hk b o z))) hnone a2 (VRs.ofInts a3)
end
end Mine
namespace Mine
open PySem PySem.W PySem.Calls PyProof.Rows

noncomputable def allFd : List Fd := List.finRange 20
theorem mem_allFd (f : Fd) : f ∈ allFd := List.mem_finRange f
theorem fd_inj {a b : Fd} (h : a.str = b.str) : a = b := (by decide +kernel : ∀ a b : Fd, a.str = b.str → a = b) a b h
theorem isStr_eq (x y : Str) (t : Tok) : (Value.str x t).isStr y = (x == y) := rfl

structure ClsOk (K : Frag) (C : Addr) : Prop where
  ga : findIn K (.ref C) "__getattribute__" = some (some (.builtin "object.__getattribute__"))
  gt : findIn K (.ref C) "__getattr__" = some none
  sa : findIn K (.ref C) "__setattr__" = some (some (.builtin "object.__setattr__"))
  po : plainOver K C = true
  hd : hasDictIn K C = true
  fld : ∀ f : Fd, findIn K (.ref C) f.str = some none

section
variable {P : Params} {vr : Value → V → Prop}
theorem Ents.find {es : List DictEntry} {fs : List (Fd × V)} (x : Ents (KF P) vr es fs) {f : Fd} {v : V} (e : aget fs f = some v) :
    ∃ en, es.find? (fun y => y.key.isStr f.str) = some en ∧ vr en.val v := by
  induction x with
  | nil => cases e
  | @cons k key c hs v' es m hk hv _ ih =>
    obtain ⟨⟨t, rfl⟩, _⟩ := hk
    rw [List.find?_cons, isStr_eq]
    rw [aget_cons] at e
    by_cases hkf : k = f
    · subst hkf
      rw [if_pos rfl] at e
      cases e
      rw [beq_self_eq_true]
      exact ⟨_, rfl, hv⟩
    · rw [if_neg hkf] at e
      rw [beq_eq_false_iff_ne.mpr fun z => hkf (fd_inj z)]
      exact ih e
theorem Ents.noRef {es : List DictEntry} {fs : List (Fd × V)} (x : Ents (KF P) vr es fs) : es.any (·.refKey) = false := by
  induction x with
  | nil => rfl
  | cons hk hv _ ih =>
    obtain ⟨⟨t, rfl⟩, _⟩ := hk
    rw [List.any_cons, ih]; rfl
theorem Ents.miss {es : List DictEntry} {fs : List (Fd × V)} (x : Ents (KF P) vr es fs) {name : Str} (h : ∀ f : Fd, f.str ≠ name) : es.find? (fun y => y.key.isStr name) = none := by
  induction x with
  | nil => rfl
  | @cons k key c hs v' es m hk hv _ ih =>
    obtain ⟨⟨t, rfl⟩, _⟩ := hk
    rw [List.find?_cons, isStr_eq, beq_eq_false_iff_ne.mpr (h k)]
    exact ih
theorem Ents.lookIn {es : List DictEntry} {fs : List (Fd × V)} {n : Nat} (x : Ents (KF P) vr es fs) {f : Fd} {v : V} (e : aget fs f = some v) :
    ∃ c, PySem.W.lookIn f.str (dictOf es n) = some (some c) ∧ vr c v := by
  obtain ⟨en, h1, h2⟩ := x.find e
  refine ⟨_, ?_, h2⟩
  unfold PySem.W.lookIn
  dsimp only
  rw [h1]
theorem Ents.lookNone {es : List DictEntry} {fs : List (Fd × V)} {n : Nat} (x : Ents (KF P) vr es fs) {name : Str} (h : ∀ f : Fd, f.str ≠ name) :
    PySem.W.lookIn name (dictOf es n) = some none := by
  unfold PySem.W.lookIn
  dsimp only
  rw [x.miss h]
  dsimp only
  rw [x.noRef, if_neg (by decide)]
theorem Ents.length {es : List DictEntry} {fs : List (Fd × V)} (x : Ents (KF P) vr es fs) : es.length = fs.length := by
  induction x with
  | nil => rfl
  | cons _ _ _ ih => exact congrArg Nat.succ ih
theorem Ents.put {es : List DictEntry} {fs : List (Fd × V)} (x : Ents (KF P) vr es fs) {f : Fd} {c : Value} {v : V} {t : Tok} (hc : vr c v) :
    Ents (KF P) vr (putL f.str (PyData.keyHash P f.str) (.str f.str t) c es) (aset fs f v) := by
  induction x with
  | nil => exact .cons ⟨⟨t, rfl⟩, rfl⟩ hc .nil
  | @cons k key c' hs v' es m hk hv r ih =>
    unfold putL aset
    have hk' := hk
    obtain ⟨⟨u, rfl⟩, _⟩ := hk
    by_cases hkf : k = f
    · subst hkf
      rw [isStr_eq, beq_self_eq_true, if_pos rfl, if_pos rfl]
      exact .cons hk' hc r
    · rw [isStr_eq, beq_eq_false_iff_ne.mpr fun z => hkf (fd_inj z), if_neg hkf, if_neg Bool.false_ne_true]
      exact .cons hk' hv ih
end
theorem aset_nodup {κ : Type} [DecidableEq κ] (m : List (κ × V)) (hn : (m.map (·.1)).Nodup) (k : κ) (v : V) : ((aset m k v).map (·.1)).Nodup := by
  rw [aset_spec m hn k v]
  split
  · have : (m.map (fun p => if p.1 = k then (p.1, v) else p)).map (·.1) = m.map (·.1) := by
      rw [List.map_map]
      apply List.map_congr_left
      intro p _
      simp only [Function.comp]
      split <;> rfl
    rw [this]; exact hn
  · rename_i h
    rw [List.map_append, List.nodup_append]
    refine ⟨hn, by simp, ?_⟩
    intro a ha b hb
    simp at hb
    subst hb
    rintro rfl
    apply h
    obtain ⟨p, hp, e⟩ := List.mem_map.mp ha
    exact List.any_eq_true.mpr ⟨p, hp, by simp [e]⟩

section
variable {prog : Program} {w : World} {A : Around} {E : Value → Shared → Prop} {s : Shared} {G : G0} {p : Pl} {σ σ' : Sto} {c c' d : Value} {u v : V} {h' : Heap} {tk : Nat} {K : Frag}

theorem inst_at {h : Heap} (R : Rp G p σ h) {n : Nat} {C : Cls} {fs : List (Fd × V)} (e : σ[n]? = some (.inst C fs)) :
    ∃ es k, InstAt h (p.φ n) (instObj (G.ca C) (p.δ n)) (G.ca C) (some (dictOf es k)) ∧ h.get? (p.δ n) = some (dictOf es k) ∧ Ents (KF G.w.params) (VR G.base p σ.length h) es fs ∧ (fs.map (·.1)).Nodup := by
  obtain ⟨_, h1, es, k, h2, h3, h4⟩ := sto_at R e
  exact ⟨es, k, ⟨h1, rfl, rfl, h2⟩, h2, h3, h4⟩
theorem fld_some {n : Nat} {f : Fd} (e : σ.fld n f = some u) : ∃ C fs, σ[n]? = some (.inst C fs) ∧ aget fs f = some u := by
  obtain ⟨q, h1, h2⟩ := bnd e
  obtain ⟨o, h3, h4⟩ := bnd h1
  exact ⟨q.1, q.2, AObj.inst?_eq h4 ▸ h3, h2⟩
theorem cls_some {n : Nat} {C : Cls} (e : σ.cls n = some C) : ∃ fs, σ[n]? = some (.inst C fs) := by
  obtain ⟨q, h1, rfl⟩ := Option.map_eq_some_iff.mp e
  obtain ⟨o, h3, h4⟩ := bnd h1
  exact ⟨q.2, AObj.inst?_eq h4 ▸ h3⟩

theorem VR.handed {h : Heap} {n : Nat} (x : VR G.base p n h c v) : handedIn c = true := by cases x <;> rfl

theorem op_attr (X : K.In s.heap) (HC : ∀ C : Cls, ClsOk K (G.ca C)) (R : Rp G p σ s.heap) {n : Nat} {f : Fd} {b : Bool} (e : σ.fld n f = some u) :
    wpAny (model prog w) A (getAttr (.ref (p.φ n)) f.str b) (OP G p σ s u σ) E s := by
  obtain ⟨C, fs, e1, e2⟩ := fld_some e
  obtain ⟨es, k, I, _, h3, _⟩ := inst_at R e1
  obtain ⟨cv, h4, h5⟩ := h3.lookIn (n := k) e2
  exact get_value X I (HC C).ga (findObj_own (HC C).hd ((HC C).fld f) rfl h4) h5.handed (OP.same R h5)

theorem op_setattr (X : K.In s.heap) (HC : ∀ C : Cls, ClsOk K (G.ca C)) (hw : w = G.w) (R : Rp G p σ s.heap) {f : Fd} (hc : VR G.base p σ.length s.heap c v) (hd : VR G.base p σ.length s.heap d u) (e : setFld σ u f v = some σ') :
    wpAny (model prog w) A (setAttr d f.str c) (fun _ s' => UP G p σ s σ' s') E s := by
  subst hw
  obtain ⟨n, hn, e⟩ := bnd e
  obtain ⟨⟨C, fs⟩, h1, e⟩ := bnd e
  obtain ⟨o, e1, h4⟩ := bnd h1
  cases AObj.inst?_eq h4
  refine gdK (P := fun σ' => wpAny _ _ _ (fun _ s' => UP G p σ s σ' s') E s) e fun hll => ?_
  obtain ⟨rfl, hn⟩ := hd.ref? hn
  obtain ⟨es, k, I, h2, h3, h4⟩ := inst_at R e1
  have fin : ∀ h' tk es' k', Ents (KF G.w.params) (VR G.base p σ.length s.heap) es' (aset fs f v) → Heap.SameBut (p.δ n) s.heap h' → h'.get? (p.δ n) = some (dictOf es' k') → UP G p σ s (σ.set n (.inst C (aset fs f v))) { s with heap := h', toks := tk } := fun h' tk es' k' h5 hs D' =>
    have hx : p.φ n ≠ p.δ n := fun z => nomatch (I.at_.symm.trans ((congrArg s.heap.get? z).trans h2))
    have q := R.turn (o := .inst C (aset fs f v)) hn (.inr rfl) hs.2 (isSome_of D') fun vr m1 _ => ⟨(hs.2 _ hx).trans I.at_, _, _, D', h5.mono (fun _ _ _ z => z) m1, aset_nodup _ h4 _ _⟩
    ⟨h', tk, p, q.1, q.2⟩
  refine set_plain X I (HC C).sa ?_
  have ht : takerIn K (G.ca C) f.str = some none := by unfold takerIn; rw [(HC C).fld f]; rfl
  refine osa_open (s := { s with toks := s.toks + 1 }) X I (HC C).po ht fun b => ?_
  obtain ⟨cd, hcl, hd'⟩ := any_some (HC C).hd
  refine wpAny_bind (wpAny_pure (wpAny_bind (wpAny_bind (wpAny_loadPart (I.at_) (wpAny_bind (Looks.here (s := { s with toks := s.toks + 1 }) (looks_clsIn X hcl) ?_))))))
  rw [hd']
  refine wpAny_pure (a := some (p.δ n)) (wpAny_bind (wpAny_pure (wpAny_bind ?_)))
  unfold nsSet
  refine wpAny_bind (wpAny_bind (wpAny_askSetting (wpAny_pure (wpAny_bind (wpAny_mkText (wpAny_bind (wpAny_loadPart h2 ?_)))))))
  dsimp only
  have cc : (!(es.toArray).any (·.key.isStr f.str) && (es.toArray).any (·.refKey)) = false := by
    have q : (es.toArray).any (·.refKey) = false := by rw [← Array.any_toList]; exact h3.noRef
    rw [q, Bool.and_false]
  rw [aRefKeyMayBeTheName_at, cc]
  have hput := putName_dict f.str (PyData.keyHash G.w.params f.str) (.str f.str (s.toks + 1)) c es k
  refine wpAny_updatePart h2 ?_
  have h5 := h3.put (f := f) (c := c) (v := v) (t := s.toks + 1) hc
  have hs : Heap.SameBut (p.δ n) s.heap (s.heap.update (p.δ n) (Obj.putName f.str (PyData.keyHash G.w.params f.str) (.str f.str (s.toks + 1)) c)) := Heap.SameBut.update ..
  have D' : (s.heap.update (p.δ n) (Obj.putName f.str (PyData.keyHash G.w.params f.str) (.str f.str (s.toks + 1)) c)).get? (p.δ n) = some (dictOf (putL f.str (PyData.keyHash G.w.params f.str) (.str f.str (s.toks + 1)) c es) (putN f.str es k)) :=
    (Heap.get?_update_self _ h2 (by rw [hput]; rfl)).trans (by rw [hput])
  refine wpAny_bind (wpAny_lookBehind D' (pastItsLine_dict ?_) (wpAny_pure (fin _ _ _ _ h5 hs D')))
  rw [List.size_toArray, h5.length]
  exact Nat.le_succ_of_le (le_line (Nat.le_trans (aset_length fs f v) (Nat.le_trans (Nat.succ_le_of_lt (Nat.lt_succ_of_lt hll)) (Nat.le_of_ble_eq_true rfl))))

theorem op_method {pl : Sem Bool} {Q : Value × List Value → Shared → Prop} (X : K.In s.heap) (HC : ∀ C : Cls, ClsOk K (G.ca C)) (R : Rp G p σ s.heap) {n : Nat} {C : Cls} {name : Str} {fa : Addr}
    (hm : findIn K (.ref (G.ca C)) name = some (some (.ref fa))) (ht : typeIn K (.ref fa) = some (.type "function")) (hn : ∀ f : Fd, f.str ≠ name) (e : σ.cls n = some C) (h : Q (.ref fa, [.ref (p.φ n)]) s) :
    wpAny (model prog w) A (getMethod (.ref (p.φ n)) name pl) Q E s := by
  obtain ⟨fs, e1⟩ := cls_some e
  obtain ⟨es, k, I, _, h3, _⟩ := inst_at R e1
  refine method_fn X I (HC C).ga (HC C).gt hm ht ?_ h
  unfold shadowIn
  dsimp only
  rw [h3.lookNone hn]; rfl
end
end Mine
namespace Mine
open PySem PySem.W PySem.Calls PyProof.Rows

noncomputable def Own (env : Env) (b : Addr) : Prop := b = env.locals ∨ ∃ x, env.cells.lookup x = some b

structure ER (G : G0) (env : Env) (p : Pl) (n : Nat) (h : Heap) (l : Locs) : Prop where
  kind : env.scope.kind = .function
  glob : env.globals = mainGlobals
  bi : env.builtins = builtinsNs
  ns : ∃ m, h.Ns env.locals m ∧ ∀ x v, l x = some v → (env.kindOf x.str = some .local → ∃ c, m x.str = some c ∧ VR G.base p n h c v) ∧
    (env.kindOf x.str = some .cell ∨ env.kindOf x.str = some .free → ∃ a c, env.cells.lookup x.str = some a ∧ h.IsCell a (some c) ∧ VR G.base p n h c v)
  offL : ∀ k, k < n → p.φ k ≠ env.locals ∧ p.δ k ≠ env.locals
  newL : G.base.get? env.locals = none
  cell : ∀ x a, env.cells.lookup x = some a → (∃ c, h.IsCell a c) ∧ a ≠ env.locals ∧ G.base.get? a = none ∧ ∀ k, k < n → p.φ k ≠ a ∧ p.δ k ≠ a
  all : ∀ x, env.kindOf x = some .cell ∨ env.kindOf x = some .free → (env.cells.lookup x).isSome = true
  sep : ∀ x y a, env.cells.lookup x = some a → env.cells.lookup y = some a → x = y

/-- the post of a step -/
inductive Post {α : Type} (G : G0) (W : Addr → Prop) (p : Pl) (σ : Sto) (s : Shared) (R : Pl → Sto → Heap → α → Prop) (a : α) : Shared → Prop
  | mk (σ' : Sto) (h' : Heap) (tk : Nat) (p' : Pl) : Stp W p σ.length s.heap p' σ'.length h' → Rp G p' σ' h' → R p' σ' h' a → Post G W p σ s R a { s with heap := h', toks := tk }
inductive RE (G : G0) (Q : V → Sto → Prop) (p : Pl) (σ : Sto) (h : Heap) (c : Value) : Prop
  | mk (u : V) : VR G.base p σ.length h c u → Q u σ → RE G Q p σ h c
inductive REs (G : G0) (n : Nat) (Q : List V → Sto → Prop) (p : Pl) (σ : Sto) (h : Heap) (cs : List Value) : Prop
  | mk (us : List V) : VRs G.base p σ.length h cs us → Q us σ → cs.length = n → REs G n Q p σ h cs
noncomputable def RB (Q : Bool → Sto → Prop) (_ : Pl) (σ : Sto) (_ : Heap) (b : Bool) : Prop := Q b σ
inductive FlR (base : Heap) (p : Pl) (n : Nat) (h : Heap) : Flow → Fl → Prop
  | next : FlR base p n h .next .next
  | brk : FlR base p n h .brk .brk
  | cont : FlR base p n h .cont .cont
  | ret {c : Value} {v : V} : VR base p n h c v → FlR base p n h (.ret c) (.ret v)
inductive RF (G : G0) (env : Env) (Q : Fl → Locs → Sto → Prop) (p : Pl) (σ : Sto) (h : Heap) (f : Flow) : Prop
  | mk (fl : Fl) (l : Locs) : FlR G.base p σ.length h f fl → ER G env p σ.length h l → Q fl l σ → RF G env Q p σ h f

section
variable {α β : Type} {M : Model} {G : G0} {W W' : Addr → Prop} {p p₁ : Pl} {σ σ₁ : Sto} {s : Shared} {h₁ : Heap} {tk : Nat} {R R' : Pl → Sto → Heap → α → Prop} {a : α} {s' : Shared} {A : Around} {E : Value → Shared → Prop}
theorem Post.afterW (S : Stp W p σ.length s.heap p₁ σ₁.length h₁) (h : Post G W p₁ σ₁ { s with heap := h₁, toks := tk } R a s') : Post G W p σ s R a s' := by
  obtain ⟨σ', h', tk', p', S', R', r⟩ := h
  exact ⟨σ', h', tk', p', S.trans S' fun _ _ w => w, R', r⟩
theorem Post.after (S : Stp noW p σ.length s.heap p₁ σ₁.length h₁) (h : Post G W p₁ σ₁ { s with heap := h₁, toks := tk } R a s') : Post G W p σ s R a s' := h.afterW (S.weak fun _ _ w => w.elim)
theorem Post.mono (h : Post G W p σ s R a s') (k : ∀ p σ h a, R p σ h a → R' p σ h a) : Post G W p σ s R' a s' := by
  obtain ⟨σ', h', tk', p', S', r1, r⟩ := h
  exact ⟨σ', h', tk', p', S', r1, k _ _ _ _ r⟩
theorem wp_to {m : Sem α} {T T' : α → Shared → Prop} (h : wpAny M A m T E s) (k : ∀ a s', T a s' → T' a s') : wpAny M A m T' E s := wpAny_mono h k fun _ _ e => e

theorem Post.map {m : Sem α} {T : α → Shared → Prop} (h : wpAny M A m (Post G W p σ s R) E s)
    (k : ∀ a σ₁ h₁ tk p₁, Stp W p σ.length s.heap p₁ σ₁.length h₁ → Rp G p₁ σ₁ h₁ → R p₁ σ₁ h₁ a → T a { s with heap := h₁, toks := tk }) :
    wpAny M A m T E s := wp_to h fun a s₁ z => by
  obtain ⟨σ₁, h₁, tk, p₁, S, r1, r⟩ := z
  exact k a σ₁ h₁ tk p₁ S r1 r
theorem Post.seq {m : Sem α} {f : α → Sem β} {Rb : Pl → Sto → Heap → β → Prop} (h : wpAny M A m (Post G noW p σ s R) E s)
    (k : ∀ a σ₁ h₁ tk p₁, Stp noW p σ.length s.heap p₁ σ₁.length h₁ → Rp G p₁ σ₁ h₁ → R p₁ σ₁ h₁ a → wpAny M A (f a) (Post G W p₁ σ₁ { s with heap := h₁, toks := tk } Rb) E { s with heap := h₁, toks := tk }) :
    wpAny M A m (fun a s₁ => wpAny M A (f a) (Post G W p σ s Rb) E s₁) E s :=
  Post.map h fun a σ₁ h₁ tk p₁ S r1 r => wp_to (k a σ₁ h₁ tk p₁ S r1 r) fun _ _ z => z.after S

theorem OP.post {u : V} {σ' : Sto} {c : Value} {Q : V → Sto → Prop} (h : OP G p σ s u σ' c s') (q : Q u σ') : Post G noW p σ s (RE G Q) c s' := by
  obtain ⟨h', tk, p', S, r, x⟩ := h
  exact ⟨σ', h', tk, p', S, r, u, x, q⟩
theorem UP.post {σ' : Sto} (h : UP G p σ s σ' s') (q : ∀ p h, R p σ' h a) : Post G noW p σ s R a s' := by
  obtain ⟨h', tk, p', S, r⟩ := h
  exact ⟨σ', h', tk, p', S, r, q _ _⟩
theorem wp_op {m : Sem Value} {u : V} {σ' : Sto} {Q : V → Sto → Prop} (h : wpAny M A m (OP G p σ s u σ') E s) (q : Q u σ') : wpAny M A m (Post G noW p σ s (RE G Q)) E s := wp_to h fun _ _ z => z.post q
theorem Post.here (r : Rp G p σ h₁) (S : Stp W p σ.length s.heap p σ.length h₁) (x : R p σ h₁ a) : Post G W p σ s R a { s with heap := h₁, toks := tk } := ⟨σ, h₁, tk, p, S, r, x⟩
theorem Post.same (r : Rp G p σ s.heap) (x : R p σ s.heap a) : Post G W p σ s R a { s with toks := tk } := ⟨σ, s.heap, tk, p, .refl, r, x⟩
end

theorem opt_some {α : Type} {o : Option α} {k : α → Prop} (h : opt o k) : ∃ a, o = some a ∧ k a := by
  cases o with
  | none => exact h.elim
  | some a => exact ⟨a, rfl, h⟩

section
variable {M : Model} {A : Around} {E : Value → Shared → Prop} {s : Shared} {G : G0} {p p' : Pl} {σ σ' : Sto} {c : Value} {v : V} {h h' : Heap} {env : Env} {l : Locs}

theorem cell_keep {h h' : Heap} {a : Addr} {c : Option Value} (x : h.IsCell a c) (k : ∀ o, h.get? a = some o → h'.get? a = some o) : h'.IsCell a c := x.imp fun o => And.imp (k o) id

theorem ns_alive {a : Addr} {m : Str → Option Value} (hn : h.Ns a m) : (h.get? a).isSome = true := hn.elim fun _ z => z.elim fun _ z => z.elim fun _ z => isSome_of z.1
theorem cell_alive {a : Addr} {c : Option Value} (hn : h.IsCell a c) : (h.get? a).isSome = true := hn.elim fun _ z => isSome_of z.1
theorem ER.keep (X : ER G env p σ.length h l) (k : ∀ b, Own env b → ∀ o, h.get? b = some o → h'.get? b = some o) (T : Tups h h') (hl : σ.length ≤ σ'.length) (ha : ∀ j, j < σ.length → p'.φ j = p.φ j ∧ p'.δ j = p.δ j)
    (hf : ∀ j, σ.length ≤ j → j < σ'.length → h.get? (p'.φ j) = none ∧ h.get? (p'.δ j) = none) : ER G env p' σ'.length h' l := by
  obtain ⟨m, hn, hm⟩ := X.ns
  have aliveL := ns_alive hn
  have keepL : ∀ o, h.get? env.locals = some o → h'.get? env.locals = some o := k _ (.inl rfl)
  have keepC : ∀ x a, env.cells.lookup x = some a → ∀ o, h.get? a = some o → h'.get? a = some o := fun x a e => k _ (.inr ⟨x, e⟩)
  have off : ∀ b, (h.get? b).isSome = true → (∀ k, k < σ.length → p.φ k ≠ b ∧ p.δ k ≠ b) → ∀ k, k < σ'.length → p'.φ k ≠ b ∧ p'.δ k ≠ b := fun b hb ho k hk => by
    rcases Nat.lt_or_ge k σ.length with q | q
    · rw [(ha k q).1, (ha k q).2]; exact ho k q
    · have f := hf k q hk
      exact ⟨fun z => not_here f.1 hb z.symm, fun z => not_here f.2 hb z.symm⟩
  have mv : ∀ {c v}, VR G.base p σ.length h c v → VR G.base p' σ'.length h' c v := fun z => z.mono hl (fun j hj => (ha j hj).1) T
  refine ⟨X.kind, X.glob, X.bi, ⟨m, hn.at' keepL, fun x v e => ⟨fun hk => ?_, fun hk => ?_⟩⟩, off _ aliveL X.offL, X.newL, fun x a e => ?_, X.all, X.sep⟩
  · obtain ⟨c, h1, h2⟩ := (hm x v e).1 hk
    exact ⟨c, h1, mv h2⟩
  · obtain ⟨a, c, h1, h2, h3⟩ := (hm x v e).2 hk
    exact ⟨a, c, h1, cell_keep h2 (keepC _ a h1), mv h3⟩
  · obtain ⟨⟨c, hc⟩, h1, h2, h3⟩ := X.cell x a e
    exact ⟨⟨c, cell_keep hc (keepC x a e)⟩, h1, h2, off a (cell_alive hc) h3⟩
theorem ER.offAll (X : ER G env p σ.length h l) {b : Addr} (hb : Own env b) : ∀ k, k < σ.length → p.φ k ≠ b ∧ p.δ k ≠ b := by
  rcases hb with rfl | ⟨x, e⟩
  · exact X.offL
  · exact (X.cell x _ e).2.2.2
theorem ER.mono (X : ER G env p σ.length h l) (R : Rp G p σ h) {W : Addr → Prop} (S : Stp W p σ.length h p' σ'.length h') (hW : ∀ b, W b → ¬ Own env b) (hT : NoTupW W h) : ER G env p' σ'.length h' l :=
  X.keep (fun b hb o e => S.kept b o e (X.offAll hb) fun w => hW b w hb) (S.tups R hT) S.len S.agree S.fresh
theorem ER.sub (X : ER G env p σ.length h l) {l' : Locs} (hs : ∀ x v, l' x = some v → l x = some v) : ER G env p σ.length h l' := by
  obtain ⟨m, hn, hm⟩ := X.ns
  exact ⟨X.kind, X.glob, X.bi, ⟨m, hn, fun x v e => hm x v (hs x v e)⟩, X.offL, X.newL, X.cell, X.all, X.sep⟩
theorem ER.step (X : ER G env p σ.length h l) (R : Rp G p σ h) (S : Stp noW p σ.length h p' σ'.length h') : ER G env p' σ'.length h' l := X.mono R S (fun _ w => w.elim) noTupW_no

theorem nm_debug (x : Nm) : (x.str == ("__debug__" : Str)) = false := (by decide +kernel : ∀ x : Nm, (x.str == ("__debug__" : Str)) = false) x
theorem nm_classdict (x : Nm) : (x.str == ("__classdict__" : Str)) = false := (by decide +kernel : ∀ x : Nm, (x.str == ("__classdict__" : Str)) = false) x
theorem nm_inj {a b : Nm} (h : a.str = b.str) : a = b := (by decide +kernel : ∀ a b : Nm, a.str = b.str → a = b) a b h

noncomputable def bound (k : Option NameKind) : Bool := k == some .local || k == some .cell || k == some .free
theorem ER.load (X : ER G env p σ.length s.heap l) {x : Nm} (hk : bound (env.kindOf x.str) = true) (e : l x = some v) {Q : Value → Shared → Prop} (q : ∀ c, VR G.base p σ.length s.heap c v → Q c s) : wpAny M A (loadName env x.str) Q E s := by
  obtain ⟨m, hn, hm⟩ := X.ns
  unfold bound at hk
  rw [Bool.or_eq_true, Bool.or_eq_true, beq_iff_eq, beq_iff_eq, beq_iff_eq] at hk
  rcases hk with (hk | hk) | hk
  · obtain ⟨c, h1, h2⟩ := (hm x v e).1 hk
    exact wpAny_loadName_local X.kind hk hn h1 (q c h2)
  · obtain ⟨a, c, h1, h2, h3⟩ := (hm x v e).2 (.inl hk)
    exact wpAny_loadName_cell X.kind hk h1 h2 (q c h3)
  · obtain ⟨a, c, h1, h2, h3⟩ := (hm x v e).2 (.inr hk)
    exact wpAny_loadName_free X.kind hk h1 h2 (q c h3) (nm_classdict x)

theorem ns_noTup {a : Addr} {m : Str → Option Value} (hn : h.Ns a m) (items : Array Value) : ¬ h.IsTuple a items := by
  obtain ⟨o, es, ep, e, hd, _⟩ := hn
  exact fun ⟨_, e', _, _, hd'⟩ => nomatch hd.symm.trans ((congrArg Obj.data (Option.some.inj (e.symm.trans e'))).trans hd')
theorem cell_noTup {a : Addr} {c : Option Value} (hn : h.IsCell a c) (items : Array Value) : ¬ h.IsTuple a items := by
  obtain ⟨o, e, hd⟩ := hn
  exact fun ⟨_, e', _, _, hd'⟩ => nomatch hd.symm.trans ((congrArg Obj.data (Option.some.inj (e.symm.trans e'))).trans hd')
theorem ER.noTup (X : ER G env p σ.length h l) : NoTupW (Own env) h := by
  rintro b items (rfl | ⟨x, e⟩)
  · obtain ⟨m, hn, _⟩ := X.ns; exact ns_noTup hn items
  · obtain ⟨⟨c, hc⟩, _⟩ := X.cell x b e; exact cell_noTup hc items
theorem ER.newOwn (X : ER G env p σ.length h l) : ∀ b, Own env b → G.base.get? b = none := by
  rintro b (rfl | ⟨x, e⟩)
  · exact X.newL
  · exact (X.cell x b e).2.2.1
theorem ER.offOwn (X : ER G env p σ.length h l) : ∀ j, j < σ.length → ¬ Own env (p.φ j) ∧ ¬ Own env (p.δ j) := by
  exact fun j hj => ⟨fun z => (X.offAll z j hj).1 rfl, fun z => (X.offAll z j hj).2 rfl⟩

/-- a place of the env's own changes -/
theorem own_step (X : ER G env p σ.length h l) (R : Rp G p σ h) (k : ∀ b, ¬ Own env b → ∀ o, h.get? b = some o → h'.get? b = some o) (al : ∀ b, (h.get? b).isSome = true → (h'.get? b).isSome = true) :
    Stp (Own env) p σ.length h p σ.length h' ∧ Rp G p σ h' :=
  ⟨⟨Nat.le_refl _, fun _ _ => ⟨rfl, rfl⟩, fun b o e _ hw => k b hw o e, al, fun _ h1 h2 => absurd h2 (Nat.not_lt.mpr h1)⟩,
    R.change (W := Own env) (fun b o e hw => k b hw o e) X.noTup X.newOwn X.offOwn⟩

theorem alive_of_same {a : Addr} (hs : Heap.SameBut a h h') (ha : (h'.get? a).isSome = true) : ∀ b, (h.get? b).isSome = true → (h'.get? b).isSome = true := fun b e => by
  by_cases z : b = a
  · rw [z]; exact ha
  · rw [hs.2 b z]; exact e

/-- a place of the env's own, x's, is stored at -/
theorem ER.put (X : ER G env p σ.length h l) (R : Rp G p σ h) {x : Nm} {b : Addr} {m m' : Str → Option Value} (hb : Own env b) (hs : Heap.SameBut b h h') (al : (h'.get? b).isSome = true) (hc : VR G.base p σ.length h c v)
    (hm : ∀ y u, y ≠ x → l y = some u → (env.kindOf y.str = some .local → ∃ c, m y.str = some c ∧ VR G.base p σ.length h c u) ∧ (env.kindOf y.str = some .cell ∨ env.kindOf y.str = some .free → ∃ a c, env.cells.lookup y.str = some a ∧ h.IsCell a (some c) ∧ VR G.base p σ.length h c u))
    (hn : h'.Ns env.locals m') (he : ∀ y : Nm, y ≠ x → m' y.str = m y.str) (h1 : env.kindOf x.str = some .local → m' x.str = some c) (h2 : env.kindOf x.str = some .cell ∨ env.kindOf x.str = some .free → env.cells.lookup x.str = some b ∧ h'.IsCell b (some c))
    (hx : ∀ y : Nm, env.cells.lookup y.str = some b → y = x) (hcb : ∀ y, env.cells.lookup y = some b → ∃ c, h'.IsCell b c) : Tups h h' ∧ Rp G p σ h' ∧ ER G env p σ.length h' (upd l x v) := by
  have q1 := own_step (h' := h') X R (fun y hy o e => (hs.2 y fun z => hy (z ▸ hb)).trans e) (alive_of_same hs al)
  have T : Tups h h' := q1.1.tups (σ' := σ) R X.noTup
  have mv : ∀ {c v}, VR G.base p σ.length h c v → VR G.base p σ.length h' c v := fun z => z.mono (Nat.le_refl _) (fun _ _ => rfl) T
  refine ⟨T, q1.2, X.kind, X.glob, X.bi, ⟨m', hn, fun y u e => ?_⟩, X.offL, X.newL, fun y a e => ?_, X.all, X.sep⟩
  · unfold upd at e
    by_cases hy : y = x
    · subst hy
      rw [if_pos rfl] at e; cases e
      exact ⟨fun z => ⟨c, h1 z, mv hc⟩, fun z => ⟨b, c, (h2 z).1, (h2 z).2, mv hc⟩⟩
    · rw [if_neg hy] at e
      exact ⟨fun k => ((hm y u hy e).1 k).imp fun _ => And.imp (fun z => (he y hy).trans z) mv,
        fun k => ((hm y u hy e).2 k).imp fun a => Exists.imp fun d z => ⟨z.1, cell_keep z.2.1 (fun o e => (hs.2 a fun w => hy (hx y (w ▸ z.1))).trans e), mv z.2.2⟩⟩
  · by_cases z : a = b
    · subst z; exact ⟨hcb y e, (X.cell y a e).2⟩
    · exact (X.cell y a e).imp (Exists.imp fun _ hd => cell_keep hd fun o e => (hs.2 a z).trans e) id
theorem ER.store' (X : ER G env p σ.length s.heap l) (R : Rp G p σ s.heap) {x : Nm} (hk : env.kindOf x.str = some .local ∨ env.kindOf x.str = some .cell) (hc : VR G.base p σ.length s.heap c v) {Q : Unit → Shared → Prop}
    (q : ∀ b h' tk, (env.kindOf x.str = some .local ∧ b = env.locals ∨ env.kindOf x.str = some .cell ∧ env.cells.lookup x.str = some b) → Heap.SameBut b s.heap h' → (h'.get? b).isSome = true → Tups s.heap h' → Rp G p σ h' → ER G env p σ.length h' (upd l x v) → Q () { s with heap := h', toks := tk }) :
    wpAny M A (storeName env x.str c) Q E s := by
  obtain ⟨m, hn, hm⟩ := X.ns
  rcases hk with hk | hk
  · refine wpAny_storeName_local hk hn (fun h' hn' hs => ?_) (by rw [X.kind]; rfl)
    obtain ⟨a1, a2, a3⟩ := X.put R (x := x) (.inl rfl) hs (ns_alive hn') hc (fun y u _ => hm y u) hn' (fun y hy => if_neg fun z => hy (nm_inj z)) (fun _ => if_pos rfl)
      (fun z => by rw [hk] at z; rcases z with z | z <;> cases z) (fun y z => absurd rfl (X.cell _ _ z).2.1) fun y z => absurd rfl (X.cell _ _ z).2.1
    exact q env.locals h' _ (.inl ⟨hk, rfl⟩) hs (ns_alive hn') a1 a2 a3
  · obtain ⟨a, ha⟩ := Option.isSome_iff_exists.mp (X.all _ (.inl hk))
    obtain ⟨⟨d₀, hd₀⟩, hne, hnew, hoff⟩ := X.cell _ a ha
    refine wpAny_storeName_cell X.kind hk ha hd₀ fun h' hc' hs => ?_
    obtain ⟨a1, a2, a3⟩ := X.put R (x := x) (.inr ⟨_, ha⟩) hs (cell_alive hc') hc (fun y u _ => hm y u) (hn.sameBut hs hne.symm) (fun _ _ => rfl) (fun z => nomatch hk.symm.trans z) (fun _ => ⟨ha, hc'⟩)
      (fun y z => nm_inj (X.sep _ _ _ z ha)) fun _ _ => ⟨_, hc'⟩
    exact q a h' s.toks (.inr ⟨hk, ha⟩) hs (cell_alive hc') a1 a2 a3
theorem ER.store (X : ER G env p σ.length s.heap l) (R : Rp G p σ s.heap) {x : Nm} (hk : env.kindOf x.str = some .local ∨ env.kindOf x.str = some .cell) (hc : VR G.base p σ.length s.heap c v) {Q : Unit → Shared → Prop}
    (q : ∀ h' tk, Stp (Own env) p σ.length s.heap p σ.length h' → Rp G p σ h' → ER G env p σ.length h' (upd l x v) → Q () { s with heap := h', toks := tk }) : wpAny M A (storeName env x.str c) Q E s :=
  X.store' R hk hc fun b h' tk hb hs al T R' X' => by
    have hO : Own env b := by
      rcases hb with ⟨_, rfl⟩ | ⟨_, hb⟩
      · exact .inl rfl
      · exact .inr ⟨_, hb⟩
    exact q h' tk (own_step (h' := h') X R (fun y hy o e => by rw [hs.2 y fun z => hy (z ▸ hO)]; exact e) (alive_of_same hs al)).1 R' X'
end
end Mine
set_option genInjectivity false
namespace Mine
open PySem PySem.W PySem.Calls PyProof.Rows

noncomputable def decB {p : Prop} (d : Decidable p) (f : p → Bool) : Bool := Decidable.casesOn d (fun _ => false) f
theorem of_dec {p : Prop} {d : Decidable p} {f : p → Bool} (h : decB d f = true) : p := by
  cases d with
  | isTrue e => exact e
  | isFalse _ => cases h
noncomputable def onConst (f : Const → Nat → Pos → Bool) (x : Expr) : Bool := decB (Nat.decEq x.ctorIdx 19) fun e => PySem.Expr.Constant.elim (motive_1 := fun _ => Bool) x e f
theorem onConst_el {f : Const → Nat → Pos → Bool} {P : Expr → Prop} {x : Expr} (h : onConst f x = true) (k : ∀ x0 x1 x2, f x0 x1 x2 = true → P (.Constant x0 x1 x2)) : P x :=
  PySem.Expr.Constant.elim (motive_1 := fun x => onConst f x = true → P x) x (of_dec h) (fun x0 x1 x2 h => k x0 x1 x2 h) h
noncomputable def onName (f : Str → Pos → Bool) (x : Expr) : Bool := decB (Nat.decEq x.ctorIdx 23) fun e => PySem.Expr.Name.elim (motive_1 := fun _ => Bool) x e f
theorem onName_el {f : Str → Pos → Bool} {P : Expr → Prop} {x : Expr} (h : onName f x = true) (k : ∀ x0 x1, f x0 x1 = true → P (.Name x0 x1)) : P x :=
  PySem.Expr.Name.elim (motive_1 := fun x => onName f x = true → P x) x (of_dec h) (fun x0 x1 h => k x0 x1 h) h
noncomputable def onAttr (f : Expr → Str → Pos → Bool) (x : Expr) : Bool := decB (Nat.decEq x.ctorIdx 20) fun e => PySem.Expr.Attribute.elim (motive_1 := fun _ => Bool) x e f
theorem onAttr_el {f : Expr → Str → Pos → Bool} {P : Expr → Prop} {x : Expr} (h : onAttr f x = true) (k : ∀ x0 x1 x2, f x0 x1 x2 = true → P (.Attribute x0 x1 x2)) : P x :=
  PySem.Expr.Attribute.elim (motive_1 := fun x => onAttr f x = true → P x) x (of_dec h) (fun x0 x1 x2 h => k x0 x1 x2 h) h
noncomputable def onTuple (f : List Expr → Nat → Pos → Bool) (x : Expr) : Bool := decB (Nat.decEq x.ctorIdx 25) fun e => PySem.Expr.Tuple.elim (motive_1 := fun _ => Bool) x e f
theorem onTuple_el {f : List Expr → Nat → Pos → Bool} {P : Expr → Prop} {x : Expr} (h : onTuple f x = true) (k : ∀ x0 x1 x2, f x0 x1 x2 = true → P (.Tuple x0 x1 x2)) : P x :=
  PySem.Expr.Tuple.elim (motive_1 := fun x => onTuple f x = true → P x) x (of_dec h) (fun x0 x1 x2 h => k x0 x1 x2 h) h
noncomputable def onList (f : List Expr → Pos → Bool) (x : Expr) : Bool := decB (Nat.decEq x.ctorIdx 24) fun e => PySem.Expr.List.elim (motive_1 := fun _ => Bool) x e f
theorem onList_el {f : List Expr → Pos → Bool} {P : Expr → Prop} {x : Expr} (h : onList f x = true) (k : ∀ x0 x1, f x0 x1 = true → P (.List x0 x1)) : P x :=
  PySem.Expr.List.elim (motive_1 := fun x => onList f x = true → P x) x (of_dec h) (fun x0 x1 h => k x0 x1 h) h
noncomputable def onDict (f : List (Option Expr) → List Expr → Pos → Bool) (x : Expr) : Bool := decB (Nat.decEq x.ctorIdx 6) fun e => PySem.Expr.Dict.elim (motive_1 := fun _ => Bool) x e f
theorem onDict_el {f : List (Option Expr) → List Expr → Pos → Bool} {P : Expr → Prop} {x : Expr} (h : onDict f x = true) (k : ∀ x0 x1 x2, f x0 x1 x2 = true → P (.Dict x0 x1 x2)) : P x :=
  PySem.Expr.Dict.elim (motive_1 := fun x => onDict f x = true → P x) x (of_dec h) (fun x0 x1 x2 h => k x0 x1 x2 h) h
noncomputable def onSub (f : Expr → Expr → Pos → Bool) (x : Expr) : Bool := decB (Nat.decEq x.ctorIdx 21) fun e => PySem.Expr.Subscript.elim (motive_1 := fun _ => Bool) x e f
theorem onSub_el {f : Expr → Expr → Pos → Bool} {P : Expr → Prop} {x : Expr} (h : onSub f x = true) (k : ∀ x0 x1 x2, f x0 x1 x2 = true → P (.Subscript x0 x1 x2)) : P x :=
  PySem.Expr.Subscript.elim (motive_1 := fun x => onSub f x = true → P x) x (of_dec h) (fun x0 x1 x2 h => k x0 x1 x2 h) h
noncomputable def onSlice (f : Option Expr → Option Expr → Option Expr → Pos → Bool) (x : Expr) : Bool := decB (Nat.decEq x.ctorIdx 26) fun e => PySem.Expr.Slice.elim (motive_1 := fun _ => Bool) x e f
theorem onSlice_el {f : Option Expr → Option Expr → Option Expr → Pos → Bool} {P : Expr → Prop} {x : Expr} (h : onSlice f x = true) (k : ∀ x0 x1 x2 x3, f x0 x1 x2 x3 = true → P (.Slice x0 x1 x2 x3)) : P x :=
  PySem.Expr.Slice.elim (motive_1 := fun x => onSlice f x = true → P x) x (of_dec h) (fun x0 x1 x2 x3 h => k x0 x1 x2 x3 h) h
noncomputable def onUn (f : UnaryOp → Expr → Pos → Bool) (x : Expr) : Bool := decB (Nat.decEq x.ctorIdx 3) fun e => PySem.Expr.UnaryOp.elim (motive_1 := fun _ => Bool) x e f
theorem onUn_el {f : UnaryOp → Expr → Pos → Bool} {P : Expr → Prop} {x : Expr} (h : onUn f x = true) (k : ∀ x0 x1 x2, f x0 x1 x2 = true → P (.UnaryOp x0 x1 x2)) : P x :=
  PySem.Expr.UnaryOp.elim (motive_1 := fun x => onUn f x = true → P x) x (of_dec h) (fun x0 x1 x2 h => k x0 x1 x2 h) h
noncomputable def onBin (f : Expr → Operator → Expr → Pos → Bool) (x : Expr) : Bool := decB (Nat.decEq x.ctorIdx 2) fun e => PySem.Expr.BinOp.elim (motive_1 := fun _ => Bool) x e f
theorem onBin_el {f : Expr → Operator → Expr → Pos → Bool} {P : Expr → Prop} {x : Expr} (h : onBin f x = true) (k : ∀ x0 x1 x2 x3, f x0 x1 x2 x3 = true → P (.BinOp x0 x1 x2 x3)) : P x :=
  PySem.Expr.BinOp.elim (motive_1 := fun x => onBin f x = true → P x) x (of_dec h) (fun x0 x1 x2 x3 h => k x0 x1 x2 x3 h) h
noncomputable def onBool (f : BoolOp → List Expr → Pos → Bool) (x : Expr) : Bool := decB (Nat.decEq x.ctorIdx 0) fun e => PySem.Expr.BoolOp.elim (motive_1 := fun _ => Bool) x e f
theorem onBool_el {f : BoolOp → List Expr → Pos → Bool} {P : Expr → Prop} {x : Expr} (h : onBool f x = true) (k : ∀ x0 x1 x2, f x0 x1 x2 = true → P (.BoolOp x0 x1 x2)) : P x :=
  PySem.Expr.BoolOp.elim (motive_1 := fun x => onBool f x = true → P x) x (of_dec h) (fun x0 x1 x2 h => k x0 x1 x2 h) h
noncomputable def onCmp (f : Expr → List CmpOp → List Expr → Pos → Bool) (x : Expr) : Bool := decB (Nat.decEq x.ctorIdx 15) fun e => PySem.Expr.Compare.elim (motive_1 := fun _ => Bool) x e f
theorem onCmp_el {f : Expr → List CmpOp → List Expr → Pos → Bool} {P : Expr → Prop} {x : Expr} (h : onCmp f x = true) (k : ∀ x0 x1 x2 x3, f x0 x1 x2 x3 = true → P (.Compare x0 x1 x2 x3)) : P x :=
  PySem.Expr.Compare.elim (motive_1 := fun x => onCmp f x = true → P x) x (of_dec h) (fun x0 x1 x2 x3 h => k x0 x1 x2 x3 h) h
noncomputable def onIfE (f : Expr → Expr → Expr → Pos → Bool) (x : Expr) : Bool := decB (Nat.decEq x.ctorIdx 5) fun e => PySem.Expr.IfExp.elim (motive_1 := fun _ => Bool) x e f
theorem onIfE_el {f : Expr → Expr → Expr → Pos → Bool} {P : Expr → Prop} {x : Expr} (h : onIfE f x = true) (k : ∀ x0 x1 x2 x3, f x0 x1 x2 x3 = true → P (.IfExp x0 x1 x2 x3)) : P x :=
  PySem.Expr.IfExp.elim (motive_1 := fun x => onIfE f x = true → P x) x (of_dec h) (fun x0 x1 x2 x3 h => k x0 x1 x2 x3 h) h
noncomputable def onCall (f : Expr → List Expr → List Keyword → Pos → Bool) (x : Expr) : Bool := decB (Nat.decEq x.ctorIdx 16) fun e => PySem.Expr.Call.elim (motive_1 := fun _ => Bool) x e f
theorem onCall_el {f : Expr → List Expr → List Keyword → Pos → Bool} {P : Expr → Prop} {x : Expr} (h : onCall f x = true) (k : ∀ x0 x1 x2 x3, f x0 x1 x2 x3 = true → P (.Call x0 x1 x2 x3)) : P x :=
  PySem.Expr.Call.elim (motive_1 := fun x => onCall f x = true → P x) x (of_dec h) (fun x0 x1 x2 x3 h => k x0 x1 x2 x3 h) h
noncomputable def onLC (f : Expr → List Comprehension → Scope → Pos → Bool) (x : Expr) : Bool := decB (Nat.decEq x.ctorIdx 8) fun e => PySem.Expr.ListComp.elim (motive_1 := fun _ => Bool) x e f
theorem onLC_el {f : Expr → List Comprehension → Scope → Pos → Bool} {P : Expr → Prop} {x : Expr} (h : onLC f x = true) (k : ∀ x0 x1 x2 x3, f x0 x1 x2 x3 = true → P (.ListComp x0 x1 x2 x3)) : P x :=
  PySem.Expr.ListComp.elim (motive_1 := fun x => onLC f x = true → P x) x (of_dec h) (fun x0 x1 x2 x3 h => k x0 x1 x2 x3 h) h
noncomputable def onJs (f : List Expr → Pos → Bool) (x : Expr) : Bool := decB (Nat.decEq x.ctorIdx 18) fun e => PySem.Expr.JoinedStr.elim (motive_1 := fun _ => Bool) x e f
theorem onJs_el {f : List Expr → Pos → Bool} {P : Expr → Prop} {x : Expr} (h : onJs f x = true) (k : ∀ x0 x1, f x0 x1 = true → P (.JoinedStr x0 x1)) : P x :=
  PySem.Expr.JoinedStr.elim (motive_1 := fun x => onJs f x = true → P x) x (of_dec h) (fun x0 x1 h => k x0 x1 h) h
noncomputable def onFv (f : Expr → Int → Option Expr → Pos → Bool) (x : Expr) : Bool := decB (Nat.decEq x.ctorIdx 17) fun e => PySem.Expr.FormattedValue.elim (motive_1 := fun _ => Bool) x e f
theorem onFv_el {f : Expr → Int → Option Expr → Pos → Bool} {P : Expr → Prop} {x : Expr} (h : onFv f x = true) (k : ∀ x0 x1 x2 x3, f x0 x1 x2 x3 = true → P (.FormattedValue x0 x1 x2 x3)) : P x :=
  PySem.Expr.FormattedValue.elim (motive_1 := fun x => onFv f x = true → P x) x (of_dec h) (fun x0 x1 x2 x3 h => k x0 x1 x2 x3 h) h
noncomputable def onAsg (f : List Expr → Expr → Pos → Bool) (x : Stmt) : Bool := decB (Nat.decEq x.ctorIdx 5) fun e => PySem.Stmt.Assign.elim (motive_2 := fun _ => Bool) x e f
theorem onAsg_el {f : List Expr → Expr → Pos → Bool} {P : Stmt → Prop} {x : Stmt} (h : onAsg f x = true) (k : ∀ x0 x1 x2, f x0 x1 x2 = true → P (.Assign x0 x1 x2)) : P x :=
  PySem.Stmt.Assign.elim (motive_2 := fun x => onAsg f x = true → P x) x (of_dec h) (fun x0 x1 x2 h => k x0 x1 x2 h) h
noncomputable def onEx (f : Expr → Pos → Bool) (x : Stmt) : Bool := decB (Nat.decEq x.ctorIdx 24) fun e => PySem.Stmt.Expr.elim (motive_2 := fun _ => Bool) x e f
theorem onEx_el {f : Expr → Pos → Bool} {P : Stmt → Prop} {x : Stmt} (h : onEx f x = true) (k : ∀ x0 x1, f x0 x1 = true → P (.Expr x0 x1)) : P x :=
  PySem.Stmt.Expr.elim (motive_2 := fun x => onEx f x = true → P x) x (of_dec h) (fun x0 x1 h => k x0 x1 h) h
noncomputable def onIf (f : Expr → List Stmt → List Stmt → Pos → Bool) (x : Stmt) : Bool := decB (Nat.decEq x.ctorIdx 12) fun e => PySem.Stmt.If.elim (motive_2 := fun _ => Bool) x e f
theorem onIf_el {f : Expr → List Stmt → List Stmt → Pos → Bool} {P : Stmt → Prop} {x : Stmt} (h : onIf f x = true) (k : ∀ x0 x1 x2 x3, f x0 x1 x2 x3 = true → P (.If x0 x1 x2 x3)) : P x :=
  PySem.Stmt.If.elim (motive_2 := fun x => onIf f x = true → P x) x (of_dec h) (fun x0 x1 x2 x3 h => k x0 x1 x2 x3 h) h
noncomputable def onFor (f : Expr → Expr → List Stmt → List Stmt → Pos → Bool) (x : Stmt) : Bool := decB (Nat.decEq x.ctorIdx 9) fun e => PySem.Stmt.For.elim (motive_2 := fun _ => Bool) x e f
theorem onFor_el {f : Expr → Expr → List Stmt → List Stmt → Pos → Bool} {P : Stmt → Prop} {x : Stmt} (h : onFor f x = true) (k : ∀ x0 x1 x2 x3 x4, f x0 x1 x2 x3 x4 = true → P (.For x0 x1 x2 x3 x4)) : P x :=
  PySem.Stmt.For.elim (motive_2 := fun x => onFor f x = true → P x) x (of_dec h) (fun x0 x1 x2 x3 x4 h => k x0 x1 x2 x3 x4 h) h
noncomputable def onWhile (f : Expr → List Stmt → List Stmt → Pos → Bool) (x : Stmt) : Bool := decB (Nat.decEq x.ctorIdx 11) fun e => PySem.Stmt.While.elim (motive_2 := fun _ => Bool) x e f
theorem onWhile_el {f : Expr → List Stmt → List Stmt → Pos → Bool} {P : Stmt → Prop} {x : Stmt} (h : onWhile f x = true) (k : ∀ x0 x1 x2 x3, f x0 x1 x2 x3 = true → P (.While x0 x1 x2 x3)) : P x :=
  PySem.Stmt.While.elim (motive_2 := fun x => onWhile f x = true → P x) x (of_dec h) (fun x0 x1 x2 x3 h => k x0 x1 x2 x3 h) h
noncomputable def onRet (f : Option Expr → Pos → Bool) (x : Stmt) : Bool := decB (Nat.decEq x.ctorIdx 3) fun e => PySem.Stmt.Return.elim (motive_2 := fun _ => Bool) x e f
theorem onRet_el {f : Option Expr → Pos → Bool} {P : Stmt → Prop} {x : Stmt} (h : onRet f x = true) (k : ∀ x0 x1, f x0 x1 = true → P (.Return x0 x1)) : P x :=
  PySem.Stmt.Return.elim (motive_2 := fun x => onRet f x = true → P x) x (of_dec h) (fun x0 x1 h => k x0 x1 h) h
noncomputable def onCont (f : Pos → Bool) (x : Stmt) : Bool := decB (Nat.decEq x.ctorIdx 27) fun e => PySem.Stmt.Continue.elim (motive_2 := fun _ => Bool) x e f
theorem onCont_el {f : Pos → Bool} {P : Stmt → Prop} {x : Stmt} (h : onCont f x = true) (k : ∀ x0, f x0 = true → P (.Continue x0)) : P x :=
  PySem.Stmt.Continue.elim (motive_2 := fun x => onCont f x = true → P x) x (of_dec h) (fun x0 h => k x0 h) h
noncomputable def onInt (f : Int → Bool) (x : Const) : Bool := decB (Nat.decEq x.ctorIdx 2) fun e => PySem.Const.int.elim (motive := fun _ => Bool) x e f
theorem onInt_el {f : Int → Bool} {P : Const → Prop} {x : Const} (h : onInt f x = true) (k : ∀ x0, f x0 = true → P (.int x0)) : P x :=
  PySem.Const.int.elim (motive := fun x => onInt f x = true → P x) x (of_dec h) (fun x0 h => k x0 h) h
noncomputable def onStr (f : Str → Bool) (x : Const) : Bool := decB (Nat.decEq x.ctorIdx 5) fun e => PySem.Const.str.elim (motive := fun _ => Bool) x e f
theorem onStr_el {f : Str → Bool} {P : Const → Prop} {x : Const} (h : onStr f x = true) (k : ∀ x0, f x0 = true → P (.str x0)) : P x :=
  PySem.Const.str.elim (motive := fun x => onStr f x = true → P x) x (of_dec h) (fun x0 h => k x0 h) h
noncomputable def onNil {α : Type} (b : Bool) : List α → Bool
  | [] => b
  | _ => false
theorem onNil_el {α : Type} {b : Bool} {P : List α → Prop} {x : List α} (h : onNil b x = true) (k : b = true → P []) : P x := by
  cases x with
  | nil => exact k h
  | cons _ _ => cases h
noncomputable def onCons {α : Type} (f : α → List α → Bool) : List α → Bool
  | x :: r => f x r
  | _ => false
theorem onCons_el {α : Type} {f : α → List α → Bool} {P : List α → Prop} {x : List α} (h : onCons f x = true) (k : ∀ a r, f a r = true → P (a :: r)) : P x := by
  cases x with
  | cons a r => exact k a r h
  | nil => cases h
noncomputable def on1 {α : Type} (f : α → Bool) : List α → Bool := onCons fun a r => onNil (f a) r
theorem on1_el {α : Type} {f : α → Bool} {P : List α → Prop} {x : List α} (h : on1 f x = true) (k : ∀ a, f a = true → P [a]) : P x :=
  onCons_el h fun a _ h => onNil_el (P := fun r => P (a :: r)) h (k a)
noncomputable def on2 {α : Type} (f : α → α → Bool) : List α → Bool := onCons fun a r => on1 (f a) r
theorem on2_el {α : Type} {f : α → α → Bool} {P : List α → Prop} {x : List α} (h : on2 f x = true) (k : ∀ a b, f a b = true → P [a, b]) : P x :=
  onCons_el h fun a _ h => on1_el (P := fun r => P (a :: r)) h (k a)
noncomputable def onSome {α : Type} (f : α → Bool) : Option α → Bool
  | some a => f a
  | _ => false
theorem onSome_el {α : Type} {f : α → Bool} {P : Option α → Prop} {x : Option α} (h : onSome f x = true) (k : ∀ a, f a = true → P (some a)) : P x := by
  cases x with
  | some a => exact k a h
  | none => cases h
noncomputable def onNone {α : Type} (b : Bool) : Option α → Bool
  | none => b
  | _ => false
theorem onNone_el {α : Type} {b : Bool} {P : Option α → Prop} {x : Option α} (h : onNone b x = true) (k : b = true → P none) : P x := by
  cases x with
  | none => exact k h
  | some _ => cases h
noncomputable def onComp (f : Expr → Expr → List Expr → Int → Bool) (g : Comprehension) : Bool := f g.target g.iter g.ifs g.is_async
theorem onComp_el {f : Expr → Expr → List Expr → Int → Bool} {P : Comprehension → Prop} {x : Comprehension} (h : onComp f x = true) (k : ∀ t i fs a, f t i fs a = true → P ⟨t, i, fs, a⟩) : P x := by
  cases x with
  | mk t i fs a => exact k t i fs a h
noncomputable def onCallN (f : Str → Pos → List Expr → Pos → Bool) : Expr → Bool := onCall fun g xs ks q => onName (fun y p => onNil (f y p xs q) ks) g
theorem onCallN_el {f : Str → Pos → List Expr → Pos → Bool} {P : Expr → Prop} {x : Expr} (h : onCallN f x = true) (k : ∀ y p xs q, f y p xs q = true → P (.Call (.Name y p) xs [] q)) : P x :=
  onCall_el h fun g xs ks q h => onName_el (P := fun g => P (.Call g xs ks q)) h fun y p h => onNil_el (P := fun ks => P (.Call (.Name y p) xs ks q)) h (k y p xs q)
noncomputable def onCallA (f : Expr → Str → Pos → List Expr → Pos → Bool) : Expr → Bool := onCall fun g xs ks q => onAttr (fun b a p => onNil (f b a p xs q) ks) g
theorem onCallA_el {f : Expr → Str → Pos → List Expr → Pos → Bool} {P : Expr → Prop} {x : Expr} (h : onCallA f x = true) (k : ∀ b a p xs q, f b a p xs q = true → P (.Call (.Attribute b a p) xs [] q)) : P x :=
  onCall_el h fun g xs ks q h => onAttr_el (P := fun g => P (.Call g xs ks q)) h fun b a p h => onNil_el (P := fun ks => P (.Call (.Attribute b a p) xs ks q)) h (k b a p xs q)
noncomputable def onIntC (f : Int → Nat → Pos → Bool) : Expr → Bool := onConst fun c k p => onInt (fun i => f i k p) c
theorem onIntC_el {f : Int → Nat → Pos → Bool} {P : Expr → Prop} {x : Expr} (h : onIntC f x = true) (k : ∀ i j p, f i j p = true → P (.Constant (.int i) j p)) : P x :=
  onConst_el h fun c j p h => onInt_el (P := fun c => P (.Constant c j p)) h fun i => k i j p
noncomputable def onStrC (f : Str → Nat → Pos → Bool) : Expr → Bool := onConst fun c k p => onStr (fun i => f i k p) c
theorem onStrC_el {f : Str → Nat → Pos → Bool} {P : Expr → Prop} {x : Expr} (h : onStrC f x = true) (k : ∀ i j p, f i j p = true → P (.Constant (.str i) j p)) : P x :=
  onConst_el h fun c j p h => onStr_el (P := fun c => P (.Constant c j p)) h fun i => k i j p
theorem and2 {a b : Bool} (h : (a && b) = true) : a = true ∧ b = true := Bool.and_eq_true_iff.mp h
theorem isK {α : Type} {a b : α} [DecidableEq α] {c : Bool} {P : α → Prop} (h : (decide (a = b) && c) = true) (k : c = true → P b) : P a := of_decide_eq_true (and2 h).1 ▸ k (and2 h).2
noncomputable def onNm (s : Str) (f : Pos → Bool) : Expr → Bool := onName fun y p => decide (y = s) && f p
theorem onNm_el {s : Str} {f : Pos → Bool} {P : Expr → Prop} {x : Expr} (h : onNm s f x = true) (k : ∀ p, f p = true → P (.Name s p)) : P x :=
  onName_el h fun _ p h => isK (P := fun y => P (.Name y p)) h (k p)
noncomputable def onAttrM (s : Str) (f : Expr → Pos → Bool) : Expr → Bool := onAttr fun b a p => decide (a = s) && f b p
theorem onAttrM_el {s : Str} {f : Expr → Pos → Bool} {P : Expr → Prop} {x : Expr} (h : onAttrM s f x = true) (k : ∀ b p, f b p = true → P (.Attribute b s p)) : P x :=
  onAttr_el h fun b _ p h => isK (P := fun a => P (.Attribute b a p)) h (k b p)
noncomputable def onCallNm (s : Str) (f : Pos → List Expr → Pos → Bool) : Expr → Bool := onCallN fun y p xs q => decide (y = s) && f p xs q
theorem onCallNm_el {s : Str} {f : Pos → List Expr → Pos → Bool} {P : Expr → Prop} {x : Expr} (h : onCallNm s f x = true) (k : ∀ p xs q, f p xs q = true → P (.Call (.Name s p) xs [] q)) : P x :=
  onCallN_el h fun _ p xs q h => isK (P := fun y => P (.Call (.Name y p) xs [] q)) h (k p xs q)
noncomputable def onCallAm (s : Str) (f : Expr → Pos → List Expr → Pos → Bool) : Expr → Bool := onCallA fun b a p xs q => decide (a = s) && f b p xs q
theorem onCallAm_el {s : Str} {f : Expr → Pos → List Expr → Pos → Bool} {P : Expr → Prop} {x : Expr} (h : onCallAm s f x = true) (k : ∀ b p xs q, f b p xs q = true → P (.Call (.Attribute b s p) xs [] q)) : P x :=
  onCallA_el h fun b _ p xs q h => isK (P := fun y => P (.Call (.Attribute b y p) xs [] q)) h (k b p xs q)
noncomputable def onUnO (o : UnaryOp) (f : Expr → Pos → Bool) : Expr → Bool := onUn fun op x p => decide (op = o) && f x p
theorem onUnO_el {o : UnaryOp} {f : Expr → Pos → Bool} {P : Expr → Prop} {x : Expr} (h : onUnO o f x = true) (k : ∀ y p, f y p = true → P (.UnaryOp o y p)) : P x :=
  onUn_el h fun _ y p h => isK (P := fun o => P (.UnaryOp o y p)) h (k y p)
noncomputable def onIntI (i : Int) (f : Nat → Pos → Bool) : Expr → Bool := onIntC fun j k p => decide (j = i) && f k p
theorem onIntI_el {i : Int} {f : Nat → Pos → Bool} {P : Expr → Prop} {x : Expr} (h : onIntI i f x = true) (k : ∀ y p, f y p = true → P (.Constant (.int i) y p)) : P x :=
  onIntC_el h fun _ y p h => isK (P := fun i => P (.Constant (.int i) y p)) h (k y p)
noncomputable def onBinO (o : Operator) (f : Expr → Expr → Bool) : Expr → Bool := onBin fun y op z _ => decide (op = o) && f y z
theorem onBinO_el {o : Operator} {f : Expr → Expr → Bool} {P : Expr → Prop} {x : Expr} (h : onBinO o f x = true) (k : ∀ y z p, f y z = true → P (.BinOp y o z p)) : P x :=
  onBin_el h fun y _ z p h => isK (P := fun o => P (.BinOp y o z p)) h (k y z p)
noncomputable def onBool2 (o : BoolOp) (f : Expr → Expr → Bool) : Expr → Bool := onBool fun op ys _ => decide (op = o) && on2 f ys
theorem onBool2_el {o : BoolOp} {f : Expr → Expr → Bool} {P : Expr → Prop} {x : Expr} (h : onBool2 o f x = true) (k : ∀ y z p, f y z = true → P (.BoolOp o [y, z] p)) : P x :=
  onBool_el h fun _ ys p h => isK (P := fun o => P (.BoolOp o ys p)) h fun h => on2_el (P := fun ys => P (.BoolOp o ys p)) h fun y z => k y z p
noncomputable def onCmp1 (o : CmpOp) (f : Expr → Expr → Bool) : Expr → Bool := onCmp fun y os zs _ => on1 (fun op => decide (op = o) && on1 (f y) zs) os
theorem onCmp1_el {o : CmpOp} {f : Expr → Expr → Bool} {P : Expr → Prop} {x : Expr} (h : onCmp1 o f x = true) (k : ∀ y z p, f y z = true → P (.Compare y [o] [z] p)) : P x :=
  onCmp_el h fun y os zs p h => on1_el (P := fun os => P (.Compare y os zs p)) h fun op h => isK (P := fun o => P (.Compare y [o] zs p)) h fun h => on1_el (P := fun zs => P (.Compare y [o] zs p)) h fun z => k y z p
noncomputable def baseX (x : Expr) : Bool := ((x.ctorIdx == 23) || ((x.ctorIdx == 20) || (x.ctorIdx == 21)))
noncomputable def nameX (x : Expr) : Bool := x.ctorIdx == 23
noncomputable def plainX (x : Expr) : Bool := ((x.ctorIdx == 23) || ((x.ctorIdx == 16) || ((x.ctorIdx == 19) || ((x.ctorIdx == 20) || ((x.ctorIdx == 25) || ((x.ctorIdx == 24) || ((x.ctorIdx == 6) || ((x.ctorIdx == 21) || ((x.ctorIdx == 3) || ((x.ctorIdx == 2) || ((x.ctorIdx == 15) || ((x.ctorIdx == 0) || ((x.ctorIdx == 5) || ((x.ctorIdx == 8) || (x.ctorIdx == 18)))))))))))))))
noncomputable def notLC (x : Expr) : Bool := x.ctorIdx == 16
noncomputable def isLC (x : Expr) : Bool := x.ctorIdx == 8
theorem no_true {P : Prop} (h : false = true) : P := nomatch h
theorem orK {a b : Bool} {P : Prop} (h : (a || b) = true) (h1 : a = true → P) (h2 : b = true → P) : P := (Bool.or_eq_true_iff.mp h).elim h1 h2
theorem nameX_el {P : Expr → Prop} {x : Expr} (h : nameX x = true) (k : ∀ n p, P (.Name n p)) : P x := PySem.Expr.Name.elim (motive_1 := P) x (eq_of_beq h) k
theorem baseX_el {P : Expr → Prop} {x : Expr} (h : baseX x = true) (k1 : ∀ n p, P (.Name n p)) (k2 : ∀ e a p, P (.Attribute e a p)) (k3 : ∀ e s p, P (.Subscript e s p)) : P x := (fun h => orK h (fun h => PySem.Expr.Name.elim (motive_1 := P) x (eq_of_beq h) k1) (fun h => orK h (fun h => PySem.Expr.Attribute.elim (motive_1 := P) x (eq_of_beq h) k2) (fun h => PySem.Expr.Subscript.elim (motive_1 := P) x (eq_of_beq h) k3))) h
theorem plainX_el {P : Expr → Prop} {x : Expr} (h : plainX x = true) (kName : ∀ (id : Str) (p : Pos), P (.Name id p)) (kCall : ∀ (f : Expr) (a : List Expr) (k : List Keyword) (p : Pos), P (.Call f a k p)) (kConstant : ∀ (c : Const) (k : Nat) (p : Pos), P (.Constant c k p)) (kAttribute : ∀ (e : Expr) (a : Str) (p : Pos), P (.Attribute e a p)) (kTuple : ∀ (l : List Expr) (k : Nat) (p : Pos), P (.Tuple l k p)) (kList : ∀ (l : List Expr) (p : Pos), P (.List l p)) (kDict : ∀ (k : List (Option Expr)) (v : List Expr) (p : Pos), P (.Dict k v p)) (kSubscript : ∀ (e s : Expr) (p : Pos), P (.Subscript e s p)) (kUnaryOp : ∀ (o : UnaryOp) (e : Expr) (p : Pos), P (.UnaryOp o e p)) (kBinOp : ∀ (l : Expr) (o : Operator) (r : Expr) (p : Pos), P (.BinOp l o r p)) (kCompare : ∀ (l : Expr) (o : List CmpOp) (c : List Expr) (p : Pos), P (.Compare l o c p)) (kBoolOp : ∀ (o : PySem.BoolOp) (v : List Expr) (p : Pos), P (.BoolOp o v p)) (kIfExp : ∀ (t b o : Expr) (p : Pos), P (.IfExp t b o p)) (kListComp : ∀ (e : Expr) (g : List Comprehension) (s : Scope) (p : Pos), P (.ListComp e g s p)) (kJoinedStr : ∀ (v : List Expr) (p : Pos), P (.JoinedStr v p)) : P x := (fun h => orK h (fun h => PySem.Expr.Name.elim (motive_1 := P) x (eq_of_beq h) kName) (fun h => orK h (fun h => PySem.Expr.Call.elim (motive_1 := P) x (eq_of_beq h) kCall) (fun h => orK h (fun h => PySem.Expr.Constant.elim (motive_1 := P) x (eq_of_beq h) kConstant) (fun h => orK h (fun h => PySem.Expr.Attribute.elim (motive_1 := P) x (eq_of_beq h) kAttribute) (fun h => orK h (fun h => PySem.Expr.Tuple.elim (motive_1 := P) x (eq_of_beq h) kTuple) (fun h => orK h (fun h => PySem.Expr.List.elim (motive_1 := P) x (eq_of_beq h) kList) (fun h => orK h (fun h => PySem.Expr.Dict.elim (motive_1 := P) x (eq_of_beq h) kDict) (fun h => orK h (fun h => PySem.Expr.Subscript.elim (motive_1 := P) x (eq_of_beq h) kSubscript) (fun h => orK h (fun h => PySem.Expr.UnaryOp.elim (motive_1 := P) x (eq_of_beq h) kUnaryOp) (fun h => orK h (fun h => PySem.Expr.BinOp.elim (motive_1 := P) x (eq_of_beq h) kBinOp) (fun h => orK h (fun h => PySem.Expr.Compare.elim (motive_1 := P) x (eq_of_beq h) kCompare) (fun h => orK h (fun h => PySem.Expr.BoolOp.elim (motive_1 := P) x (eq_of_beq h) kBoolOp) (fun h => orK h (fun h => PySem.Expr.IfExp.elim (motive_1 := P) x (eq_of_beq h) kIfExp) (fun h => orK h (fun h => PySem.Expr.ListComp.elim (motive_1 := P) x (eq_of_beq h) kListComp) (fun h => PySem.Expr.JoinedStr.elim (motive_1 := P) x (eq_of_beq h) kJoinedStr))))))))))))))) h
theorem onConst_all {f : Const → Nat → Pos → Bool} {P : Expr → Prop} (k : ∀ x0 x1 x2, f x0 x1 x2 = true → P (.Constant x0 x1 x2)) : ∀ x : Expr, onConst f x = true → P x := fun _ h => onConst_el h k
theorem onName_all {f : Str → Pos → Bool} {P : Expr → Prop} (k : ∀ x0 x1, f x0 x1 = true → P (.Name x0 x1)) : ∀ x : Expr, onName f x = true → P x := fun _ h => onName_el h k
theorem onAttr_all {f : Expr → Str → Pos → Bool} {P : Expr → Prop} (k : ∀ x0 x1 x2, f x0 x1 x2 = true → P (.Attribute x0 x1 x2)) : ∀ x : Expr, onAttr f x = true → P x := fun _ h => onAttr_el h k
theorem onTuple_all {f : List Expr → Nat → Pos → Bool} {P : Expr → Prop} (k : ∀ x0 x1 x2, f x0 x1 x2 = true → P (.Tuple x0 x1 x2)) : ∀ x : Expr, onTuple f x = true → P x := fun _ h => onTuple_el h k
theorem onList_all {f : List Expr → Pos → Bool} {P : Expr → Prop} (k : ∀ x0 x1, f x0 x1 = true → P (.List x0 x1)) : ∀ x : Expr, onList f x = true → P x := fun _ h => onList_el h k
theorem onDict_all {f : List (Option Expr) → List Expr → Pos → Bool} {P : Expr → Prop} (k : ∀ x0 x1 x2, f x0 x1 x2 = true → P (.Dict x0 x1 x2)) : ∀ x : Expr, onDict f x = true → P x := fun _ h => onDict_el h k
theorem onSub_all {f : Expr → Expr → Pos → Bool} {P : Expr → Prop} (k : ∀ x0 x1 x2, f x0 x1 x2 = true → P (.Subscript x0 x1 x2)) : ∀ x : Expr, onSub f x = true → P x := fun _ h => onSub_el h k
theorem onSlice_all {f : Option Expr → Option Expr → Option Expr → Pos → Bool} {P : Expr → Prop} (k : ∀ x0 x1 x2 x3, f x0 x1 x2 x3 = true → P (.Slice x0 x1 x2 x3)) : ∀ x : Expr, onSlice f x = true → P x := fun _ h => onSlice_el h k
theorem onUn_all {f : UnaryOp → Expr → Pos → Bool} {P : Expr → Prop} (k : ∀ x0 x1 x2, f x0 x1 x2 = true → P (.UnaryOp x0 x1 x2)) : ∀ x : Expr, onUn f x = true → P x := fun _ h => onUn_el h k
theorem onBin_all {f : Expr → Operator → Expr → Pos → Bool} {P : Expr → Prop} (k : ∀ x0 x1 x2 x3, f x0 x1 x2 x3 = true → P (.BinOp x0 x1 x2 x3)) : ∀ x : Expr, onBin f x = true → P x := fun _ h => onBin_el h k
theorem onBool_all {f : BoolOp → List Expr → Pos → Bool} {P : Expr → Prop} (k : ∀ x0 x1 x2, f x0 x1 x2 = true → P (.BoolOp x0 x1 x2)) : ∀ x : Expr, onBool f x = true → P x := fun _ h => onBool_el h k
theorem onCmp_all {f : Expr → List CmpOp → List Expr → Pos → Bool} {P : Expr → Prop} (k : ∀ x0 x1 x2 x3, f x0 x1 x2 x3 = true → P (.Compare x0 x1 x2 x3)) : ∀ x : Expr, onCmp f x = true → P x := fun _ h => onCmp_el h k
theorem onIfE_all {f : Expr → Expr → Expr → Pos → Bool} {P : Expr → Prop} (k : ∀ x0 x1 x2 x3, f x0 x1 x2 x3 = true → P (.IfExp x0 x1 x2 x3)) : ∀ x : Expr, onIfE f x = true → P x := fun _ h => onIfE_el h k
theorem onCall_all {f : Expr → List Expr → List Keyword → Pos → Bool} {P : Expr → Prop} (k : ∀ x0 x1 x2 x3, f x0 x1 x2 x3 = true → P (.Call x0 x1 x2 x3)) : ∀ x : Expr, onCall f x = true → P x := fun _ h => onCall_el h k
theorem onLC_all {f : Expr → List Comprehension → Scope → Pos → Bool} {P : Expr → Prop} (k : ∀ x0 x1 x2 x3, f x0 x1 x2 x3 = true → P (.ListComp x0 x1 x2 x3)) : ∀ x : Expr, onLC f x = true → P x := fun _ h => onLC_el h k
theorem onJs_all {f : List Expr → Pos → Bool} {P : Expr → Prop} (k : ∀ x0 x1, f x0 x1 = true → P (.JoinedStr x0 x1)) : ∀ x : Expr, onJs f x = true → P x := fun _ h => onJs_el h k
theorem onFv_all {f : Expr → Int → Option Expr → Pos → Bool} {P : Expr → Prop} (k : ∀ x0 x1 x2 x3, f x0 x1 x2 x3 = true → P (.FormattedValue x0 x1 x2 x3)) : ∀ x : Expr, onFv f x = true → P x := fun _ h => onFv_el h k
theorem onAsg_all {f : List Expr → Expr → Pos → Bool} {P : Stmt → Prop} (k : ∀ x0 x1 x2, f x0 x1 x2 = true → P (.Assign x0 x1 x2)) : ∀ x : Stmt, onAsg f x = true → P x := fun _ h => onAsg_el h k
theorem onEx_all {f : Expr → Pos → Bool} {P : Stmt → Prop} (k : ∀ x0 x1, f x0 x1 = true → P (.Expr x0 x1)) : ∀ x : Stmt, onEx f x = true → P x := fun _ h => onEx_el h k
theorem onIf_all {f : Expr → List Stmt → List Stmt → Pos → Bool} {P : Stmt → Prop} (k : ∀ x0 x1 x2 x3, f x0 x1 x2 x3 = true → P (.If x0 x1 x2 x3)) : ∀ x : Stmt, onIf f x = true → P x := fun _ h => onIf_el h k
theorem onFor_all {f : Expr → Expr → List Stmt → List Stmt → Pos → Bool} {P : Stmt → Prop} (k : ∀ x0 x1 x2 x3 x4, f x0 x1 x2 x3 x4 = true → P (.For x0 x1 x2 x3 x4)) : ∀ x : Stmt, onFor f x = true → P x := fun _ h => onFor_el h k
theorem onWhile_all {f : Expr → List Stmt → List Stmt → Pos → Bool} {P : Stmt → Prop} (k : ∀ x0 x1 x2 x3, f x0 x1 x2 x3 = true → P (.While x0 x1 x2 x3)) : ∀ x : Stmt, onWhile f x = true → P x := fun _ h => onWhile_el h k
theorem onRet_all {f : Option Expr → Pos → Bool} {P : Stmt → Prop} (k : ∀ x0 x1, f x0 x1 = true → P (.Return x0 x1)) : ∀ x : Stmt, onRet f x = true → P x := fun _ h => onRet_el h k
theorem onCont_all {f : Pos → Bool} {P : Stmt → Prop} (k : ∀ x0, f x0 = true → P (.Continue x0)) : ∀ x : Stmt, onCont f x = true → P x := fun _ h => onCont_el h k
theorem onInt_all {f : Int → Bool} {P : Const → Prop} (k : ∀ x0, f x0 = true → P (.int x0)) : ∀ x : Const, onInt f x = true → P x := fun _ h => onInt_el h k
theorem onStr_all {f : Str → Bool} {P : Const → Prop} (k : ∀ x0, f x0 = true → P (.str x0)) : ∀ x : Const, onStr f x = true → P x := fun _ h => onStr_el h k
theorem onNil_all {α : Type} {b : Bool} {P : List α → Prop} (k : b = true → P []) : ∀ x : List α, onNil b x = true → P x := fun _ h => onNil_el h k
theorem onCons_all {α : Type} {f : α → List α → Bool} {P : List α → Prop} (k : ∀ a r, f a r = true → P (a :: r)) : ∀ x : List α, onCons f x = true → P x := fun _ h => onCons_el h k
theorem on1_all {α : Type} {f : α → Bool} {P : List α → Prop} (k : ∀ a, f a = true → P [a]) : ∀ x : List α, on1 f x = true → P x := fun _ h => on1_el h k
theorem on2_all {α : Type} {f : α → α → Bool} {P : List α → Prop} (k : ∀ a b, f a b = true → P [a, b]) : ∀ x : List α, on2 f x = true → P x := fun _ h => on2_el h k
theorem onSome_all {α : Type} {f : α → Bool} {P : Option α → Prop} (k : ∀ a, f a = true → P (some a)) : ∀ x : Option α, onSome f x = true → P x := fun _ h => onSome_el h k
theorem onNone_all {α : Type} {b : Bool} {P : Option α → Prop} (k : b = true → P none) : ∀ x : Option α, onNone b x = true → P x := fun _ h => onNone_el h k
theorem onComp_all {f : Expr → Expr → List Expr → Int → Bool} {P : Comprehension → Prop} (k : ∀ t i fs a, f t i fs a = true → P ⟨t, i, fs, a⟩) : ∀ x : Comprehension, onComp f x = true → P x := fun _ h => onComp_el h k
theorem onCallN_all {f : Str → Pos → List Expr → Pos → Bool} {P : Expr → Prop} (k : ∀ y p xs q, f y p xs q = true → P (.Call (.Name y p) xs [] q)) : ∀ x : Expr, onCallN f x = true → P x := fun _ h => onCallN_el h k
theorem onCallA_all {f : Expr → Str → Pos → List Expr → Pos → Bool} {P : Expr → Prop} (k : ∀ b a p xs q, f b a p xs q = true → P (.Call (.Attribute b a p) xs [] q)) : ∀ x : Expr, onCallA f x = true → P x := fun _ h => onCallA_el h k
theorem onIntC_all {f : Int → Nat → Pos → Bool} {P : Expr → Prop} (k : ∀ i j p, f i j p = true → P (.Constant (.int i) j p)) : ∀ x : Expr, onIntC f x = true → P x := fun _ h => onIntC_el h k
theorem onStrC_all {f : Str → Nat → Pos → Bool} {P : Expr → Prop} (k : ∀ i j p, f i j p = true → P (.Constant (.str i) j p)) : ∀ x : Expr, onStrC f x = true → P x := fun _ h => onStrC_el h k
theorem onNm_all {s : Str} {f : Pos → Bool} {P : Expr → Prop} (k : ∀ p, f p = true → P (.Name s p)) : ∀ x : Expr, onNm s f x = true → P x := fun _ h => onNm_el h k
theorem onAttrM_all {s : Str} {f : Expr → Pos → Bool} {P : Expr → Prop} (k : ∀ b p, f b p = true → P (.Attribute b s p)) : ∀ x : Expr, onAttrM s f x = true → P x := fun _ h => onAttrM_el h k
theorem onCallNm_all {s : Str} {f : Pos → List Expr → Pos → Bool} {P : Expr → Prop} (k : ∀ p xs q, f p xs q = true → P (.Call (.Name s p) xs [] q)) : ∀ x : Expr, onCallNm s f x = true → P x := fun _ h => onCallNm_el h k
theorem onCallAm_all {s : Str} {f : Expr → Pos → List Expr → Pos → Bool} {P : Expr → Prop} (k : ∀ b p xs q, f b p xs q = true → P (.Call (.Attribute b s p) xs [] q)) : ∀ x : Expr, onCallAm s f x = true → P x := fun _ h => onCallAm_el h k
theorem onUnO_all {o : UnaryOp} {f : Expr → Pos → Bool} {P : Expr → Prop} (k : ∀ y p, f y p = true → P (.UnaryOp o y p)) : ∀ x : Expr, onUnO o f x = true → P x := fun _ h => onUnO_el h k
theorem onIntI_all {i : Int} {f : Nat → Pos → Bool} {P : Expr → Prop} (k : ∀ y p, f y p = true → P (.Constant (.int i) y p)) : ∀ x : Expr, onIntI i f x = true → P x := fun _ h => onIntI_el h k
theorem onBinO_all {o : Operator} {f : Expr → Expr → Bool} {P : Expr → Prop} (k : ∀ y z p, f y z = true → P (.BinOp y o z p)) : ∀ x : Expr, onBinO o f x = true → P x := fun _ h => onBinO_el h k
theorem onBool2_all {o : BoolOp} {f : Expr → Expr → Bool} {P : Expr → Prop} (k : ∀ y z p, f y z = true → P (.BoolOp o [y, z] p)) : ∀ x : Expr, onBool2 o f x = true → P x := fun _ h => onBool2_el h k
theorem onCmp1_all {o : CmpOp} {f : Expr → Expr → Bool} {P : Expr → Prop} (k : ∀ y z p, f y z = true → P (.Compare y [o] [z] p)) : ∀ x : Expr, onCmp1 o f x = true → P x := fun _ h => onCmp1_el h k
end Mine
namespace Mine
open PySem PySem.W PySem.Calls PyProof.Rows

noncomputable abbrev Nms := List (Str × NameKind)

noncomputable def Fn.nm : Fn → Str
  | .bank_init => "__init__" | .bk_declare_sort => "declare_sort" | .bk_width_of => "width_of" | .bk_is_number_sort => "is_number_sort" | .bk_declare_fun => "declare_fun"
  | .bk_fresh_const => "fresh_const" | .bk_op => "op" | .bk_args => "args" | .bk_sort => "sort" | .bk_data => "data" | .bk_width => "width" | .bk_make => "make" | .bk_want => "want"
  | .bk_want_all => "want_all" | .bk_parts => "parts" | .bk_parts_of_all => "parts_of_all" | .bk_eq => "eq" | .bk_ite => "ite" | .bk_app => "app" | .bk_want_number => "want_number"
  | .bk_plus => "plus" | .bk_bv_sort => "bv_sort" | .sharing_init => "__init__" | .sh_has_shared_sort => "has_shared_sort" | .sh_add_term => "add_term" | .sh_enter_part => "enter_part"
  | .sh_is_shared => "is_shared" | .sh_shared_terms => "shared_terms" | .law_sift => "_law_sift" | .law_shapes => "_law_shapes" | .law_terms => "_law_terms" | .law_is_number => "_law_is_number"
  | .law_due => "_law_due" | .law_told => "_law_told" | .law => "law" | .termbank_init => "__init__"
/-- called by its name -/
noncomputable def Fn.isFun (f : Fn) : Bool := [Fn.law_sift, .law_shapes, .law_terms, .law_is_number, .law_due, .law_told].contains f
/-- called as a method -/
noncomputable def Fn.isMeth (f : Fn) : Bool := !(f.isFun || [Fn.bank_init, .sharing_init, .termbank_init, .law].contains f)
noncomputable def Cls.str : Cls → Str
  | .TermBank => "TermBank" | .Sharing => "Sharing"
noncomputable def Gl.str : Gl → Str
  | .INT => "INT" | .REAL => "REAL" | .BOOL => "BOOL" | .WIDEST => "WIDEST"
noncomputable def Bi.nam : Bi → Str
  | .len => "len" | .tuple => "tuple" | .min => "min" | .max => "max" | .sorted => "sorted" | .list => "list" | .int => "int" | .str => "str"
noncomputable def Bi.val : Bi → Value
  | .len => .builtin "len" | .tuple => .type "tuple" | .min => .builtin "min" | .max => .builtin "max" | .sorted => .builtin "sorted" | .list => .type "list" | .int => .type "int" | .str => .type "str"
noncomputable def Lm.str : Lm → Str
  | .append => "append" | .pop => "pop" | .extend => "extend" | .get => "get"

noncomputable def Lit.const : Lit → Const
  | .none => .none
  | .bool b => .bool b
  | .int i => .int i
  | .str x => .str x
noncomputable def isG (nm : Nms) (x : Str) : Bool := nm.lookup x == some .globalImplicit
noncomputable def okKeys : List Str → List (Option Expr) → Bool
  | [], l => onNil true l
  | k :: ks, l => onCons (fun o r => onSome (onStrC fun y _ _ => decide (k = y) && okKeys ks r) o) l
noncomputable def inner (nm : Nms) (sc : Scope) : Nms := sc.names.map fun (n, k) => if (k == .free && nm.lookup n == some .cell) then (n, .cell) else (n, k)
noncomputable def okSc (nm : Nms) (sc : Scope) (xs : List Nm) : Bool :=
  sc.kind == .function && (decide ((sc.names.map (·.1)).Nodup) && ((xs.all fun x => sc.names.lookup x.str == some .local || sc.names.lookup x.str == some .cell) &&
    ((sc.names.all fun (n, k) => k != .free || nm.lookup n == some .cell || nm.lookup n == some .free) &&
      (sc.names.all fun (n, k) => !(k == .local || k == .cell) || n == (".0" : Str) || (xs.any fun x => n == x.str)))))

mutual
noncomputable def okE : E → Nms → Expr → Bool
  | .lit v, _, x => onConst (fun c _ _ => decide (c = v.const)) x
  | .loc n, nm, x => onNm n.str (fun _ => bound (nm.lookup n.str)) x
  | .gl g, nm, x => onNm g.str (fun _ => isG nm g.str) x
  | .attr e f, nm, x => onAttrM f.str (fun b _ => baseX b && okE e nm b) x
  | .tup es, nm, x => onTuple (fun xs _ _ => decide (xs.length < 100) && okEs es nm xs) x
  | .list es, nm, x => onList (fun xs _ => decide (xs.length < 100) && okEs es nm xs) x
  | .dict _ ks es, nm, x => onDict (fun keys vals _ => decide (ks.length = es.length) && (decide (ks.length ≤ 8) && (okKeys ks keys && okEs es nm vals))) x
  | .idx e i, nm, x => onSub (fun a b _ => okE e nm a && okE i nm b) x
  | .upto e k, nm, x => onSub (fun a sl _ => onSlice (fun lo up sp _ => onNone (onSome (onIntI (k : Int) fun _ _ => onNone (nameX a && (decide (k < 100) && okE e nm a)) sp) up) lo) sl) x
  | .rev e, nm, x => onSub (fun a sl _ => onSlice (fun lo up sp _ => onNone (onNone (onSome (onUnO .USub fun z _ => onIntI 1 (fun _ _ => nameX a && okE e nm a) z) sp) up) lo) sl) x
  | .neg k, _, x => onUnO .USub (fun z _ => onIntI (k : Int) (fun _ _ => true) z) x
  | .not _, _, _ => false
  | .cmp op a b, nm, x => onCmp1 (cmpOf op) (fun y z => okE a nm y && okE b nm z) x
  | .and a b, nm, x => onBool2 .And (fun y z => okE a nm y && okE b nm z) x
  | .or a b, nm, x => onBool2 .Or (fun y z => okE a nm y && okE b nm z) x
  | .ite c a b, nm, x => onIfE (fun t y z _ => okT c nm t && (okE a nm y && okE b nm z)) x
  | .bin op a b, nm, x => onBinO (opOf op) (fun y z => okE a nm y && okE b nm z) x
  | .call f es, nm, x => onCallNm f.nm (fun _ xs _ => f.isFun && (isG nm f.nm && okEs es nm xs)) x
  | .new c es, nm, x => onCallNm c.str (fun _ xs _ => isG nm c.str && okEs es nm xs) x
  | .meth e f es, nm, x => onCallAm f.nm (fun b ap xs ps => baseX b && (f.isMeth && (ap.endLine == ps.line && (decide (xs.length < 29) && (okE e nm b && okEs es nm xs))))) x
  | .bi b es, nm, x => onCallNm b.nam (fun _ xs _ => isG nm b.nam && okEs es nm xs) x
  | .sortedset e, nm, x => onCallNm "sorted" (fun _ xs _ => on1 (onCallNm "set" fun _ zs _ => on1 (fun z => isG nm "sorted" && (isG nm "set" && okE e nm z)) zs) xs) x
  | .lm m e es, nm, x => onCallAm m.str (fun b ap xs ps => baseX b && (ap.endLine == ps.line && (decide (xs.length < 29) && (okE e nm b && okEs es nm xs)))) x
  | .comp elt y it ifs, nm, x => onLC (fun el gs sc _ => on1 (onComp fun tg ix fx ga => onNm y.str (fun _ => decide (ga = 0) && (okSc nm sc [y] && (okE it nm ix && (okE elt (inner nm sc) el && okTs ifs (inner nm sc) fx)))) tg) gs) x
  | .comp2 elt y it y2 it2 ifs, nm, x => onLC (fun el gs sc _ => on2 (fun g g2 => onComp (fun tg ix gf ga => onComp (fun tg2 ix2 fx ga2 => onNm y.str (fun _ => onNm y2.str (fun _ => onNil (decide (ga = 0) && (decide (ga2 = 0) && (okSc nm sc [y, y2] && (okE it nm ix && (okE it2 (inner nm sc) ix2 && (okE elt (inner nm sc) el && okTs ifs (inner nm sc) fx)))))) gf) tg2) tg) g2) g) gs) x
  | .fstr a e b, nm, x => onJs (fun vs _ => onCons (fun c1 r => on2 (fun c2 c3 => onStrC (fun u _ _ => onFv (fun y cv sp _ => onNone (onStrC (fun v _ _ => decide (cv = -1) && (decide (u = Str.ofString a) && (decide (v = Str.ofString b) && (decide ((Str.ofString a).length < 100) && (decide ((Str.ofString b).length < 100) && okE e nm y))))) c3) sp) c2) c1) r) vs) x
noncomputable def okEs : List E → Nms → List Expr → Bool
  | [], _, xs => onNil (true) xs
  | e :: r, nm, xs => onCons (fun x ys => okE e nm x && okEs r nm ys) xs
noncomputable def okTs : List E → Nms → List Expr → Bool
  | [], _, xs => onNil (true) xs
  | e :: r, nm, xs => onCons (fun x ys => okT e nm x && okTs r nm ys) xs
noncomputable def okT : E → Nms → Expr → Bool
  | .not e, nm, x => onUn (fun op y _ => decide (op = .Not) && okT e nm y) x
  | .and a b, nm, x => onBool2 .And (fun y z => okT a nm y && okT b nm z) x
  | .or a b, nm, x => onBool2 .Or (fun y z => okT a nm y && okT b nm z) x
  | .cmp op a b, nm, x => onCmp1 (cmpOf op) (fun y z => okE a nm y && okE b nm z) x
  | .loc n, nm, x => onNm n.str (fun _ => bound (nm.lookup n.str)) x
  | .call f es, nm, x => onCallNm f.nm (fun _ xs _ => f.isFun && (isG nm f.nm && okEs es nm xs)) x
  | .meth e f es, nm, x => onCallAm f.nm (fun b ap xs ps => baseX b && (f.isMeth && (ap.endLine == ps.line && (decide (xs.length < 29) && (okE e nm b && okEs es nm xs))))) x
  | _, _, _ => false
end

noncomputable def okIt : It → Nms → Expr → Bool
  | .e e, nm, x => okE e nm x
  | .range e, nm, x => onCallNm "range" (fun _ xs _ => on1 (fun z => isG nm "range" && okE e nm z) xs) x
  | .rev e, nm, x => onCallNm "reversed" (fun _ xs _ => on1 (fun z => isG nm "reversed" && okE e nm z) xs) x
noncomputable def st (nm : Nms) (x : Nm) : Bool := nm.lookup x.str == some .local || nm.lookup x.str == some .cell
noncomputable def okTg (nm : Nms) : Tg → Expr → Bool
  | .nm x, t => onNm x.str (fun _ => st nm x) t
  | .pair x x', t => onTuple (fun ts _ _ => on2 (fun t1 t2 => onNm x.str (fun _ => onNm x'.str (fun _ => st nm x && st nm x') t2) t1) ts) t
noncomputable def okNs (nm : Nms) : List Nm → List Expr → Bool
  | [], xs => onNil (true) xs
  | x :: r, xs => onCons (fun x' ys => onNm x.str (fun _ => st nm x && okNs nm r ys) x') xs
noncomputable def okSw (x : Expr) : Bool := !(x.ctorIdx == 25) || onTuple (fun vs _ _ => !(vs.all (foldedForSure 8)) && !(vs.all (constantsAlone 8))) x

mutual
noncomputable def okS : Stm → Nms → Stmt → Bool
  | .asg n e, nm, x => onAsg (fun ts v _ => on1 (onNm n.str fun _ => st nm n && okE e nm v) ts) x
  | .asgT ns e, nm, x => onAsg (fun us v _ => on1 (onTuple fun ts _ _ => okNs nm ns ts && (decide ns.Nodup && (okSw v && okE e nm v))) us) x
  | .seta o f e, nm, x => onAsg (fun us v _ => on1 (onAttrM f.str fun b _ => okE o nm b && okE e nm v) us) x
  | .seti o i e, nm, x => onAsg (fun us v _ => on1 (onSub fun b j _ => okE o nm b && (okE i nm j && okE e nm v)) us) x
  | .expr e, nm, x => onEx (fun v _ => notLC v && okE e nm v) x
  | .ite c a b, nm, x => onIf (fun t y z _ => okT c nm t && (okB a nm y && okB b nm z)) x
  | .for t it b, nm, x => onFor (fun tx ix bx es _ => onNil (okTg nm t tx && (okIt it nm ix && okB b nm bx)) es) x
  | .while c b, nm, x => onWhile (fun t bx es _ => onNil (okT c nm t && okB b nm bx) es) x
  | .ret e, nm, x => onRet (fun r _ => onSome (fun v => okE e nm v) r) x
  | .retn, _, x => onRet (fun r _ => onNone (true) r) x
  | .cont, _, x => onCont (fun _ => true) x
  | .wants, nm, x => onFor (fun tx ix bx es _ => onNil (onTuple (fun ts _ _ => on2 (fun u1 u2 => onNm Nm.n_t.str (fun _ => onNm Nm.n_s.str (fun _ => onCallNm "zip" (fun _ xs _ => on2 (fun v1 v2 => onNm Nm.n_some.str (fun _ => onNm Nm.n_sorts.str (fun _ => on1 (onEx fun cx _ => onCallAm Fn.bk_want.nm (fun rx ap ys ps => onNm Nm.n_self.str (fun _ => onCons (fun a1 r => on2 (fun a2 a3 => onNm Nm.n_t.str (fun _ => onNm Nm.n_s.str (fun _ => onSub (fun q1 q2 _ => onAttrM Fd.f_fun_names.str (fun q3 _ => onNm Nm.n_self.str (fun _ => onNm Nm.n_f.str (fun _ =>
      isG nm "zip" && ((ap.endLine == ps.line) && [Nm.n_t, .n_s, .n_some, .n_sorts, .n_self, .n_f].all fun x => nm.lookup x.str == some .local)) q2) q3) q1) a3) a2) a1) r) ys) rx) cx) bx) v2) v1) xs) ix) u2) u1) ts) tx) es) x
  | .bad, _, _ => true
noncomputable def okB : List Stm → Nms → List Stmt → Bool
  | [], _, xs => onNil (true) xs
  | s :: r, nm, xs => onCons (fun x ys => okS s nm x && okB r nm ys) xs
end
end Mine
namespace Mine
open PySem PySem.W PySem.Calls PyProof.Rows

theorem ok_plain {e : E} {nm : Nms} {x : Expr} (h : okE e nm x = true) : plainX x = true := by
  cases e <;> first
    | exact onName_el (P := fun x => plainX x = true) h fun _ _ _ => rfl
    | exact onCall_el (P := fun x => plainX x = true) h fun _ _ _ _ _ => rfl
    | exact onConst_el (P := fun x => plainX x = true) h fun _ _ _ _ => rfl
    | exact onAttr_el (P := fun x => plainX x = true) h fun _ _ _ _ => rfl
    | exact onTuple_el (P := fun x => plainX x = true) h fun _ _ _ _ => rfl
    | exact onList_el (P := fun x => plainX x = true) h fun _ _ _ => rfl
    | exact onDict_el (P := fun x => plainX x = true) h fun _ _ _ _ => rfl
    | exact onSub_el (P := fun x => plainX x = true) h fun _ _ _ _ => rfl
    | exact onUn_el (P := fun x => plainX x = true) h fun _ _ _ _ => rfl
    | exact onCmp_el (P := fun x => plainX x = true) h fun _ _ _ _ _ => rfl
    | exact onBool_el (P := fun x => plainX x = true) h fun _ _ _ _ => rfl
    | exact onIfE_el (P := fun x => plainX x = true) h fun _ _ _ _ _ => rfl
    | exact onBin_el (P := fun x => plainX x = true) h fun _ _ _ _ _ => rfl
    | exact onLC_el (P := fun x => plainX x = true) h fun _ _ _ _ _ => rfl
    | exact onJs_el (P := fun x => plainX x = true) h fun _ _ _ => rfl
    | exact no_true h
theorem oks_plain : ∀ {es : List E} {nm : Nms} {xs : List Expr}, okEs es nm xs = true → xs.all plainX = true
  | [], _, _, h => onNil_el (P := fun xs => xs.all plainX = true) h fun _ => rfl
  | e :: r, nm, _, h => onCons_el (P := fun xs => xs.all plainX = true) h fun x ys h => by
    rw [Bool.and_eq_true] at h
    rw [List.all_cons, ok_plain h.1, oks_plain h.2]; rfl
theorem plain_facts {x : Expr} (h : plainX x = true) : (∀ (r : List Expr) (env : Env), starEach (x :: r) env = (false, eval x env) :: starEach r env) ∧ (∀ op, behindInMarks op x = false) ∧ (∀ env v, foldedSetIterable x env v = pure v) ∧
    (∀ o i, subscripted x false o i = operate [o, i] (getItem o i)) := by
  refine plainX_el (P := fun x => (∀ (r : List Expr) (env : Env), starEach (x :: r) env = (false, eval x env) :: starEach r env) ∧ (∀ op, behindInMarks op x = false) ∧ (∀ env v, foldedSetIterable x env v = pure v) ∧
    (∀ o i, subscripted x false o i = operate [o, i] (getItem o i))) h ?_ ?_ ?_ ?_ ?_ ?_ ?_ ?_ ?_ ?_ ?_ ?_ ?_ ?_ ?_ <;> intros <;> exact ⟨fun _ _ => rfl, fun _ => rfl, fun _ _ => rfl, fun _ _ => rfl⟩
theorem star_cons {x : Expr} (h : plainX x = true) (r : List Expr) (env : Env) : starEach (x :: r) env = (false, eval x env) :: starEach r env := (plain_facts h).1 r env
theorem trees_both (ps : Pos) (env : Env) {xs : List Expr} (h : xs.all plainX = true) : (backTo ps (starEach xs env)).any (·.1) = false ∧ (backTo ps (starEach xs env)).all (fun x => !x.1) = true := by
  induction xs with
  | nil => exact ⟨rfl, rfl⟩
  | cons x r ih =>
    rw [List.all_cons, Bool.and_eq_true] at h
    rw [star_cons h.1]
    exact ih h.2
theorem trees_plain (ps : Pos) (env : Env) {xs : List Expr} (h : xs.all plainX = true) : (backTo ps (starEach xs env)).any (·.1) = false := (trees_both ps env h).1
theorem trees_all (ps : Pos) (env : Env) {xs : List Expr} (h : xs.all plainX = true) : (backTo ps (starEach xs env)).all (fun x => !x.1) = true := (trees_both ps env h).2
theorem behind_plain {op : CmpOp} {x : Expr} (h : plainX x = true) : behindInMarks op x = false := (plain_facts h).2.1 op
theorem folded_plain {x : Expr} (h : plainX x = true) (env : Env) (v : Value) : foldedSetIterable x env v = pure v := (plain_facts h).2.2.1 env v
theorem subscripted_plain {x : Expr} (h : plainX x = true) (o i : Value) : subscripted x false o i = operate [o, i] (getItem o i) := (plain_facts h).2.2.2 o i
theorem base_plain {x : Expr} (h : baseX x = true) (name : Str) (env : Env) : attributeBase x name env (eval x env) = eval x env :=
  baseX_el (P := fun x => attributeBase x name env (eval x env) = eval x env) h (fun _ _ => rfl) (fun _ _ _ => rfl) fun _ _ _ => rfl

section
variable {M : Model} {A : Around} {E : Value → Shared → Prop} {s : Shared} {env : Env}
theorem evalArgs_of {f : Value} {xs : List Expr} {ps : Pos} {T : List Value → Shared → Prop} (hx : xs.all plainX = true) (h : wpAny M A (spliced (backTo ps (starEach xs env))) T E s) :
    wpAny M A (evalArgs f true (backTo ps (starEach xs env)) []) (fun a s' => a.kw = [] ∧ T a.pos s') E s := by
  cases xs with
  | nil =>
    unfold evalArgs
    show wpAny M A (spliced [] >>= _) _ E s
    refine wpAny_bind (wpAny_mono h (fun vs s' h' => wpAny_bind (wpAny_pure ?_)) fun _ _ x => x)
    refine wpAny_holding ?_
    exact wpAny_bind (wpAny_pure (wpAny_bind (wpAny_pure (wpAny_pure ⟨rfl, h'⟩))))
  | cons x r =>
    rw [List.all_cons, Bool.and_eq_true] at hx
    rw [star_cons hx.1] at h ⊢
    exact evalArgs_plain (wpAny_mono h (fun vs s' h' => ⟨rfl, h'⟩) fun _ _ x => x)

theorem callWith_mach {pos : Pos} {f : Value} {first : List Value} {xs : List Expr} {ps : Pos} {T : List Value → Shared → Prop} {Q : Value → Shared → Prop} (hx : xs.all plainX = true)
    (h : wpAny M A (spliced (backTo ps (starEach xs env))) T E s)
    (hk : ∀ vs s', T vs s' → Looks M s'.heap (keeperOf f) .machine) (k : ∀ vs s', T vs s' → wpAny M A (call f (first ++ vs)) Q E s') :
    wpAny M A (callWith pos f first (backTo ps (starEach xs env)) []) Q E s := by
  unfold callWith
  refine wpAny_bind (wpAny_holding (wpAny_mono (evalArgs_of (f := f) hx h) (fun a s₁ h₁ => wpAny_bind (wpAny_standAt ?_)) fun _ _ x => x))
  obtain ⟨hkw, h₁⟩ := h₁
  rw [trees_plain ps env hx, hkw]
  refine wpAny_bind ((hk _ _ h₁).here ?_)
  exact wpAny_bind (wpAny_mono (k _ _ h₁) (fun r s₂ hr => wpAny_bind (wpAny_holding (wpAny_point (wpAny_pure hr)))) fun _ _ x => x)

theorem callWith_fn {pos : Pos} {f : Addr} {o : Obj} {fd : FuncData} {first : List Value} {xs : List Expr} {ps : Pos} {T : List Value → Shared → Prop} {Q : Value → Shared → Prop} (hx : xs.all plainX = true)
    (h : wpAny M A (spliced (backTo ps (starEach xs env))) T E s) (hd : o.data = .func fd)
    (ho : ∀ vs s', T vs s' → s'.heap.get? f = some o) (k : ∀ vs s', T vs s' → wpAny M A (call (.ref f) (first ++ vs)) Q E s') :
    wpAny M A (callWith pos (.ref f) first (backTo ps (starEach xs env)) []) Q E s := by
  refine callWith_function (o := o) (fd := fd) (wpAny_mono (evalArgs_of (f := .ref f) hx h) (fun a s₁ h₁ => ?_) fun _ _ x => x)
  obtain ⟨hkw, h₁⟩ := h₁
  rw [hkw]
  exact ⟨⟨ho _ _ h₁, hd⟩, k _ _ h₁⟩

theorem keeper_type {T : String} {h : Heap} : Looks M h (keeperOf (.type T)) .machine := Looks.of_pure rfl
theorem keeper_builtin {i : String} {h : Heap} : Looks M h (keeperOf (.builtin i)) .machine := Looks.of_pure rfl
theorem keeper_cls {K : Frag} {h : Heap} {C : Addr} (X : K.In h) (hm : makesIn K C = true) : Looks M h (keeperOf (.ref C)) .machine := by
  obtain ⟨⟨oc, od, cd, sl, hC, _⟩, _, _, _, _, call, _⟩ := makes_of (M := M) X hm
  intro A Q E s k q
  unfold keeperOf
  refine wpAny_bind (wpAny_load (k _ _ hC) ?_)
  refine wpAny_bind (call A _ E s k ?_)
  exact wpAny_pure q
end

section
variable {prog : Program} {w : World} {A : Around} {E : Value → Shared → Prop} {s : Shared} {env : Env}
/-- a method's call: the receiver, the method, the arguments -/
theorem Call_meth {o : Expr} {name : Str} {ap ps : Pos} {xs : List Expr} {Q : Value → Shared → Prop} (hb : baseX o = true) (hx : xs.all plainX = true) (hl : (ap.endLine == ps.line) = true) (hn : xs.length < 29)
    (h : wpAny (model prog w) A (eval o env) (fun ov s₁ => wpAny (model prog w) A (getMethod ov name (do return (← importBound o env).getD true)) (fun r s₂ => wpAny (model prog w) A (callWith ps r.1 r.2 (backTo ps (starEach xs env)) []) Q E s₂) E s₁) E s) :
    wpAny (model prog w) A (eval (.Call (.Attribute o name ap) xs [] ps) env) Q E s := by
  rw [arm_eval_Call, base_plain hb]
  refine wpAny_bind (wpAny_mono h (fun ov s₁ h₁ => wpAny_bind (wpAny_standAt ?_)) fun _ _ e => e)
  have hform : methodCallForm (xs.length + ([] : List Keyword).length) (backTo ps (starEach xs env)) (backToKw ps (keywordEach [] env)) = true := by
    unfold methodCallForm
    rw [trees_all ps env hx]
    simp [backToKw, arm_keywordEach_nil]
    (first | lia | omega)
  have hpos : methodCallPos true o env ap ps = pure ps := by unfold methodCallPos; simp [hl]
  unfold methodCall
  rw [hform]
  exact wpAny_bind (wpAny_holding (wpAny_mono h₁ (fun r s₂ h₂ => wpAny_bind (wpAny_of_eq hpos h₂)) fun _ _ e => e))
end

/-- the facts of the program -/
structure PF (G : G0) (fa : Fn → Addr) (K : Frag) (mg mb : Str → Option Value) : Prop where
  gok : GOk G
  kin : K.In G.base
  cls : ∀ C, ClsOk K (G.ca C)
  mks : ∀ C, makesIn K (G.ca C) = true
  meth : ∀ f : Fn, f.isMeth = true → findIn K (.ref (G.ca f.owner)) f.nm = some (some (.ref (fa f))) ∧ typeIn K (.ref (fa f)) = some (.type "function")
  mfd : ∀ f : Fn, f.isMeth = true → ∀ d : Fd, d.str ≠ f.nm
  nmg : G.base.Ns mainGlobals mg
  nmb : G.base.Ns builtinsNs mb
  gfn : ∀ f : Fn, f.isFun = true → mg f.nm = some (.ref (fa f))
  gcl : ∀ c : Cls, mg c.str = some (.ref (G.ca c))
  ggl : ∀ g : Gl, ∃ t, mg g.str = some (.int g.val t)
  gbi : ∀ b : Bi, mg b.nam = none ∧ mb b.nam = some b.val
  gset : mg "set" = none ∧ mb "set" = some (.type "set")
  grange : mg "range" = none ∧ mb "range" = some (.type "range")
  gzip : mg "zip" = none ∧ mb "zip" = some (.type "zip")
  grev : mg "reversed" = none ∧ mb "reversed" = some (.type "reversed")
  fn : ∀ f : Fn, ∃ o fd, G.base.get? (fa f) = some o ∧ o.data = .func fd
  init : findIn K (.ref (G.ca .TermBank)) "__init__" = some (some (.ref (fa .termbank_init))) ∧ typeIn K (.ref (fa .termbank_init)) = some (.type "function") ∧
    findIn K (.ref (G.ca .Sharing)) "__init__" = some (some (.ref (fa .sharing_init))) ∧ typeIn K (.ref (fa .sharing_init)) = some (.type "function")

structure Room (d : Nat) (A : Around) : Prop where
  handled : A.handled = none
  depth : A.depth + 4 * (d + 1) < recursionLimit
  units : A.units + 10 * (d + 1) + 30 < cLine

structure CRoom (d : Nat) (A : Around) : Prop where
  handled : A.handled = none
  depth : A.depth + 4 * d + 1 < recursionLimit
  units : A.units + 10 * d + 34 < cLine
theorem Room.call {d : Nat} {A : Around} (h : Room d A) : CRoom d A := ⟨h.handled, by have := h.depth; (first | lia | omega), by have := h.units; (first | lia | omega)⟩
theorem Room.under {d : Nat} {A : Around} (h : Room d A) {c : Code} (hw : c.weight ≤ 2) (hu : c.cUnits ≤ 6) : CRoom d (A.under c) :=
  ⟨h.handled, by have := h.depth; show A.depth + c.weight + _ + _ < _; (first | lia | omega), by have := h.units; show A.units + c.cUnits + _ + _ < _; (first | lia | omega)⟩
theorem CRoom.body {d : Nat} {A : Around} (h : CRoom (d + 1) A) (env : Env) : Room d (A.deeper env) :=
  ⟨h.handled, by have := h.depth; show A.depth + 1 + _ < _; (first | lia | omega), by have := h.units; show A.units + 3 + _ + _ < _; (first | lia | omega)⟩

noncomputable def CallOk (G : G0) (fa : Fn → Addr) (S : Spec) (d : Nat) : Prop :=
  ∀ (f : Fn) (vs : List V) (σ : Sto) (Q : V → Sto → Prop) (p : Pl) (s : Shared) (A : Around) (cs : List Value), CRoom d A → Rp G p σ s.heap → VRs G.base p σ.length s.heap cs vs → S f vs σ Q →
    codeAny (model G.prog G.w) A (.call (.ref (fa f)) ⟨cs, []⟩) (fun r s' => ∃ c, r = .ok (.ret c) ∧ Post G noW p σ s (RE G Q) c s') s

section
variable {G : G0} {fa : Fn → Addr} {K : Frag} {mg mb : Str → Option Value} {A : Around} {E : Value → Shared → Prop} {s : Shared} {env : Env} {p : Pl} {σ : Sto} {l : Locs} {S : Spec} {d : Nat}

theorem Rp.kin (H : PF G fa K mg mb) {h : Heap} (R : Rp G p σ h) : K.In h := H.kin.keeps R.base
theorem Rp.nmg (H : PF G fa K mg mb) {h : Heap} (R : Rp G p σ h) : h.Ns mainGlobals mg := H.nmg.keeps R.base
theorem Rp.nmb (H : PF G fa K mg mb) {h : Heap} (R : Rp G p σ h) : h.Ns builtinsNs mb := H.nmb.keeps R.base

theorem ld_g (H : PF G fa K mg mb) (X : ER G env p σ.length s.heap l) (R : Rp G p σ s.heap) {x : Str} {v : Value} {pos : Pos} {Q : Value → Shared → Prop} (hk : isG env.scope.names x = true) (hv : mg x = some v) (hd : (x == ("__debug__" : Str)) = false) (q : Q v s) :
    wpAny (model G.prog G.w) A (eval (.Name x pos) env) Q E s :=
  Name_function_global X.kind (beq_iff_eq.mp hk) (loadGlobal_global (by rw [X.glob]; exact R.nmg H) hv q) hd
theorem ld_b (H : PF G fa K mg mb) (X : ER G env p σ.length s.heap l) (R : Rp G p σ s.heap) {x : Str} {v : Value} {pos : Pos} {Q : Value → Shared → Prop} (hk : isG env.scope.names x = true) (hm : mg x = none) (hv : mb x = some v) (hd : (x == ("__debug__" : Str)) = false) (q : Q v s) :
    wpAny (model G.prog G.w) A (eval (.Name x pos) env) Q E s :=
  Name_function_global X.kind (beq_iff_eq.mp hk) (loadGlobal_builtin (by rw [X.glob]; exact R.nmg H) hm (by rw [X.bi]; exact R.nmb H) hv q) hd

theorem callOk_wp (HS : CallOk G fa S d) {f : Fn} {vs : List V} {Q : V → Sto → Prop} {cs : List Value} (hA : Room d A) (R : Rp G p σ s.heap) (hv : VRs G.base p σ.length s.heap cs vs) (e : S f vs σ Q) :
    wpAny (model G.prog G.w) A (call (.ref (fa f)) cs) (Post G noW p σ s (RE G Q)) E s :=
  wpAny_call (codeAny_mono (HS f vs σ Q p s A cs hA.call R hv e) fun r s' z => by obtain ⟨c, rfl, z⟩ := z; exact z)

theorem fn_debug (f : Fn) : (f.nm == ("__debug__" : Str)) = false := by cases f <;> decide +kernel
theorem cls_debug (f : Cls) : (f.str == ("__debug__" : Str)) = false := by cases f <;> decide +kernel
theorem gl_debug (f : Gl) : (f.str == ("__debug__" : Str)) = false := by cases f <;> decide +kernel
theorem bi_debug (f : Bi) : (f.nam == ("__debug__" : Str)) = false := by cases f <;> decide +kernel
end
end Mine
namespace Mine
open PySem PySem.W PySem.Calls PyProof.Rows

section
variable {G : G0} {p p' p₁ : Pl} {σ σ' σ₁ : Sto} {h h' h₁ h₂ : Heap} {W : Addr → Prop}

/-- the step up to an adoption, seen from ahead of the object's making -/
theorem Stp.adopt {n : Nat} (S : Stp W p n h p₁ σ₁.length h₁) {a d : Addr} {o : AObj} (ha : h.get? a = none) (hd : h.get? d = none) (k : ∀ b o, b ≠ a → b ≠ d → h₁.get? b = some o → h₂.get? b = some o) :
    Stp W p n h (p₁.put σ₁.length a d) (σ₁ ++ [o]).length h₂ := by
  rw [len_snoc]
  have ne : ∀ b o, h.get? b = some o → b ≠ a ∧ b ≠ d := fun b o e => ⟨fun z => none_none e (z ▸ ha), fun z => none_none e (z ▸ hd)⟩
  refine ⟨Nat.le_succ_of_le S.len, fun j hj => ?_, fun b o e hp hw => k b o (ne b o e).1 (ne b o e).2 (S.kept b o e hp hw), fun b e => ?_, fun j h1 h2 => ?_⟩
  · have z := p₁.put_lt a d (Nat.lt_of_lt_of_le hj S.len)
    exact ⟨z.1.trans (S.agree j hj).1, z.2.trans (S.agree j hj).2⟩
  · obtain ⟨o, ho⟩ := Option.isSome_iff_exists.mp e
    obtain ⟨o', ho'⟩ := Option.isSome_iff_exists.mp (S.alive b e)
    exact isSome_of (k b o' (ne b o ho).1 (ne b o ho).2 ho')
  · exact Pl.put_cases (P := fun j x y => n ≤ j → h.get? x = none ∧ h.get? y = none) (fun j hj h1 => S.fresh j h1 hj) (fun _ => ⟨ha, hd⟩) j h2 h1

/-- a place of no one's changes, or goes -/
theorem Stp.other {n n' : Nat} (S : Stp W p n h p' n' h') {I : Addr} (hI : h.get? I = none) (k : ∀ b o, b ≠ I → h'.get? b = some o → h₂.get? b = some o) : Stp W p n h p' n' h₂ := by
  have ne : ∀ b o, h.get? b = some o → b ≠ I := fun b o e z => none_none e (z ▸ hI)
  refine ⟨S.len, S.agree, fun b o e hp hw => k b o (ne b o e) (S.kept b o e hp hw), fun b e => ?_, S.fresh⟩
  obtain ⟨o, ho⟩ := Option.isSome_iff_exists.mp e
  obtain ⟨o', ho'⟩ := Option.isSome_iff_exists.mp (S.alive b e)
  exact isSome_of (k b o' (ne b o ho) ho')
theorem Rp.other (R : Rp G p σ h) {I : Addr} (k : ∀ b o, b ≠ I → h.get? b = some o → h'.get? b = some o) (nt : ∀ items, ¬ h.IsTuple I items) (nI : G.base.get? I = none) (off : ∀ j, j < σ.length → p.φ j ≠ I ∧ p.δ j ≠ I) : Rp G p σ h' :=
  R.change (W := fun b => b = I) (fun b o e hb => k b o hb e) (fun b items hb => hb ▸ nt items) (fun b hb => hb ▸ nI) off
end

/-- an iteration over vs, with I as its iterator -/
structure ItS (G : G0) (A : Around) (I : Addr) (g : Option (Nat × List V)) (vs : List V) (Cur : Pl → Sto → Heap → Nat → Prop) : Prop where
  noTup : ∀ {p σ h i}, Cur p σ h i → ∀ items, ¬ h.IsTuple I items
  alive : ∀ {p σ h i}, Cur p σ h i → (h.get? I).isSome = true
  frame : ∀ {p σ h p' σ' h' i}, Cur p σ h i → (∀ o, h.get? I = some o → h'.get? I = some o) → σ.length ≤ σ'.length → (∀ k, k < σ.length → p'.φ k = p.φ k) → Tups h h' → Cur p' σ' h' i
  item : ∀ {i v p σ s Q E}, Cur p σ s.heap i → Rp G p σ s.heap → stays g σ → vs[i]? = some v →
    (∀ c h' tk, VR G.base p σ.length h' c v → Cur p σ h' (i + 1) → (∀ b o, b ≠ I → s.heap.get? b = some o → h'.get? b = some o) → Q (some c) { s with heap := h', toks := tk }) → wpAny (model G.prog G.w) A (pyNext (.ref I)) Q E s
  done : ∀ {p σ s Q E}, Cur p σ s.heap vs.length → Rp G p σ s.heap → stays g σ → (∀ h' tk, (∀ b o, b ≠ I → s.heap.get? b = some o → h'.get? b = some o) → Q none { s with heap := h', toks := tk }) →
    wpAny (model G.prog G.w) A (pyNext (.ref I)) Q E s
  self : ∀ {i p σ s Q E}, Cur p σ s.heap i → Q (.ref I) s → wpAny (model G.prog G.w) A (pyIter (.ref I)) Q E s
  own : ∀ {i p σ s Q E tgt c}, Cur p σ s.heap i → Q () s → wpAny (model G.prog G.w) A (letOwnedTupleGo tgt (.ref I) c) Q E s

section
variable {G : G0} {A : Around} {I : Addr}
theorem tups_but {h h' : Heap} {I : Addr} (nt : ∀ items, ¬ h.IsTuple I items) (k : ∀ b o, b ≠ I → h.get? b = some o → h'.get? b = some o) : Tups h h' := fun b items ht => (id ht).imp fun x => And.imp (k b x fun z => nt items (z ▸ ht)) id
theorem VR.tups {base : Heap} {p : Pl} {n : Nat} {h h' : Heap} {c : Value} {v : V} (x : VR base p n h c v) (T : Tups h h') : VR base p n h' c v := x.mono (Nat.le_refl _) (fun _ _ => rfl) T
theorem VRs.tups {base : Heap} {p : Pl} {n : Nat} {h h' : Heap} {c : List Value} {v : List V} (x : VRs base p n h c v) (T : Tups h h') : VRs base p n h' c v := VRs.mono (Nat.le_refl _) (fun _ _ => rfl) T x
theorem li_noTup {h : Heap} {l : Addr} {i : Nat} (x : h.IsListIter I l i) (items : Array Value) : ¬ h.IsTuple I items := by
  exact x.elim fun _ z => not_tup_of z.1 (z.2.1 ▸ by decide) _
theorem ti_noTup {h : Heap} {l : Addr} {i : Nat} (x : h.IsTupleIter I l i) (items : Array Value) : ¬ h.IsTuple I items := by
  exact x.elim fun _ z => not_tup_of z.1 (z.2.1 ▸ by decide) _

theorem own_of {M : Model} {s : Shared} {o : Obj} {T : String} {tgt : Expr} {c : Value} {Q : Unit → Shared → Prop} {E : Value → Shared → Prop} (ho : s.heap.get? I = some o) (hc : o.cls = .type T)
    (hT : ["enumerate", "zip", "dict_itemiterator", "dict_reverseitemiterator", "odict_iterator", "itertools.zip_longest", "itertools.pairwise"].contains T = false) (q : Q () s) : wpAny M A (letOwnedTupleGo tgt (.ref I) c) Q E s := by
  have go : ∀ (b : Bool) (m : Sem Unit), ["enumerate", "zip", "dict_itemiterator", "dict_reverseitemiterator", "odict_iterator", "itertools.zip_longest", "itertools.pairwise"].contains T = false → wpAny M A (if (["enumerate", "zip", "dict_itemiterator", "dict_reverseitemiterator", "odict_iterator", "itertools.zip_longest", "itertools.pairwise"].contains T && b) = true then m else pure ()) Q E s := fun b m z => by
    rw [z, Bool.false_and]; exact wpAny_pure q
  cases tgt <;> first
    | exact wpAny_pure q
    | (cases c <;> first
        | exact wpAny_pure q
        | (refine wpAny_bind (wpAny_load ho ?_)
           rw [hc]
           cases o.data <;> first
             | exact wpAny_pure q
             | exact go _ _ hT))

theorem ItS.list (hh : A.handled = none) (n : Nat) (xs : List V) : ItS G A I (some (n, xs)) xs (fun p σ h i => n < σ.length ∧ h.IsListIter I (p.φ n) i) where
  noTup := fun c => li_noTup c.2
  alive := fun c => c.2.elim fun _ z => isSome_of z.1
  frame := fun c k hl ha T => ⟨Nat.lt_of_lt_of_le c.1 hl, by rw [ha n c.1]; exact c.2.imp fun o => And.imp (k o) id⟩
  item := fun {i v p σ s Q E} c R st hv q => by
    obtain ⟨_, _, its, k₀, h0, hvs⟩ := lst_get R st
    obtain ⟨cv, h1, h2⟩ := VRs.get hvs hv
    refine wpAny_pyNext_list_item c.2 (isList_of h0) (by rw [← Array.getElem?_toList]; exact h1) fun h' hit hs => ?_
    have k := fun b o (hb : b ≠ I) (e : s.heap.get? b = some o) => hs.extBut b o hb e
    exact q cv h' s.toks (h2.tups (tups_but (li_noTup c.2) k)) ⟨c.1, hit⟩ k
  done := fun {p σ s Q E} c R st q => by
    obtain ⟨_, _, its, k₀, h0, hvs⟩ := lst_get R st
    refine wpAny_pyNext_list_end hh c.2 (isList_of h0) (Array.getElem?_eq_none (Nat.le_of_eq (size_of_vrs hvs))) fun h' he => q h' s.toks he
  self := fun c q => wpAny_pyIter_listiter c.2 q
  own := fun c q => c.2.elim fun _ z => own_of z.1 z.2.1 (by decide) q

theorem ItS.tuple (hh : A.handled = none) (a : Addr) (vs : List V) : ItS G A I none vs (fun p σ h i => h.IsTupleIter I a i ∧ ∃ its, h.IsTuple a its ∧ VRs G.base p σ.length h its.toList vs) where
  noTup := fun c => ti_noTup c.1
  alive := fun c => c.1.elim fun _ z => isSome_of z.1
  frame := fun c k hl ha T => ⟨c.1.imp fun o => And.imp (k o) id, c.2.imp fun _ => And.imp (T _ _) (VRs.mono hl ha T)⟩
  item := fun {i v p σ s Q E} c R st hv q => by
    obtain ⟨ht, its, h0, hvs⟩ := c
    obtain ⟨cv, h1, h2⟩ := VRs.get hvs hv
    refine wpAny_pyNext_tuple_item ht h0 (by rw [← Array.getElem?_toList]; exact h1) fun h' hit hs => ?_
    have k := fun b o (hb : b ≠ I) (e : s.heap.get? b = some o) => hs.extBut b o hb e
    have T := tups_but (ti_noTup ht) k
    exact q cv h' s.toks (h2.tups T) ⟨hit, its, T _ _ h0, VRs.tups hvs T⟩ k
  done := fun {p σ s Q E} c R st q => by
    obtain ⟨ht, its, h0, hvs⟩ := c
    refine wpAny_pyNext_tuple_end hh ht h0 (Array.getElem?_eq_none (Nat.le_of_eq (size_of_vrs hvs))) fun h' he => q h' s.toks he
  self := fun c q => wpAny_pyIter_tupleiter c.1 q
  own := fun c q => c.1.elim fun _ z => own_of z.1 z.2.1 (by decide) q

theorem ItS.range (hh : A.handled = none) (n : Nat) : ItS G A I none ((List.range n).map fun (i : Nat) => V.int (i : Int)) (fun _ _ h i => IsRangeIter h I ((0 : Int) + (i : Nat) * 1) ((n : Int) - (i : Nat)) 1) where
  noTup := fun c items => not_tup_of (show _ = some _ from c) (by show Value.type "range_iterator" ≠ _; decide) _
  alive := fun c => isSome_of c
  frame := fun c k _ _ _ => k _ c
  item := fun {i v p σ s Q E} c R st hv q => by
    have hi : i < n := by
      have := (List.getElem?_eq_some_iff.mp hv).1
      rwa [List.length_map, List.length_range] at this
    have hv' : v = .int (i : Int) := by
      rw [List.getElem?_map, List.getElem?_range hi] at hv
      exact (Option.some.inj hv).symm
    have W := Walks.range (prog := G.prog) (w := G.w) hh I 0 1 n
    refine W.item i s Q E hi c fun u h' tk hu hst hk => ?_
    obtain ⟨t, rfl⟩ := hu
    subst hv'
    rw [Int.mul_one, Int.zero_add]
    exact q _ h' tk (.int _ _) hst fun b o hb e => hk b o (fun z => hb (List.mem_singleton.mp z)) e
  done := fun {p σ s Q E} c R st q => by
    have W := Walks.range (prog := G.prog) (w := G.w) hh I 0 1 n
    refine W.done s Q E (by simpa using c) fun h' tk hk => q h' tk fun b o hb e => hk b o (fun z => hb (List.mem_singleton.mp z)) e
  self := fun c q => wpAny_pyIter_rangeiter c q
  own := fun c q => own_of (show _ = some _ from c) rfl (by decide) q
end
end Mine
namespace Mine
open PySem PySem.W PySem.Calls PyProof.Rows

noncomputable def Sep (cs : List (Str × Addr)) : Prop := ∀ x y a, cs.lookup x = some a → cs.lookup y = some a → x = y

theorem lk_cons {α : Type} (n x : Str) (a : α) (r : List (Str × α)) : List.lookup x ((n, a) :: r) = if x = n then some a else List.lookup x r := by
  rw [List.lookup_cons]
  by_cases h : x = n
  · subst h; simp
  · rw [beq_eq_false_iff_ne.mpr h, if_neg h]

theorem lk_some {α : Type} {n x : Str} {a b : α} {r : List (Str × α)} {P : Prop} (e : List.lookup x ((n, a) :: r) = some b) (h1 : x = n → b = a → P) (h2 : x ≠ n → List.lookup x r = some b → P) : P := by
  rw [lk_cons] at e
  by_cases h : x = n
  · rw [if_pos h] at e; exact h1 h (Option.some.inj e).symm
  · rw [if_neg h] at e; exact h2 h e
theorem lk_isSome {α : Type} {n x : Str} {a : α} {r : List (Str × α)} (h : x = n ∨ (List.lookup x r).isSome = true) : (List.lookup x ((n, a) :: r)).isSome = true := by
  rw [lk_cons]
  by_cases z : x = n
  · rw [if_pos z]; rfl
  · rw [if_neg z]; exact h.resolve_left z
/-- what the cells laid at sz and up are -/
structure Cells (names : List (Str × NameKind)) (sz : Nat) (acc cs : List (Str × Addr)) (h : Heap) : Prop where
  sep : Sep cs
  of : ∀ x a, cs.lookup x = some a → acc.lookup x = some a ∨ sz ≤ a ∧ h.IsCell a none
  has : ∀ x, (x, NameKind.cell) ∈ names ∨ (acc.lookup x).isSome = true → (cs.lookup x).isSome = true
  old : ∀ x, (x, NameKind.cell) ∉ names → cs.lookup x = acc.lookup x
  new : ∀ x a, (x, NameKind.cell) ∈ names → cs.lookup x = some a → sz ≤ a
theorem cells_ok (names : List (Str × NameKind)) (h : Heap) (acc : List (Str × Addr)) (hlt : ∀ x a, acc.lookup x = some a → a < h.objs.size) (hs : Sep acc) : Cells names h.objs.size acc (cellsFrom h.objs.size names acc) (pushCells h names) := by
  induction names generalizing h acc with
  | nil => exact ⟨hs, fun _ _ e => .inl e, fun x e => e.elim (fun z => nomatch z) id, fun _ _ => rfl, fun _ _ e _ => nomatch e⟩
  | cons p r ih =>
    obtain ⟨name, kind⟩ := p
    unfold cellsFrom pushCells
    by_cases hk : (kind == NameKind.cell) = true
    · cases beq_iff_eq.mp hk
      rw [if_pos hk, if_pos hk]
      have sz : (h.push { cls := .type "cell", data := .cell none }).objs.size = h.objs.size + 1 := Heap.size_push ..
      have ih := ih (h.push { cls := .type "cell", data := .cell none }) ((name, h.objs.size) :: acc) (fun x a e => sz ▸ lk_some e (fun _ e => e ▸ Nat.lt_succ_self _) fun _ e => Nat.lt_succ_of_lt (hlt x a e)) fun x y a e1 e2 =>
        lk_some e1 (fun h1 z => lk_some e2 (fun h2 _ => h1.trans h2.symm) fun _ e2 => absurd (hlt y _ e2) (z ▸ Nat.lt_irrefl _)) fun _ e1 => lk_some e2 (fun _ z => absurd (hlt x _ e1) (z ▸ Nat.lt_irrefl _)) fun _ e2 => hs x y a e1 e2
      rw [sz] at ih
      refine ⟨ih.sep, fun x a e => ?_, fun x e => ih.has x ?_, fun x e => ?_, fun x a e e' => ?_⟩
      · rcases ih.of x a e with q | ⟨q1, q2⟩
        · refine lk_some q (fun _ z => ?_) fun _ q => .inl q
          subst z
          have : (h.push { cls := .type "cell", data := .cell none }).IsCell h.objs.size none := ⟨_, Heap.get?_push_size _ rfl, rfl⟩
          exact .inr ⟨Nat.le_refl _, this.keeps (pushCells_keeps _ _)⟩
        · exact .inr ⟨Nat.le_of_succ_le q1, q2⟩
      · rcases e with e | e
        · rcases List.mem_cons.mp e with e | e
          · cases e; exact .inr (lk_isSome (.inl rfl))
          · exact .inl e
        · exact .inr (lk_isSome (.inr e))
      · rw [ih.old x fun z => e (List.mem_cons_of_mem _ z), lk_cons, if_neg]
        exact fun z => e (z ▸ List.mem_cons_self)
      · by_cases hm : (x, NameKind.cell) ∈ r
        · exact Nat.le_of_succ_le (ih.new x a hm e')
        · rw [ih.old x hm] at e'
          refine lk_some e' (fun _ z => Nat.le_of_eq z.symm) fun hne _ => ?_
          rcases List.mem_cons.mp e with z | z
          · cases z; exact absurd rfl hne
          · exact absurd z hm
    · rw [if_neg hk, if_neg hk]
      have ih := ih h acc hlt hs
      have hne : ∀ x, (x, NameKind.cell) ∈ (name, kind) :: r → (x, NameKind.cell) ∈ r := fun x z => (List.mem_cons.mp z).resolve_left fun z => hk (by cases z; rfl)
      exact ⟨ih.sep, ih.of, fun x e => ih.has x (e.imp (hne x) id), fun x e => ih.old x fun z => e (List.mem_cons_of_mem _ z), fun x a e e' => ih.new x a (hne x e) e'⟩

noncomputable def clOf (cells : List (Str × Addr)) : List (Str × NameKind) → List (Str × Addr) → List (Str × Addr)
  | [], acc => acc
  | (n, k) :: r, acc => if k == .free then clOf cells r ((n, (cells.lookup n).getD 0) :: acc) else clOf cells r acc

theorem clOf_forIn (env : Env) (f : Str × NameKind → List (Str × Addr) → Sem (ForInStep (List (Str × Addr))))
    (hf : ∀ n k acc, f (n, k) acc = if k == .free then (do let a ← cellOf env n; pure (.yield ((n, a) :: acc))) else pure (.yield acc))
    (names : List (Str × NameKind)) (acc : List (Str × Addr)) (h : ∀ n, (n, NameKind.free) ∈ names → (env.cells.lookup n).isSome = true) : forIn names acc f = pure (clOf env.cells names acc) := by
  induction names generalizing acc with
  | nil => rw [List.forIn_nil]; rfl
  | cons p r ih =>
    obtain ⟨n, k⟩ := p
    rw [List.forIn_cons, hf]
    unfold clOf
    by_cases hk : (k == NameKind.free) = true
    · rw [if_pos hk, if_pos hk]
      cases beq_iff_eq.mp hk
      obtain ⟨a, ha⟩ := Option.isSome_iff_exists.mp (h n List.mem_cons_self)
      unfold cellOf
      rw [ha]
      exact ih _ fun m hm => h m (List.mem_cons_of_mem _ hm)
    · rw [if_neg hk, if_neg hk]
      exact ih _ fun m hm => h m (List.mem_cons_of_mem _ hm)
theorem closure_eq {scope : Scope} {env : Env} (h : ∀ n, (n, NameKind.free) ∈ scope.names → (env.cells.lookup n).isSome = true) : closureFor scope env = pure (clOf env.cells scope.names []) := by
  unfold closureFor
  simp only []
  rw [clOf_forIn env _ (fun n k acc => by cases hk : k == NameKind.free <;> simp [hk]) scope.names [] h]
  rfl
theorem clOf_some {cells : List (Str × Addr)} {names : List (Str × NameKind)} {acc : List (Str × Addr)} {x : Str} {a : Addr} (e : (clOf cells names acc).lookup x = some a) :
    acc.lookup x = some a ∨ ((x, NameKind.free) ∈ names ∧ a = (cells.lookup x).getD 0) := by
  induction names generalizing acc with
  | nil => exact .inl e
  | cons p r ih =>
    obtain ⟨n, k⟩ := p
    unfold clOf at e
    by_cases hk : (k == NameKind.free) = true
    · rw [if_pos hk] at e
      cases beq_iff_eq.mp hk
      exact (ih e).elim (fun q => lk_some q (fun hx z => .inr ⟨hx ▸ List.mem_cons_self, hx ▸ z⟩) fun _ q => .inl q) fun q => .inr ⟨List.mem_cons_of_mem _ q.1, q.2⟩
    · rw [if_neg hk] at e
      exact (ih e).imp id fun q => ⟨List.mem_cons_of_mem _ q.1, q.2⟩
theorem clOf_isSome {cells : List (Str × Addr)} {names : List (Str × NameKind)} {acc : List (Str × Addr)} {x : Str} (e : (x, NameKind.free) ∈ names ∨ (acc.lookup x).isSome = true) : ((clOf cells names acc).lookup x).isSome = true := by
  induction names generalizing acc with
  | nil => exact e.elim (fun z => nomatch z) id
  | cons p r ih =>
    obtain ⟨n, k⟩ := p
    unfold clOf
    by_cases hk : (k == NameKind.free) = true
    · rw [if_pos hk]
      exact ih (e.elim (fun z => (List.mem_cons.mp z).elim (fun z => .inr (lk_isSome (.inl (congrArg Prod.fst z)))) .inl) fun z => .inr (lk_isSome (.inr z)))
    · rw [if_neg hk]
      exact ih (e.imp (fun z => (List.mem_cons.mp z).resolve_left fun z => hk (by cases z; rfl)) id)

theorem lookup_mem {α : Type} : ∀ {l : List (Str × α)} {x : Str} {k : α}, l.lookup x = some k → (x, k) ∈ l := PySem.mem_of_lookup
theorem mem_lookup {α : Type} : ∀ {l : List (Str × α)} {x : Str} {k : α}, (l.map (·.1)).Nodup → (x, k) ∈ l → l.lookup x = some k
  | (n, a) :: r, x, k, hn, hm => by
    simp only [List.map_cons, List.nodup_cons] at hn
    rw [lk_cons]
    rcases List.mem_cons.mp hm with z | z
    · cases z; rw [if_pos rfl]
    · rw [if_neg, mem_lookup hn.2 z]
      rintro rfl
      exact hn.1 (List.mem_map.mpr ⟨_, z, rfl⟩)
theorem nm_dot0 (x : Nm) : x.str ≠ (".0" : Str) := (by decide +kernel : ∀ x : Nm, x.str ≠ (".0" : Str)) x

theorem relabel_names (sc : Scope) (env : Env) (hk : env.scope.kind = .function) : (relabel sc env).names = inner env.scope.names sc := by
  unfold relabel inner
  simp only [hk, beq_self_eq_true, Bool.and_true]
  rfl
theorem inner_some {nm : Nms} {sc : Scope} {x : Str} {k' : NameKind} (hn : (sc.names.map (·.1)).Nodup) (e : (inner nm sc).lookup x = some k') : ∃ k, (x, k) ∈ sc.names ∧ k' = if (k == .free && nm.lookup x == some .cell) then .cell else k := by
  have := lookup_mem e
  unfold inner at this
  obtain ⟨⟨n, k⟩, hm, he⟩ := List.mem_map.mp this
  dsimp only at he
  split at he
  · rename_i hc
    cases he
    exact ⟨_, hm, by rw [if_pos hc]⟩
  · rename_i hc
    cases he
    exact ⟨_, hm, by rw [if_neg hc]⟩
theorem inner_tgt {nm : Nms} {sc : Scope} {x : Str} {k : NameKind} (hn : (sc.names.map (·.1)).Nodup) (e : sc.names.lookup x = some k) (hk : k = .local ∨ k = .cell) : (inner nm sc).lookup x = some k := by
  refine mem_lookup ?_ ?_
  · have : (inner nm sc).map (·.1) = sc.names.map (·.1) := by
      unfold inner
      rw [List.map_map]
      apply List.map_congr_left
      intro p _
      obtain ⟨n, k⟩ := p
      simp only [Function.comp]
      split <;> rfl
    rw [this]; exact hn
  · unfold inner
    refine List.mem_map.mpr ⟨(x, k), lookup_mem e, ?_⟩
    dsimp only
    rw [if_neg]
    rcases hk with rfl | rfl <;> simp

structure ScOk (nm : Nms) (sc : Scope) (xs : List Nm) : Prop where
  kind : sc.kind = .function
  nodup : (sc.names.map (·.1)).Nodup
  tgt : ∀ x ∈ xs, sc.names.lookup x.str = some .local ∨ sc.names.lookup x.str = some .cell
  free : ∀ n, (n, NameKind.free) ∈ sc.names → nm.lookup n = some .cell ∨ nm.lookup n = some .free
  own : ∀ n k, (n, k) ∈ sc.names → k = .local ∨ k = .cell → n = (".0" : Str) ∨ ∃ x ∈ xs, n = x.str
theorem okSc_of {nm : Nms} {sc : Scope} {xs : List Nm} (h : okSc nm sc xs = true) : ScOk nm sc xs := by
  unfold okSc at h
  simp only [Bool.and_eq_true] at h
  obtain ⟨h1, h2, h3, h4, h5⟩ := h
  refine ⟨beq_iff_eq.mp h1, of_decide_eq_true h2, fun x hx => ?_, fun n hn => ?_, fun n k hn hk => ?_⟩
  · have := List.all_eq_true.mp h3 x hx
    rw [Bool.or_eq_true, beq_iff_eq, beq_iff_eq] at this; exact this
  · have := List.all_eq_true.mp h4 _ hn
    simp only [bne_self_eq_false, Bool.false_or, Bool.or_eq_true, beq_iff_eq] at this
    exact this
  · have := List.all_eq_true.mp h5 _ hn
    dsimp only at this
    rw [Bool.or_eq_true, Bool.or_eq_true] at this
    rcases this with (z | z) | z
    · rcases hk with rfl | rfl <;> simp at z
    · exact .inl (beq_iff_eq.mp z)
    · obtain ⟨x, hx, e⟩ := List.any_eq_true.mp z
      exact .inr ⟨x, hx, beq_iff_eq.mp e⟩

section
variable {M : Model} {A : Around} {E : Value → Shared → Prop} {s : Shared} {G : G0} {p : Pl} {σ : Sto} {env : Env} {l : Locs}

theorem cenv_er {h h' : Heap} {cells : List (Str × Addr)} {m₀ : Str → Option Value} {sc : Scope} {xs : List Nm} (X : ER G env p σ.length h l) (R : Rp G p σ h) (hok : ScOk env.scope.names sc xs) (kall : ∀ b o, h.get? b = some o → h'.get? b = some o)
    (cl1 : ∀ x a, (clOf env.cells sc.names []).lookup x = some a → (x, NameKind.free) ∈ sc.names ∧ env.cells.lookup x = some a) (lt : ∀ x a, env.cells.lookup x = some a → a < h.objs.size)
    (cc : Cells sc.names (h.objs.size + 1) (clOf env.cells sc.names []) cells h') (hns : h'.Ns h.objs.size m₀) : ER G (compEnvC sc cells h.objs.size env) p σ.length h' (fun x => if x ∈ xs then none else l x) := by
  have offNew : ∀ a, h.objs.size ≤ a → ∀ k, k < σ.length → p.φ k ≠ a ∧ p.δ k ≠ a := fun a ha k hk =>
     R.off (none_at ha) hk
  have T : Tups h h' := fun a its => Exists.imp fun o => And.imp (kall a o) id
  have hnames := relabel_names sc env X.kind
  have notCell : ∀ x, (x, NameKind.free) ∈ sc.names → (x, NameKind.cell) ∉ sc.names := fun x h1 h2 => by
    have a1 := mem_lookup hok.nodup h1
    rw [mem_lookup hok.nodup h2] at a1; cases a1
  refine ⟨hok.kind, X.glob, X.bi, ⟨_, hns, fun x v e => ?_⟩, offNew _ (Nat.le_refl _), R.none_of (none_at (Nat.le_refl _)), fun x a e => ?_, fun x e => ?_, cc.sep⟩
  · split at e
    · cases e
    rename_i hx
    have ownNo : ∀ k, (x.str, k) ∈ sc.names → ¬ (k = .local ∨ k = .cell) := fun k hm hk => by
      rcases hok.own _ _ hm hk with z | ⟨y, hy, z⟩
      · exact nm_dot0 x z
      · exact hx (nm_inj z ▸ hy)
    have main : ∀ k', (compEnvC sc cells h.objs.size env).kindOf x.str = some k' → (k' = .local ∨ k' = .cell ∨ k' = .free) → (x.str, NameKind.free) ∈ sc.names ∧ (k' = .cell ∨ k' = .free) := fun k' hk h3 => by
      have hk2 : (inner env.scope.names sc).lookup x.str = some k' := by rw [← hnames]; exact hk
      obtain ⟨k, hm, hk'⟩ := inner_some hok.nodup hk2
      by_cases hc : (k == NameKind.free && env.scope.names.lookup x.str == some NameKind.cell) = true
      · rw [if_pos hc] at hk'
        rw [Bool.and_eq_true, beq_iff_eq] at hc
        rw [← hc.1]; exact ⟨hm, .inl hk'⟩
      · rw [if_neg hc] at hk'
        subst hk'
        rcases h3 with z | z | z
        · exact absurd (.inl z) (ownNo _ hm)
        · exact absurd (.inr z) (ownNo _ hm)
        · rw [z] at hm ⊢; exact ⟨hm, .inr rfl⟩
    refine ⟨fun hk => ?_, fun hk => ?_⟩
    · rcases (main _ hk (.inl rfl)).2 with z | z <;> cases z
    · have hm : (x.str, NameKind.free) ∈ sc.names := by
        rcases hk with hk | hk
        · exact (main _ hk (.inr (.inl rfl))).1
        · exact (main _ hk (.inr (.inr rfl))).1
      obtain ⟨m, hn, hmm⟩ := X.ns
      obtain ⟨a, c, h1, h2, h3⟩ := (hmm x v e).2 (hok.free _ hm)
      obtain ⟨a', ha'⟩ := Option.isSome_iff_exists.mp (clOf_isSome (cells := env.cells) (names := sc.names) (acc := []) (.inl hm))
      have := (cl1 _ _ ha').2
      rw [h1] at this; cases this
      refine ⟨a, c, ?_, h2.keeps kall, h3.mono (Nat.le_refl _) (fun _ _ => rfl) T⟩
      show List.lookup x.str cells = _
      rw [cc.old _ (notCell _ hm), ha']
  · rcases cc.of x a e with z | ⟨z1, z2⟩
    · have hz := (cl1 x a z).2
      obtain ⟨⟨c, hc⟩, h1, h2, h3⟩ := X.cell x a hz
      refine ⟨⟨c, hc.keeps kall⟩, ?_, h2, h3⟩
      exact Nat.ne_of_lt (lt x a hz)
    · refine ⟨⟨none, z2⟩, ?_, R.none_of (none_at (Nat.le_of_succ_le z1)), offNew _ (Nat.le_of_succ_le z1)⟩
      exact Nat.ne_of_gt z1
  · refine cc.has x ?_
    have go : ∀ k', (compEnvC sc cells h.objs.size env).kindOf x = some k' → (k' = .cell ∨ k' = .free) → (x, NameKind.cell) ∈ sc.names ∨ ((clOf env.cells sc.names []).lookup x).isSome = true := fun k' hk h3 => by
      have hk2 : (inner env.scope.names sc).lookup x = some k' := by rw [← hnames]; exact hk
      obtain ⟨k, hm, hk'⟩ := inner_some hok.nodup hk2
      by_cases hc : (k == NameKind.free && env.scope.names.lookup x == some NameKind.cell) = true
      · rw [Bool.and_eq_true, beq_iff_eq] at hc
        rw [hc.1] at hm
        exact .inr (clOf_isSome (.inl hm))
      · rw [if_neg hc] at hk'
        subst hk'
        rcases h3 with z | z
        · rw [z] at hm; exact .inl hm
        · rw [z] at hm; exact .inr (clOf_isSome (.inl hm))
    rcases e with e | e
    · exact go _ e (.inl rfl)
    · exact go _ e (.inr rfl)
theorem cenv_make {sc : Scope} {xs : List Nm} (X : ER G env p σ.length s.heap l) (R : Rp G p σ s.heap) (hok : ScOk env.scope.names sc xs) {Q : Env → Shared → Prop}
    (q : ∀ h' C cells, s.heap.get? C = none → (∀ b o, s.heap.get? b = some o → h'.get? b = some o) →
      (∀ x ∈ xs, ∀ b, sc.names.lookup x.str = some .cell → cells.lookup x.str = some b → s.heap.get? b = none) →
      (∀ x b, cells.lookup x = some b → s.heap.get? b = none ∨ env.cells.lookup x = some b) →
      ER G (compEnvC sc cells C env) p σ.length h' (fun x => if x ∈ xs then none else l x) →
      Q (newEnv sc C env.globals cells env.qual none .none (some env) builtinsNs) { s with heap := h' }) :
    wpAny M A (newFunctionEnv sc env.globals (clOf env.cells sc.names []) [] env.qual none .none (some env)) Q E s := by
  simp only [newFunctionEnv, Option.isSome_some, if_true]
  refine wpAny_bind (wpAny_alloc ?_)
  refine wpAny_bind (wpAny_layCells _ (fun name kind cells => by cases hkc : kind == NameKind.cell <;> simp [hkc]) _ _ _ _ ?_)
  refine wpAny_bind (wpAny_pure (wpAny_pure ?_))
  have hsz : (s.heap.push { cls := .type "dict", data := .dict #[] }).objs.size = s.heap.objs.size + 1 := Heap.size_push ..
  have kp : ∀ b o, s.heap.get? b = some o → (s.heap.push { cls := .type "dict", data := .dict #[] }).get? b = some o := fun b o e => Heap.get?_push_of_some _ e
  have cl1 : ∀ x a, (clOf env.cells sc.names []).lookup x = some a → (x, NameKind.free) ∈ sc.names ∧ env.cells.lookup x = some a := fun x a e => by
    rcases clOf_some e with z | ⟨z1, z2⟩
    · cases z
    · refine ⟨z1, ?_⟩
      obtain ⟨b, hb⟩ := Option.isSome_iff_exists.mp (X.all x (hok.free x z1))
      rw [hb] at z2; rw [z2, hb]; rfl
  have lt : ∀ x a, env.cells.lookup x = some a → a < s.heap.objs.size := fun x a e => (X.cell x a e).1.elim fun _ z => z.elim fun _ z => Heap.lt_size z.1
  have cc := cells_ok sc.names (s.heap.push { cls := .type "dict", data := .dict #[] }) (clOf env.cells sc.names []) (fun x a e => by rw [hsz]; exact Nat.lt_succ_of_lt (lt x a (cl1 x a e).2))
    (fun x y a e1 e2 => X.sep x y a (cl1 x a e1).2 (cl1 y a e2).2)
  rw [hsz] at cc
  have hL : ({ s with heap := s.heap.push { cls := .type "dict", data := .dict #[] } } : Shared).heap.objs.size = s.heap.objs.size + 1 := hsz
  rw [hL]
  refine q (pushCells (s.heap.push { cls := .type "dict", data := .dict #[] }) sc.names) s.heap.objs.size (cellsFrom (s.heap.objs.size + 1) sc.names (clOf env.cells sc.names [])) (none_at (Nat.le_refl _))
    (fun b o e => pushCells_keeps _ _ b o (kp b o e)) (fun x hx b hc e => none_at (Nat.le_of_succ_le (cc.new _ _ (lookup_mem hc) e)))
    (fun x b e => (cc.of x b e).elim (fun z => .inr (cl1 x b z).2) fun z => .inl (none_at (Nat.le_of_succ_le z.1))) (cenv_er X R hok (fun b o e => pushCells_keeps _ _ b o (kp b o e)) cl1 lt cc ((Heap.Ns.new s.heap (.type "dict")).keeps (pushCells_keeps _ _)))
end
end Mine
namespace Mine
open PySem PySem.W PySem.Calls PyProof.Rows

noncomputable def JE (G : G0) (S : Spec) (A : Around) (e : E) (nm : Nms) (x : Expr) : Prop :=
  ∀ (env : Env) (l : Locs) (σ : Sto) (p : Pl) (s : Shared) (Q : V → Sto → Prop) (E : Value → Shared → Prop), env.scope.names = nm → ER G env p σ.length s.heap l → Rp G p σ s.heap → evE S e l σ Q →
    wpAny (model G.prog G.w) A (eval x env) (Post G noW p σ s (RE G Q)) E s
noncomputable def JEs (G : G0) (S : Spec) (A : Around) (es : List E) (nm : Nms) (xs : List Expr) : Prop :=
  ∀ (env : Env) (l : Locs) (σ : Sto) (p : Pl) (s : Shared) (Q : List V → Sto → Prop) (E : Value → Shared → Prop) (ps : Pos), env.scope.names = nm → ER G env p σ.length s.heap l → Rp G p σ s.heap → evEs S es l σ Q →
    wpAny (model G.prog G.w) A (spliced (backTo ps (starEach xs env))) (Post G noW p σ s (REs G es.length Q)) E s
noncomputable def JT (G : G0) (S : Spec) (A : Around) (e : E) (nm : Nms) (x : Expr) : Prop :=
  ∀ (env : Env) (l : Locs) (σ : Sto) (p : Pl) (s : Shared) (Q : Bool → Sto → Prop) (E : Value → Shared → Prop), env.scope.names = nm → ER G env p σ.length s.heap l → Rp G p σ s.heap → evT S e l σ Q →
    wpAny (model G.prog G.w) A (isTrue x env (eval x env)) (Post G noW p σ s (RB Q)) E s
noncomputable abbrev tests (fx : List Expr) (env : Env) (b : Bool) : Sem Bool := forIn fx b fun c r => if r = true then do let ok ← isTrue c env (eval c env); pure (ForInStep.yield ok) else pure (ForInStep.yield r)
noncomputable def JTs (G : G0) (S : Spec) (A : Around) (es : List E) (nm : Nms) (xs : List Expr) : Prop :=
  ∀ (env : Env) (l : Locs) (σ : Sto) (p : Pl) (s : Shared) (Q : Bool → Sto → Prop) (E : Value → Shared → Prop), env.scope.names = nm → ER G env p σ.length s.heap l → Rp G p σ s.heap → evIfs S es l σ Q →
    wpAny (model G.prog G.w) A (tests xs env true) (Post G noW p σ s (RB Q)) E s

theorem tests_false (env : Env) (fx : List Expr) : tests fx env false = pure false := by
  induction fx with
  | nil => exact List.forIn_nil
  | cons c r ih => exact (List.forIn_cons ..).trans ih

section
variable {G : G0} {A : Around} {s : Shared} {p : Pl} {σ : Sto} {c : Value} {v : V} {E : Value → Shared → Prop}
theorem iter_of (hh : A.handled = none) (R : Rp G p σ s.heap) (hc : VR G.base p σ.length s.heap c v) {vs : List V} {g : Option (Nat × List V)} (e : itemsOf σ v = some (vs, g)) {Q : Value → Shared → Prop}
    (q : ∀ I h' Cur, s.heap.get? I = none → (∀ b o, s.heap.get? b = some o → h'.get? b = some o) → ItS G A I g vs Cur → Cur p σ h' 0 → stays g σ → vs.length < 100 → Q (.ref I) { s with heap := h' }) :
    wpAny (model G.prog G.w) A (pyIter c) Q E s := by
  have k : ∀ {x : Obj} b o, s.heap.get? b = some o → (s.heap.push x).get? b = some o := fun b o e => Heap.get?_push_of_some _ e
  revert hc
  refine V.byTR_el (P := fun v => VR G.base p σ.length s.heap c v → wpAny _ _ _ Q E s) e (fun us e hc => ?_) fun n e hc => ?_
  · obtain ⟨hl, e⟩ := gdK (P := fun q => us.length < 100 ∧ (us, none) = q) e fun h => ⟨h, rfl⟩
    cases e
    obtain ⟨a, its, rfl, ht, hv⟩ := hc.tup_inv
    have T : ∀ {x : Obj}, Tups s.heap (s.heap.push x) := fun a its => Exists.imp fun o => And.imp (k _ _) id
    exact wpAny_pyIter_tuple ht (q _ _ _ (none_at (Nat.le_refl _)) k (ItS.tuple hh a _) ⟨⟨_, Heap.get?_push_size _ rfl, rfl, rfl⟩, its, T _ _ ht, VRs.tups hv T⟩ trivial hl)
  · obtain ⟨xs, hl, e⟩ := bnd e
    obtain ⟨hlim, e⟩ := gdK (P := fun q => xs.length < 100 ∧ (xs, some (n, xs)) = q) e fun h => ⟨h, rfl⟩
    cases e
    obtain ⟨rfl, hn⟩ := hc.ref_inv
    obtain ⟨_, _, its, k₀, h0, hv⟩ := lst_get R hl
    exact wpAny_pyIter_list (isList_of h0) (q _ _ _ (none_at (Nat.le_refl _)) k (ItS.list hh _ _) ⟨hn, ⟨_, Heap.get?_push_size _ rfl, rfl, rfl⟩⟩ hl hlim)
end

/-- the core of a comprehension's state: D the list, I the iterator -/
structure Cor (G : G0) (env : Env) (W : Addr → Prop) (I D : Addr) (Cur : Pl → Sto → Heap → Nat → Prop) (pB : Pl) (nB : Nat) (hB : Heap) (i : Nat) (its : Array Value) (acc : List V) (p : Pl) (σ : Sto) (h : Heap) (l : Locs) : Prop where
  S : Stp W pB nB hB p σ.length h
  R : Rp G p σ h
  X : ER G env p σ.length h l
  cur : Cur p σ h i
  d : ∃ k₀, h.get? D = some (listOf its k₀)
  v : VRs G.base p σ.length h its.toList acc
  oI : ∀ j, j < σ.length → p.φ j ≠ I ∧ p.δ j ≠ I
  oD : ∀ j, j < σ.length → p.φ j ≠ D ∧ p.δ j ≠ D

/-- the places of a comprehension: its list, its iterator, its variables -/
structure Plc (G : G0) (env : Env) (W : Addr → Prop) (I D : Addr) (x : Nm) : Prop where
  tgt : env.kindOf x.str = some .local ∨ env.kindOf x.str = some .cell
  ID : I ≠ D
  oI : ¬ Own env I
  oD : ¬ Own env D
  wI : ¬ W I
  wD : W D
  wT : ∀ b, (env.kindOf x.str = some .local ∧ b = env.locals ∨ env.kindOf x.str = some .cell ∧ env.cells.lookup x.str = some b) → W b
  bI : G.base.get? I = none
  bD : G.base.get? D = none

theorem off_step {W : Addr → Prop} {p p' : Pl} {n n' : Nat} {h h' : Heap} (S : Stp W p n h p' n' h') {b : Addr} (hb : (h.get? b).isSome = true) (o : ∀ j, j < n → p.φ j ≠ b ∧ p.δ j ≠ b) : ∀ j, j < n' → p'.φ j ≠ b ∧ p'.δ j ≠ b := fun k hk => by
  rcases Nat.lt_or_ge k n with q | q
  · rw [(S.agree k q).1, (S.agree k q).2]; exact o k q
  · have f := S.fresh k q hk
    exact ⟨fun z => not_here f.1 hb z.symm, fun z => not_here f.2 hb z.symm⟩

section
variable {G : G0} {A : Around} {env : Env} {W : Addr → Prop} {I D : Addr} {x : Nm} {Cur : Pl → Sto → Heap → Nat → Prop} {pB p p' : Pl} {nB i : Nat} {hB h h' : Heap} {its : Array Value} {acc : List V} {σ σ' : Sto} {l : Locs} {g : Option (Nat × List V)} {vs : List V}

theorem Cor.dTup (C : Cor G env W I D Cur pB nB hB i its acc p σ h l) (items : Array Value) : ¬ h.IsTuple D items := by
  exact C.d.elim fun _ e => not_tup_of e (by show Value.type "list" ≠ _; decide) _
theorem Cor.step (T : ItS G A I g vs Cur) (P : Plc G env W I D x) (C : Cor G env W I D Cur pB nB hB i its acc p σ h l) (S : Stp noW p σ.length h p' σ'.length h') (R : Rp G p' σ' h') : Cor G env W I D Cur pB nB hB i its acc p' σ' h' l := by
  have tp := S.tups C.R noTupW_no
  exact ⟨C.S.transN S, R, C.X.step C.R S, T.frame C.cur (fun o e => S.kept I o e C.oI (fun w => w)) S.len (fun k hk => (S.agree k hk).1) tp, C.d.imp fun _ e => S.kept D _ e C.oD (fun w => w), S.vrs C.R noTupW_no C.v,
    off_step S (T.alive C.cur) C.oI, off_step S (C.d.elim fun _ e => isSome_of e) C.oD⟩
theorem Cor.sub (C : Cor G env W I D Cur pB nB hB i its acc p σ h l) {l' : Locs} (hs : ∀ x v, l' x = some v → l x = some v) : Cor G env W I D Cur pB nB hB i its acc p σ h l' :=
  ⟨C.S, C.R, C.X.sub hs, C.cur, C.d, C.v, C.oI, C.oD⟩

/-- the iterator's next item -/
theorem Cor.next (T : ItS G A I g vs Cur) (P : Plc G env W I D x) (hBI : hB.get? I = none) {s : Shared} (C : Cor G env W I D Cur pB nB hB i its acc p σ s.heap l) (hg : stays g σ) {v : V} (hv : vs[i]? = some v) {Q : Option Value → Shared → Prop} {E : Value → Shared → Prop}
    (q : ∀ c h' tk, VR G.base p σ.length h' c v → Cor G env W I D Cur pB nB hB (i + 1) its acc p σ h' l → Q (some c) { s with heap := h', toks := tk }) : wpAny (model G.prog G.w) A (pyNext (.ref I)) Q E s := by
  refine T.item C.cur C.R hg hv fun c h' tk hc hcur k => q c h' tk hc ?_
  have tp := tups_but (T.noTup C.cur) k
  exact ⟨C.S.other hBI k, C.R.other k (T.noTup C.cur) P.bI C.oI, C.X.keep (fun b hb o e => k b o (fun z => P.oI (z ▸ hb)) e) tp (Nat.le_refl _) (fun _ _ => ⟨rfl, rfl⟩) (fun j h1 h2 => absurd h2 (Nat.not_lt.mpr h1)), hcur,
    C.d.imp fun _ => k D _ P.ID.symm, VRs.tups C.v tp, C.oI, C.oD⟩
theorem Cor.last (T : ItS G A I g vs Cur) (P : Plc G env W I D x) (hBI : hB.get? I = none) {s : Shared} (C : Cor G env W I D Cur pB nB hB vs.length its acc p σ s.heap l) (hg : stays g σ) {Q : Option Value → Shared → Prop} {E : Value → Shared → Prop}
    (q : ∀ h' tk, Stp W pB nB hB p σ.length h' → Rp G p σ h' → ER G env p σ.length h' l → (∃ k₀, h'.get? D = some (listOf its k₀)) → VRs G.base p σ.length h' its.toList acc → Q none { s with heap := h', toks := tk }) : wpAny (model G.prog G.w) A (pyNext (.ref I)) Q E s := by
  refine T.done C.cur C.R hg fun h' tk k => ?_
  have tp := tups_but (T.noTup C.cur) k
  exact q h' tk (C.S.other hBI k) (C.R.other k (T.noTup C.cur) P.bI C.oI) (C.X.keep (fun b hb o e => k b o (fun z => P.oI (z ▸ hb)) e) tp (Nat.le_refl _) (fun _ _ => ⟨rfl, rfl⟩) (fun j h1 h2 => absurd h2 (Nat.not_lt.mpr h1)))
    (C.d.imp fun _ => k D _ P.ID.symm) (VRs.tups C.v tp)
/-- the variable takes the item -/
theorem Stp.wr {p p' : Pl} {n n' : Nat} {h h' h₂ : Heap} (S : Stp W p n h p' n' h') {b : Addr} (hb : W b) (hs : Heap.SameBut b h' h₂) (ha : (h₂.get? b).isSome = true) : Stp W p n h p' n' h₂ :=
  ⟨S.len, S.agree, fun c o e hp hw => by rw [hs.2 c fun z => hw (z ▸ hb)]; exact S.kept c o e hp hw, fun c e => by
    by_cases z : c = b
    · rw [z]; exact ha
    · rw [hs.2 c z]; exact S.alive c e, S.fresh⟩
theorem Cor.tgt (T : ItS G A I g vs Cur) (P : Plc G env W I D x) {s : Shared} (C : Cor G env W I D Cur pB nB hB i its acc p σ s.heap l) {c : Value} {v : V} {px : Pos} (hc : VR G.base p σ.length s.heap c v) {Q : Unit → Shared → Prop} {E : Value → Shared → Prop}
    (q : ∀ h' tk, Cor G env W I D Cur pB nB hB i its acc p σ h' (upd l x v) → Q () { s with heap := h', toks := tk }) : wpAny (model G.prog G.w) A (assign (.Name x.str px) env c) Q E s := by
  refine wpAny_assign_Name (C.X.store' C.R P.tgt hc fun b h' tk hb hs al tp R' X' => q h' tk ?_)
  have hO : Own env b := hb.imp (·.2) fun z => ⟨_, z.2⟩
  exact ⟨C.S.wr (P.wT b hb) hs al, R', X', T.frame C.cur (fun o => (hs.2 I fun z => P.oI (z ▸ hO)).trans) (Nat.le_refl _) (fun _ _ => rfl) tp, C.d.imp fun _ => (hs.2 D fun z => P.oD (z ▸ hO)).trans, VRs.tups C.v tp, C.oI, C.oD⟩
/-- the list takes an item -/
theorem Cor.app (T : ItS G A I g vs Cur) (P : Plc G env W I D x) {s : Shared} (C : Cor G env W I D Cur pB nB hB i its acc p σ s.heap l) {c : Value} {v : V} (hc : VR G.base p σ.length s.heap c v) (hl : acc.length < 20000) {Q : Value → Shared → Prop} {E : Value → Shared → Prop}
    (q : ∀ h' tk, Cor G env W I D Cur pB nB hB i (its.push c) (acc ++ [v]) p σ h' l → Q .none { s with heap := h', toks := tk }) : wpAny (model G.prog G.w) A (call (.builtin "list.append") [.ref D, c]) Q E s := by
  obtain ⟨k₀, e⟩ := C.d
  have hz : its.size ≤ sizeLine := by rw [size_of_vrs C.v]; exact le_line (Nat.le_trans (Nat.le_of_lt hl) (by decide))
  refine wpAny_list_append_plain (hsz := hz) ⟨k₀, e⟩ fun h' hp hs => q h' s.toks ?_
  obtain ⟨k₁, e₁⟩ := hp
  have k : ∀ b o, b ≠ D → s.heap.get? b = some o → h'.get? b = some o := fun b o hb => (hs.2 b hb).trans
  have tp : Tups s.heap h' := tups_but C.dTup k
  refine ⟨C.S.wr P.wD hs (isSome_of e₁), C.R.other k C.dTup P.bD C.oD, C.X.keep (fun b hb o e => k b o (fun z => P.oD (z ▸ hb)) e) tp (Nat.le_refl _) (fun _ _ => ⟨rfl, rfl⟩) (fun j h1 h2 => absurd h2 (Nat.not_lt.mpr h1)),
    T.frame C.cur (fun o e => k I o P.ID e) (Nat.le_refl _) (fun _ _ => rfl) tp, ⟨k₁, e₁⟩, ?_, C.oI, C.oD⟩
  rw [Array.toList_push]
  exact VRs.append (VRs.tups C.v tp) (.one (hc.tups tp))
end
end Mine
namespace Mine
open PySem PySem.W PySem.Calls PyProof.Rows

/-- a round of the last level -/
noncomputable def lastTurn (target iter : Expr) (ifs : List Expr) (elt lc : Expr) (d : Nat) (it acc : Value) (env : Env) : Sem PySem.Fin := do
  standAt iter.pos
  match ← pyNext it with
  | none => pure (.done .next)
  | some v =>
    letOwnedTupleGo target it v
    assign target env v
    let mut ok := true
    for c in ifs do
      if ok then ok ← isTrue c env (eval c env)
    if ok then
      (do let _ ← call (.builtin "list.append") [acc, ← eval elt env])
    again (.compLoop lc d it acc env)
theorem compTurn_2_1 (elt t0 i0 target iter : Expr) (f0 ifs : List Expr) (scope : Scope) (pos : Pos) (it acc : Value) (env : Env) :
    compTurn (.ListComp elt [⟨t0, i0, f0, 0⟩, ⟨target, iter, ifs, 0⟩] scope pos) 1 it acc env = lastTurn target iter ifs elt (.ListComp elt [⟨t0, i0, f0, 0⟩, ⟨target, iter, ifs, 0⟩] scope pos) 1 it acc env := rfl

theorem compTurn_2_0 (elt target iter t1 i1 : Expr) (f1 : List Expr) (scope : Scope) (pos : Pos) (it acc : Value) (env : Env) :
    compTurn (.ListComp elt [⟨target, iter, [], 0⟩, ⟨t1, i1, f1, 0⟩] scope pos) 0 it acc env = (do
      standAt iter.pos
      match ← pyNext it with
      | none => pure (.done .next)
      | some v =>
        letOwnedTupleGo target it v
        assign target env v
        let x ← eval i1 env
        standAt i1.pos
        let x ← foldedSetIterable i1 env x
        let _ ← runOwn (.compStart (.ListComp elt [⟨target, iter, [], 0⟩, ⟨t1, i1, f1, 0⟩] scope pos) 1 (← holding [x] (pyIter x)) acc env) env
        again (.compLoop (.ListComp elt [⟨target, iter, [], 0⟩, ⟨t1, i1, f1, 0⟩] scope pos) 0 it acc env)) := by rfl

section
variable {prog : Program} {w : World} {A : Around} {R : Result → Shared → Prop} {s : Shared}

theorem codeAny_last {elt target iter : Expr} {ifs : List Expr} {gens : List Comprehension} {d : Nat} {scope : Scope} {pos : Pos} {it acc : Value} {env : Env} (I : Nat → Shared → Prop)
    (hturn : compTurn (.ListComp elt gens scope pos) d it acc env = lastTurn target iter ifs elt (.ListComp elt gens scope pos) d it acc env)
    (turn : ∀ n s, I n s → wpAny (model prog w) A (pyNext it) (fun r s₁ => match r with
      | none => R (.ok .next) s₁
      | some v => wpAny (model prog w) A (assign target env v) (fun _ s₂ =>
          wpAny (model prog w) A (tests ifs env true) (fun ok s₃ =>
            if ok = true then wpAny (model prog w) A (eval elt env) (fun x s₄ =>
              wpAny (model prog w) A (call (.builtin "list.append") [acc, x]) (fun _ s₅ => ∃ m, m < n ∧ I m s₅) (notedBy (model prog w) A env fun e s' => R (.error e) s') s₄) (notedBy (model prog w) A env fun e s' => R (.error e) s') s₃
            else ∃ m, m < n ∧ I m s₃) (notedBy (model prog w) A env fun e s' => R (.error e) s') s₂) (notedBy (model prog w) A env fun e s' => R (.error e) s') s₁) (notedBy (model prog w) A env fun e s' => R (.error e) s') s)
    (n : Nat) (h : I n s) (ht : ∀ v, letOwnedTupleGo target it v = pure () := by intro _; rfl) :
    codeAny (model prog w) A (.compLoop (.ListComp elt gens scope pos) d it acc env) R s := by
  refine codeAny_loop rfl I (fun n s hI => ?_) n h
  show wpAny _ A ((compTurn (.ListComp elt gens scope pos) d it acc env).onRaise (fun x => do noteFrame x env; theTreesLotGoes x)) _ _ s
  refine wpAny_noted ?_
  rw [hturn]
  unfold lastTurn
  refine wpAny_bind (wpAny_standAt (wpAny_bind (wpAny_mono (turn n s hI) (fun r s₁ h₁ => ?_) fun _ _ h' => h')))
  cases r with
  | none => exact wpAny_pure h₁
  | some v =>
    refine wpAny_bind (wpAny_of_eq (ht v) ?_)
    refine wpAny_bind (wpAny_mono h₁ (fun _ s₂ h₂ => wpAny_bind (wpAny_mono h₂ (fun ok s₃ h₃ => ?_) fun _ _ h' => h')) fun _ _ h' => h')
    cases ok with
    | false => exact wpAny_pure ⟨rfl, h₃⟩
    | true =>
      exact wpAny_bind (wpAny_bind (wpAny_mono h₃ (fun x s₄ h₄ => wpAny_bind (wpAny_mono h₄ (fun _ s₅ h₅ => wpAny_pure (wpAny_pure ⟨rfl, h₅⟩)) fun _ _ h' => h')) fun _ _ h' => h'))

theorem codeAny_first {elt target iter t1 i1 : Expr} {f1 : List Expr} {scope : Scope} {pos : Pos} {it acc : Value} {env : Env} (I : Nat → Shared → Prop) (hf : ∀ v, foldedSetIterable i1 env v = pure v)
    (turn : ∀ n s, I n s → wpAny (model prog w) A (pyNext it) (fun r s₁ => match r with
      | none => R (.ok .next) s₁
      | some v => wpAny (model prog w) A (assign target env v) (fun _ s₂ =>
          wpAny (model prog w) A (eval i1 env) (fun x s₃ => wpAny (model prog w) A (pyIter x) (fun it1 s₄ =>
            codeAny (model prog w) A (.compStart (.ListComp elt [⟨target, iter, [], 0⟩, ⟨t1, i1, f1, 0⟩] scope pos) 1 it1 acc env) (fun r s₅ => match r with
              | .ok _ => ∃ m, m < n ∧ I m s₅
              | .error _ => False) s₄)
            (notedBy (model prog w) A env fun e s' => R (.error e) s') s₃) (notedBy (model prog w) A env fun e s' => R (.error e) s') s₂) (notedBy (model prog w) A env fun e s' => R (.error e) s') s₁) (notedBy (model prog w) A env fun e s' => R (.error e) s') s)
    (n : Nat) (h : I n s) (ht : ∀ v, letOwnedTupleGo target it v = pure () := by intro _; rfl) :
    codeAny (model prog w) A (.compLoop (.ListComp elt [⟨target, iter, [], 0⟩, ⟨t1, i1, f1, 0⟩] scope pos) 0 it acc env) R s := by
  refine codeAny_loop rfl I (fun n s hI => ?_) n h
  show wpAny _ A ((compTurn (.ListComp elt [⟨target, iter, [], 0⟩, ⟨t1, i1, f1, 0⟩] scope pos) 0 it acc env).onRaise (fun x => do noteFrame x env; theTreesLotGoes x)) _ _ s
  refine wpAny_noted ?_
  rw [compTurn_2_0]
  refine wpAny_bind (wpAny_standAt (wpAny_bind (wpAny_mono (turn n s hI) (fun r s₁ h₁ => ?_) fun _ _ h' => h')))
  cases r with
  | none => exact wpAny_pure h₁
  | some v =>
    refine wpAny_bind (wpAny_of_eq (ht v) ?_)
    refine wpAny_bind (wpAny_mono h₁ (fun _ s₂ h₂ => wpAny_bind (wpAny_mono h₂ (fun x s₃ h₃ => ?_) fun _ _ h' => h')) fun _ _ h' => h')
    refine wpAny_bind (wpAny_standAt (wpAny_bind (wpAny_of_eq (hf x) (wpAny_bind (wpAny_holding (wpAny_mono h₃ (fun it1 s₄ h₄ => ?_) fun _ _ h' => h'))))))
    refine wpAny_bind (wpAny_runOwn (codeAny_mono h₄ fun r s₅ h₅ => ?_))
    cases r with
    | ok f => exact wpAny_pure ⟨rfl, h₅⟩
    | error e => exact h₅.elim

theorem codeAny_start {elt target iter : Expr} {ifs : List Expr} {gens : List Comprehension} {d : Nat} {scope : Scope} {pos : Pos} {it acc : Value} {env : Env} (hg : gens[d]? = some ⟨target, iter, ifs, 0⟩)
    (h0 : codeAny (model prog w) A (.compLoop (.ListComp elt gens scope pos) d it acc env) R s)
    (h : wpAny (model prog w) A (pyIter it) (fun it' s' => codeAny (model prog w) A (.compLoop (.ListComp elt gens scope pos) d it' acc env) R s') (notedBy (model prog w) A env fun x s' => R (.error x) s') s) :
    codeAny (model prog w) A (.compStart (.ListComp elt gens scope pos) d it acc env) R s := by
  refine codeAny_of_tree ?_
  show wpAny _ _ ((compStart (.ListComp elt gens scope pos) d it acc env).onRaise (fun x => do noteFrame x env; standAt theWindowsPlace)) _ _ s
  refine wpAny_notedAt ?_
  unfold compStart
  have hc : (clausesOf (.ListComp elt gens scope pos))[d]? = some ⟨target, iter, ifs, 0⟩ := hg
  rw [hc]
  show wpAny _ _ (ask >>= _) _ _ s
  refine wpAny_bind (wpAny_askSetting (wpAny_ite ?_))
  split
  · first
      | exact wpAny_bind (wpAny_pure (wpAny_pure (And.intro rfl h0)))
      | exact wpAny_pure (And.intro rfl h0)
  · first
      | exact wpAny_bind (wpAny_rule (wpAny_bind (wpAny_standAt (wpAny_bind (wpAny_mono h (fun it' s' h' => wpAny_pure (And.intro rfl h')) fun _ _ x => x)))))
      | (refine wpAny_bind (wpAny_rule ?_); show wpAny _ _ (standAt iter.pos >>= _) _ _ s; exact wpAny_bind (wpAny_standAt (wpAny_bind (wpAny_mono h (fun it' s' h' => wpAny_pure (And.intro rfl h')) fun _ _ x => x))))
end
end Mine
namespace Mine
open PySem PySem.W PySem.Calls PyProof.Rows

noncomputable def F1 (S : Spec) (elt : E) (y : Nm) (ifs : List E) (l : Locs) : V → Sto → (List V → Sto → Prop) → Prop :=
  fun v σ k => evIfs S ifs (upd l y v) σ fun b σ => if b then evE S elt (upd l y v) σ fun u σ => k [u] σ else k [] σ
noncomputable def F22 (S : Spec) (elt : E) (x : Nm) (y : Nm) (it2 : E) (ifs : List E) (l : Locs) : V → Sto → (List V → Sto → Prop) → Prop :=
  fun v σ k => evE S it2 (dropL (upd l x v) y) σ fun v2 σ => opt (itemsOf σ v2) fun p2 => goComp (F1 S elt y ifs (upd l x v)) p2.2 p2.1 [] σ k

theorem upd_drop {l : Locs} {y : Nm} {v : V} (z : Nm) (w : V) (e : upd l y v z = some w) : upd (dropL l y) y v z = some w := by
  unfold upd dropL at *
  by_cases h : z = y
  · rw [if_pos h] at e ⊢; exact e
  · rw [if_neg h] at e ⊢; rw [if_neg h]; exact e
theorem drop_upd {l : Locs} {y : Nm} {v : V} (z : Nm) (w : V) (e : dropL l y z = some w) : upd l y v z = some w := by
  unfold upd dropL at *
  by_cases h : z = y
  · rw [if_pos h] at e; cases e
  · rw [if_neg h] at e ⊢; exact e

/-- where a loop of n rounds stands: i are done -/
inductive Lp (n : Nat) (sB : Shared) (inv : Nat → List V → Array Value → Pl → Sto → Heap → Prop) : Nat → Shared → Prop
  | mk (i : Nat) (acc : List V) (its : Array Value) (p : Pl) (σ : Sto) (h : Heap) (tk : Nat) : inv i acc its p σ h → Lp n sB inv (n - i) { sB with heap := h, toks := tk }
structure CInv (G : G0) (env : Env) (W : Addr → Prop) (I D : Addr) (Cur : Pl → Sto → Heap → Nat → Prop) (pB : Pl) (nB : Nat) (hB : Heap) (b : Nat) (pre : List V) (l : Locs) (F : V → Sto → (List V → Sto → Prop) → Prop) (g : Option (Nat × List V)) (vs : List V) (K : List V → Sto → Prop)
    (i : Nat) (acc : List V) (its : Array Value) (p : Pl) (σ : Sto) (h : Heap) : Prop where
  le : i ≤ vs.length
  len : acc.length ≤ b * i
  C : Cor G env W I D Cur pB nB hB i its (pre ++ acc) p σ h l
  st : stays g σ
  go : goComp F g (vs.drop i) acc σ K

section
variable {G : G0} {S : Spec} {A : Around} {env : Env} {W : Addr → Prop} {I D : Addr} {Cur : Pl → Sto → Heap → Nat → Prop} {pB p : Pl} {nB : Nat} {sB : Shared} {h : Heap} {tk i : Nat} {its : Array Value} {acc pre : List V} {σ : Sto} {l : Locs} {g : Option (Nat × List V)} {vs : List V}

section
variable {b : Nat} {F : V → Sto → (List V → Sto → Prop) → Prop} {K : List V → Sto → Prop} {hB : Heap}
theorem CInv.first (z : CInv G env W I D Cur pB nB hB b pre l F g vs K i acc its p σ h) (hlt : i < vs.length) : F vs[i] σ fun ws σ' => chk g σ' (goComp F g (vs.drop (i + 1)) (acc ++ ws) σ' K) := by
  have := z.go
  rw [List.drop_eq_getElem_cons hlt] at this
  exact this
theorem CInv.end_ (z : CInv G env W I D Cur pB nB hB b pre l F g vs K i acc its p σ h) (hge : vs.length ≤ i) : i = vs.length ∧ K acc σ := by
  have hie := Nat.le_antisymm z.le hge
  have := z.go
  rw [List.drop_eq_nil_of_le hge] at this
  exact ⟨hie, this⟩
theorem CInv.next (z : CInv G env W I D Cur pB nB sB.heap b pre l F g vs K i acc its p σ h) (hlt : i < vs.length) {ws : List V} {its' : Array Value} {p' : Pl} {σ' : Sto} {h' : Heap} (hw : ws.length ≤ b) (C : Cor G env W I D Cur pB nB sB.heap (i + 1) its' (pre ++ (acc ++ ws)) p' σ' h' l)
    (go : chk g σ' (goComp F g (vs.drop (i + 1)) (acc ++ ws) σ' K)) : ∃ m, m < vs.length - i ∧ Lp vs.length sB (CInv G env W I D Cur pB nB sB.heap b pre l F g vs K) m { sB with heap := h', toks := tk } :=
  ⟨_, Nat.sub_lt_sub_left hlt (Nat.lt_succ_self i), .mk (i + 1) (acc ++ ws) its' p' σ' h' tk ⟨hlt, by rw [List.length_append]; exact Nat.add_le_add z.len hw, C, go.1, go.2⟩⟩
end

theorem loop_last {elt : E} {y : Nm} {ifs : List E} {el iter : Expr} {fx : List Expr} {px : Pos} {gens : List Comprehension} {d : Nat} {scope : Scope} {pos : Pos} (Je : JE G S A elt env.scope.names el) (Jt : JTs G S A ifs env.scope.names fx)
    (T : ItS G A I g vs Cur) (P : Plc G env W I D y) (hBI : sB.heap.get? I = none)
    (hturn : compTurn (.ListComp el gens scope pos) d (.ref I) (.ref D) env = lastTurn (.Name y.str px) iter fx el (.ListComp el gens scope pos) d (.ref I) (.ref D) env)
    {Rr : Result → Shared → Prop} {K : List V → Sto → Prop} (hpre : pre.length + vs.length < 20000)
    (fin : ∀ σ' h' tk p' its acc, Stp W pB nB sB.heap p' σ'.length h' → Rp G p' σ' h' → ER G env p' σ'.length h' (dropL l y) → (∃ k₀, h'.get? D = some (listOf its k₀)) → VRs G.base p' σ'.length h' its.toList (pre ++ acc) → (∀ j, j < σ'.length → p'.φ j ≠ D ∧ p'.δ j ≠ D) → acc.length ≤ vs.length → K acc σ' →
      Rr (.ok .next) { sB with heap := h', toks := tk })
    (Z : CInv G env W I D Cur pB nB sB.heap 1 pre (dropL l y) (F1 S elt y ifs l) g vs K i acc its p σ h) :
    codeAny (model G.prog G.w) A (.compLoop (.ListComp el gens scope pos) d (.ref I) (.ref D) env) Rr { sB with heap := h, toks := tk } := by
  refine codeAny_last (Lp vs.length sB (CInv G env W I D Cur pB nB sB.heap 1 pre (dropL l y) (F1 S elt y ifs l) g vs K)) hturn ?_ _ (.mk i acc its p σ h tk Z)
  clear Z
  rintro _ _ ⟨i, acc, its, p, σ, h, tk, Z⟩
  rcases Nat.lt_or_ge i vs.length with hlt | hge
  · refine Z.C.next (s := { sB with heap := h, toks := tk }) T P hBI Z.st (List.getElem?_eq_getElem hlt) fun c h₁ tk₁ hc C₁ => ?_
    refine C₁.tgt (s := { sB with heap := h₁, toks := tk₁ }) T P hc fun h₂ tk₂ C₂ => ?_
    have C₃ := C₂.sub (l' := upd l y vs[i]) upd_drop
    refine Post.map (Jt env _ σ p { sB with heap := h₂, toks := tk₂ } _ _ rfl C₃.X C₃.R (Z.first hlt)) fun b σ₁ h₄ tk₄ p₁ S₁ R₁ r₁ => ?_
    have C₄ := C₃.step T P S₁ R₁
    cases b with
    | false => exact Z.next hlt (Nat.zero_le _) (by rw [List.append_nil]; exact C₄.sub drop_upd) r₁
    | true =>
      refine Post.map (Je env _ σ₁ p₁ { sB with heap := h₄, toks := tk₄ } _ _ rfl C₄.X C₄.R r₁) fun c' σ₂ h₅ tk₅ p₂ S₂ R₂ r₂ => ?_
      obtain ⟨u, hu, hgo⟩ := r₂
      have C₅ := C₄.step T P S₂ R₂
      refine C₅.app (s := { sB with heap := h₅, toks := tk₅ }) T P hu ?_ fun h₆ tk₆ C₆ => ?_
      · rw [List.length_append]
        exact Nat.lt_of_le_of_lt (Nat.add_le_add_left (Nat.le_trans Z.len (Nat.le_trans (Nat.le_of_eq (Nat.one_mul i)) Z.le)) _) hpre
      · rw [List.append_assoc] at C₆
        exact Z.next hlt (Nat.le_refl _) (C₆.sub drop_upd) hgo
  · obtain ⟨rfl, hK⟩ := Z.end_ hge
    refine Z.C.last (s := { sB with heap := h, toks := tk }) T P hBI Z.st fun h₁ tk₁ S₁ R₁ X₁ d₁ v₁ => ?_
    exact fin σ h₁ tk₁ p its acc S₁ R₁ X₁ d₁ v₁ Z.C.oD (Nat.le_trans Z.len (Nat.le_of_eq (Nat.one_mul _))) hK

/-- what the second level's places ask, over all iterators -/
structure Plc2 (G : G0) (env : Env) (W : Addr → Prop) (D : Addr) (x : Nm) : Prop where
  tgt : env.kindOf x.str = some .local ∨ env.kindOf x.str = some .cell
  oD : ¬ Own env D
  wD : W D
  wT : ∀ b, (env.kindOf x.str = some .local ∧ b = env.locals ∨ env.kindOf x.str = some .cell ∧ env.cells.lookup x.str = some b) → W b
  bD : G.base.get? D = none

theorem drop2_upd {x y : Nm} {v : V} (z : Nm) (w : V) (e : dropL (upd l x v) y z = some w) : upd (dropL (dropL l y) x) x v z = some w := by
  have e : (if z = y then none else if z = x then some v else l z) = some w := e
  show (if z = x then some v else if z = x then none else if z = y then none else l z) = some w
  by_cases hz : z = y
  · rw [if_pos hz] at e; cases e
  · rw [if_neg hz] at e
    by_cases hx : z = x
    · rw [if_pos hx] at e ⊢; exact e
    · rw [if_neg hx] at e ⊢; rw [if_neg hx, if_neg hz]; exact e
theorem drop2_sub {x y : Nm} {v : V} (z : Nm) (w : V) (e : dropL (dropL l y) x z = some w) : dropL (upd l x v) y z = some w := by
  have e : (if z = x then none else if z = y then none else l z) = some w := e
  show (if z = y then none else if z = x then some v else l z) = some w
  by_cases hx : z = x
  · rw [if_pos hx] at e; cases e
  · rw [if_neg hx] at e
    by_cases hz : z = y
    · rw [if_pos hz] at e; cases e
    · rw [if_neg hz] at e ⊢; rw [if_neg hx]; exact e
theorem ER.alive (X : ER G env p σ.length h l) {b : Addr} (hb : Own env b) : (h.get? b).isSome = true := by
  rcases hb with rfl | ⟨q, z⟩
  · exact X.ns.elim fun _ z => ns_alive z.1
  · exact (X.cell q _ z).1.elim fun _ => cell_alive

theorem loop_first {elt it2 : E} {x y : Nm} {ifs : List E} {el iter i1 : Expr} {fx : List Expr} {px py : Pos} {scope : Scope} {pos : Pos} (hh : A.handled = none) (hf : plainX i1 = true) (Ji : JE G S A it2 env.scope.names i1) (Je : JE G S A elt env.scope.names el) (Jt : JTs G S A ifs env.scope.names fx)
    (T : ItS G A I g vs Cur) (P : Plc G env W I D x) (P2 : Plc2 G env W D y) (wA : ∀ b, W b → b = D ∨ Own env b) (hBI : sB.heap.get? I = none)
    {Rr : Result → Shared → Prop} {K : List V → Sto → Prop} (hvs : vs.length < 100)
    (fin : ∀ σ' h' tk p' its acc, Stp W pB nB sB.heap p' σ'.length h' → Rp G p' σ' h' → ER G env p' σ'.length h' (dropL (dropL l y) x) → (∃ k₀, h'.get? D = some (listOf its k₀)) → VRs G.base p' σ'.length h' its.toList acc → (∀ j, j < σ'.length → p'.φ j ≠ D ∧ p'.δ j ≠ D) → K acc σ' →
      Rr (.ok .next) { sB with heap := h', toks := tk })
    (Z : CInv G env W I D Cur pB nB sB.heap 100 [] (dropL (dropL l y) x) (F22 S elt x y it2 ifs l) g vs K i acc its p σ h) :
    codeAny (model G.prog G.w) A (.compLoop (.ListComp el [⟨.Name x.str px, iter, [], 0⟩, ⟨.Name y.str py, i1, fx, 0⟩] scope pos) 0 (.ref I) (.ref D) env) Rr { sB with heap := h, toks := tk } := by
  refine codeAny_first (Lp vs.length sB (CInv G env W I D Cur pB nB sB.heap 100 [] (dropL (dropL l y) x) (F22 S elt x y it2 ifs l) g vs K)) (fun v => folded_plain hf env v) ?_ _ (.mk i acc its p σ h tk Z)
  clear Z
  rintro _ _ ⟨i, acc, its, p, σ, h, tk, Z⟩
  rcases Nat.lt_or_ge i vs.length with hlt | hge
  · refine Z.C.next (s := { sB with heap := h, toks := tk }) T P hBI Z.st (List.getElem?_eq_getElem hlt) fun c h₁ tk₁ hc C₁ => ?_
    refine C₁.tgt (s := { sB with heap := h₁, toks := tk₁ }) T P hc fun h₂ tk₂ C₂ => ?_
    have C₃ := C₂.sub (l' := dropL (upd l x vs[i]) y) drop2_upd
    refine Post.map (Ji env _ σ p { sB with heap := h₂, toks := tk₂ } _ _ rfl C₃.X C₃.R (Z.first hlt)) fun c' σ₁ h₄ tk₄ p₁ S₁ R₁ r₁ => ?_
    have C₄ := C₃.step T P S₁ R₁
    obtain ⟨u, hu, r₁⟩ := r₁
    obtain ⟨⟨us, g'⟩, e₁, hgo'⟩ := opt_some r₁
    refine iter_of hh R₁ hu e₁ fun I₂ h₅ Cur₂ hI₂ k₅ T₂ c₅ st₅ hlen => ?_
    have C₅ := C₄.step T P (Stp.grow k₅) (R₁.grow k₅)
    have oI₂ : ¬ Own env I₂ := fun z => not_here hI₂ (C₄.X.alive z) rfl
    have ID₂ : I₂ ≠ D := fun z => C₄.d.elim fun _ e => none_none e (z ▸ hI₂)
    have P₂ : Plc G env W I₂ D y := ⟨P2.tgt, ID₂, oI₂, P2.oD, fun z => (wA _ z).elim ID₂ oI₂, P2.wD, P2.wT, R₁.none_of hI₂, P2.bD⟩
    have core₂ : Cor G env W I₂ D Cur₂ p₁ σ₁.length h₄ 0 its (acc ++ []) p₁ σ₁ h₅ (dropL (upd l x vs[i]) y) := by
      rw [List.append_nil]
      exact ⟨Stp.grow k₅, C₅.R, C₅.X, c₅, C₅.d, C₅.v, fun j hj => R₁.off hI₂ hj, C₅.oD⟩
    have loop := fun (tk : Nat) => loop_last (sB := { sB with heap := h₄, toks := tk₄ }) (pre := acc) (K := fun ws σ' => chk g σ' (goComp (F22 S elt x y it2 ifs l) g (vs.drop (i + 1)) (acc ++ ws) σ' K))
        (Rr := fun r s₅ => match r with
        | .ok _ => ∃ m, m < vs.length - i ∧ Lp vs.length sB (CInv G env W I D Cur pB nB sB.heap 100 [] (dropL (dropL l y) x) (F22 S elt x y it2 ifs l) g vs K) m s₅
        | .error _ => False) (l := upd l x vs[i]) (d := 1) (tk := tk) (i := 0) (acc := []) Je Jt T₂ P₂ hI₂ (compTurn_2_1 el (.Name x.str px) iter (.Name y.str py) i1 [] fx scope pos (.ref I₂) (.ref D) env)
        (by have := Z.len; (first | lia | omega))
        (fun σ₆ h₆ tk₆ p₆ its₆ acc₆ S₆ R₆ X₆ d₆ v₆ o₆ l₆ hk₆ => by
          have nW : NoTupW W h₄ := fun b items hb => (wA b hb).elim (fun z => z ▸ C₄.dTup items) fun hb => C₄.X.noTup b items hb
          exact Z.next hlt (Nat.le_of_lt (Nat.lt_of_le_of_lt l₆ hlen)) ⟨C₄.S.transW S₆, R₆, X₆.sub drop2_sub, T.frame C₄.cur (fun o e => S₆.kept I o e C₄.oI P.wI) S₆.len (fun k hk => (S₆.agree k hk).1) (S₆.tups C₄.R nW), d₆, v₆, off_step S₆ (T.alive C₄.cur) C₄.oI, o₆⟩ hk₆)
        ⟨Nat.zero_le _, Nat.zero_le _, core₂, st₅, by rw [List.drop_zero]; exact hgo'⟩
    exact codeAny_start (gens := [⟨.Name x.str px, iter, [], 0⟩, ⟨.Name y.str py, i1, fx, 0⟩]) (d := 1) rfl (loop tk₄) (T₂.self c₅ (loop tk₄))
  · obtain ⟨rfl, hK⟩ := Z.end_ hge
    refine Z.C.last (s := { sB with heap := h, toks := tk }) T P hBI Z.st fun h₁ tk₁ S₁ R₁ X₁ d₁ v₁ => ?_
    exact fin σ h₁ tk₁ p its acc S₁ R₁ X₁ d₁ v₁ Z.C.oD hK
end
end Mine
namespace Mine
open PySem PySem.W PySem.Calls PyProof.Rows

inductive CompEnd (G : G0) (p : Pl) (σ : Sto) (s : Shared) (Q : V → Sto → Prop) (D C : Addr) : Shared → Prop
  | mk (σf : Sto) (h' : Heap) (tk : Nat) (pf : Pl) (u : V) (m : Str → Option Value) : Stp noW p σ.length s.heap pf σf.length h' → Rp G pf σf h' → VR G.base pf σf.length h' (.ref D) u → Q u σf →
    s.heap.get? C = none → h'.Ns C m → G.base.get? C = none → (∀ j, j < σf.length → pf.φ j ≠ C ∧ pf.δ j ≠ C) → CompEnd G p σ s Q D C { s with heap := h', toks := tk }
inductive CE (G : G0) (p : Pl) (σ : Sto) (s : Shared) (Q : V → Sto → Prop) : Value → Env → Result → Shared → Prop
  | mk (f : Flow) (D : Addr) (cenv : Env) (s' : Shared) : CompEnd G p σ s Q D cenv.locals s' → CE G p σ s Q (.ref D) cenv (.ok f) s'
/-- what a comprehension's loop leaves -/
inductive LoopEnd (G : G0) (env' : Env) (W : Addr → Prop) (D : Addr) (p : Pl) (σ : Sto) (s : Shared) (K : List V → Sto → Prop) : Result → Shared → Prop
  | mk (σ' : Sto) (h'' : Heap) (tk' : Nat) (p' : Pl) (its : Array Value) (acc : List V) (l' : Locs) (k₀ : Nat) : Stp W p σ.length s.heap p' σ'.length h'' → Rp G p' σ' h'' → ER G env' p' σ'.length h'' l' →
    h''.get? D = some (listOf its k₀) → VRs G.base p' σ'.length h'' its.toList acc → (∀ j, j < σ'.length → p'.φ j ≠ D ∧ p'.δ j ≠ D) → K acc σ' → LoopEnd G env' W D p σ s K (.ok .next) { s with heap := h'', toks := tk' }

section
variable {G : G0} {S : Spec} {A : Around} {env : Env} {p p₁ : Pl} {σ σ₁ : Sto} {s : Shared} {l : Locs} {Q : V → Sto → Prop} {D C : Addr} {s' : Shared} {M : Model} {E : Value → Shared → Prop} {h₁ : Heap} {tk : Nat} {f : Flow}

theorem none_back {W : Addr → Prop} {n n' : Nat} {h h' : Heap} {p p' : Pl} (S : Stp W p n h p' n' h') {b : Addr} (e : h'.get? b = none) : h.get? b = none := none_of_alive (S.alive b) e
theorem noOwn_fresh {h : Heap} {σ : Sto} (X : ER G env p σ.length h l) {b : Addr} (e : h.get? b = none) : ¬ Own env b := fun z => not_here e (X.alive z) rfl
theorem CompEnd.after (S : Stp noW p σ.length s.heap p₁ σ₁.length h₁) (c : CompEnd G p₁ σ₁ { s with heap := h₁, toks := tk } Q D C s') : CompEnd G p σ s Q D C s' := by
  obtain ⟨σf, h', tk', pf, u, m, S', R', v', q, c1, c2, c3, c4⟩ := c
  exact ⟨σf, h', tk', pf, u, m, S.transN S', R', v', q, none_back S c1, c2, c3, c4⟩
theorem CompEnd.none (c : CompEnd G p σ s Q D C s') : compPost M A E none (Post G noW p σ s (RE G Q)) (.ref D) C (.ok f) s' := by
  obtain ⟨σf, h', tk', pf, u, m, S', R', v', q, c1, c2, c3, c4⟩ := c
  refine ⟨m, c2, fun h'' hs => ?_⟩
  have k : ∀ b o, b ≠ C → h'.get? b = some o → h''.get? b = some o := fun b o hb => (hs.2 b hb).trans
  have nt := ns_noTup c2
  exact ⟨σf, h'', tk', pf, S'.other c1 k, R'.other k nt c3 c4, u, v'.tups (tups_but nt k), q⟩
theorem CompEnd.use (X : ER G env p σ.length s.heap l) (R : Rp G p σ s.heap) {z : Nm} {pz : Pos} (hz : env.kindOf z.str = some .local ∨ env.kindOf z.str = some .cell) {Q' : Fl → Locs → Sto → Prop} (hQ : ∀ u σ, Q u σ → Q' .next (upd l z u) σ) (c : CompEnd G p σ s Q D C s') :
    compPost M A E (some (assign (.Name z.str pz) env)) (fun _ s' => Post G (Own env) p σ s (RF G env Q') .next s') (.ref D) C (.ok f) s' := by
  obtain ⟨σf, h', tk', pf, u, m, S', R', v', q, c1, c2, c3, c4⟩ := c
  have X' := X.step R S'
  have oC : ¬ Own env C := noOwn_fresh X c1
  refine wpAny_assign_Name (X'.store' (s := { s with heap := h', toks := tk' }) R' hz v' fun b h₂ tk₂ hb hs al tp R₂ X₂ => ?_)
  have hO : Own env b := hb.imp (·.2) fun z => ⟨_, z.2⟩
  have c2' : h₂.Ns C m := c2.sameBut hs fun z => oC (z ▸ hO)
  refine ⟨m, c2', fun h'' hs'' => ?_⟩
  have k : ∀ b o, b ≠ C → h₂.get? b = some o → h''.get? b = some o := fun b o hb => (hs''.2 b hb).trans
  have nt := ns_noTup c2'
  have S₂ : Stp (Own env) p σ.length s.heap pf σf.length h₂ := (S'.weak (W' := Own env) fun _ _ w => w.elim).wr hO hs al
  exact ⟨σf, h'', tk₂, pf, S₂.other c1 k, R₂.other k nt c3 c4, .next, upd l z u, .next,
    X₂.keep (fun b hb o e => k b o (fun z => oC (z ▸ hb)) e) (tups_but nt k) (Nat.le_refl _) (fun _ _ => ⟨rfl, rfl⟩) (fun j h1 h2 => absurd h2 (Nat.not_lt.mpr h1)), hQ u σf q⟩

/-- the changes of a comprehension -/
noncomputable def CW (env' : Env) (xs : List Nm) (D b : Addr) : Prop := b = D ∨ ∃ x ∈ xs, (env'.kindOf x.str = some .local ∧ b = env'.locals ∨ env'.kindOf x.str = some .cell ∧ env'.cells.lookup x.str = some b)

theorem comp_blk {xs : List Nm} {gens : List Comprehension} {target iter el : Expr} {ifs : List Expr} {scope : Scope} {pos : Pos} {c : Value} {v : V} {vs : List V} {g : Option (Nat × List V)} {K : List V → Sto → Prop}
    (hh : A.handled = none) (hg0 : gens[0]? = some ⟨target, iter, ifs, 0⟩) (X : ER G env p σ.length s.heap l) (R : Rp G p σ s.heap) (hc : VR G.base p σ.length s.heap c v) (e : itemsOf σ v = some (vs, g)) (hok : ScOk env.scope.names scope xs)
    (hQ : ∀ ws σ', K ws σ' → Q (.ref σ'.length) (σ' ++ [.lst ws]))
    (loop : ∀ env' I D Cur tk h', env'.scope.names = inner env.scope.names scope → ItS G A I g vs Cur → (∀ x ∈ xs, Plc G env' (CW env' xs D) I D x) → (∀ b, CW env' xs D b → b = D ∨ Own env' b) → s.heap.get? I = none → vs.length < 100 → stays g σ →
      Cor G env' (CW env' xs D) I D Cur p σ.length s.heap 0 #[] [] p σ h' (fun x => if x ∈ xs then none else l x) →
      codeAny (model G.prog G.w) A (.compLoop (.ListComp el gens scope pos) 0 (.ref I) (.ref D) env') (LoopEnd G env' (CW env' xs D) D p σ s K) { s with heap := h', toks := tk }) :
    wpAny (model G.prog G.w) A (pyIter c) (fun it s₂ => wpAny (model G.prog G.w) A (newList []) (fun acc s₃ =>
      wpAny (model G.prog G.w) A (newFunctionEnv scope env.globals (clOf env.cells scope.names []) [] env.qual none .none (some env)) (fun cenv s₄ =>
        codeAny (model G.prog G.w) A (.compStart (.ListComp el gens scope pos) 0 it acc { cenv with scope := relabel scope env }) (CE G p σ s Q acc cenv) s₄) E s₃) E s₂) E s := by
  refine iter_of hh R hc e fun I h₁ Cur hI k₁ T c₁ st hlen => ?_
  refine wpAny_newObj_type (hd := by size_fits) ?_
  dsimp only
  generalize hD : h₁.objs.size = D
  have nD : h₁.get? D = none := none_at (by rw [← hD]; exact Nat.le_refl _)
  have k₂ : ∀ b o, h₁.get? b = some o → (h₁.push { cls := .type "list", dict := none, data := .seq ([] : List Value).toArray }).get? b = some o := fun b o e => Heap.get?_push_of_some _ e
  have eD : (h₁.push { cls := .type "list", dict := none, data := .seq ([] : List Value).toArray }).get? D = some (listOf #[] 0) := by rw [← hD]; exact Heap.get?_push_size _ rfl
  generalize h₁.push { cls := .type "list", dict := none, data := .seq ([] : List Value).toArray } = h₂ at k₂ eD ⊢
  have k₀₂ : ∀ b o, s.heap.get? b = some o → h₂.get? b = some o := fun b o e => k₂ b o (k₁ b o e)
  have R₂ : Rp G p σ h₂ := R.grow k₀₂
  have X₂ : ER G env p σ.length h₂ l := X.step R (Stp.grow k₀₂)
  refine cenv_make (s := { s with heap := h₂ }) X₂ R₂ hok fun h₃ C cells nC k₃ ft fc X₃ => ?_
  have nD0 : s.heap.get? D = none := none_of_alive (fun z => (Option.isSome_iff_exists.mp z).elim fun o z => isSome_of (k₁ D o z)) nD
  have none0 : ∀ b, h₂.get? b = none → s.heap.get? b = none := fun b => none_of_alive fun z => (Option.isSome_iff_exists.mp z).elim fun o z => isSome_of (k₀₂ b o z)
  have nC0 : s.heap.get? C = none := none0 C nC
  have k₀₃ : ∀ b o, s.heap.get? b = some o → h₃.get? b = some o := fun b o e => k₃ b o (k₀₂ b o e)
  have hnames : (compEnvC scope cells C env).scope.names = inner env.scope.names scope := relabel_names scope env X.kind
  have kind' : ∀ x : Nm, x ∈ xs → (compEnvC scope cells C env).kindOf x.str = scope.names.lookup x.str := fun x hx => by
    show (compEnvC scope cells C env).scope.names.lookup x.str = _
    rw [hnames]
    rcases hok.tgt x hx with z | z
    · rw [z]; exact inner_tgt hok.nodup z (.inl rfl)
    · rw [z]; exact inner_tgt hok.nodup z (.inr rfl)
  have aI : (h₂.get? I).isSome = true := (Option.isSome_iff_exists.mp (T.alive c₁)).elim fun o ho => isSome_of (k₂ I o ho)
  have aD : (h₂.get? D).isSome = true := isSome_of eD
  have ID : I ≠ D := fun z => not_here nD (T.alive c₁) z
  have ownNew : ∀ b, Own (compEnvC scope cells C env) b → h₂.get? b = none ∨ (s.heap.get? b).isSome = true := fun b hb => hb.elim (fun hb => .inl (hb ▸ nC)) fun ⟨x, hx⟩ => (fc x b hx).imp id fun z => (X.cell x b z).1.elim fun _ => cell_alive
  have noI : ¬ Own (compEnvC scope cells C env) I := fun z => (ownNew I z).elim (fun q => not_here q aI rfl) fun q => not_here hI q rfl
  have noD : ¬ Own (compEnvC scope cells C env) D := fun z => (ownNew D z).elim (fun q => not_here q aD rfl) fun q => not_here nD0 q rfl
  have wA : ∀ b, CW (compEnvC scope cells C env) xs D b → b = D ∨ Own (compEnvC scope cells C env) b := by
    rintro b (hb | ⟨x, hx, ⟨_, hb⟩ | ⟨_, hb⟩⟩)
    · exact .inl hb
    · exact .inr (.inl hb)
    · exact .inr (.inr ⟨_, hb⟩)
  -- what the comprehension changes does not stand ahead of it
  have wN : ∀ b, (s.heap.get? b).isSome = true → ¬ CW (compEnvC scope cells C env) xs D b := by
    rintro b hb (hq | ⟨x, hx, ⟨_, hq⟩ | ⟨hk, hc'⟩⟩)
    · exact not_here nD0 hb hq
    · exact not_here nC0 hb hq
    · exact not_here (none0 b (ft x hx b ((kind' x hx).symm.trans hk) hc')) hb rfl
  have plc : ∀ x ∈ xs, Plc G (compEnvC scope cells C env) (CW (compEnvC scope cells C env) xs D) I D x := fun x hx =>
    ⟨by rw [kind' x hx]; exact hok.tgt x hx, ID, noI, noD, fun z => (wA I z).elim ID noI, .inl rfl, fun b hb => .inr ⟨x, hx, hb⟩, R.none_of hI, R.none_of nD0⟩
  have R₃ : Rp G p σ h₃ := R.grow k₀₃
  have core : Cor G (compEnvC scope cells C env) (CW (compEnvC scope cells C env) xs D) I D Cur p σ.length s.heap 0 #[] [] p σ h₃ (fun x => if x ∈ xs then none else l x) :=
    ⟨Stp.grow k₀₃, R₃, X₃, T.frame c₁ (fun o e => k₃ I o (k₂ I o e)) (Nat.le_refl _) (fun _ _ => rfl) (fun a its => Exists.imp fun o => And.imp (fun e => k₃ _ _ (k₂ _ _ e)) id), ⟨0, k₃ D _ eD⟩, .nil, fun _ => R.off hI, fun _ => R.off nD0⟩
  have run := fun tk => codeAny_mono (loop (compEnvC scope cells C env) I D Cur tk h₃ hnames T plc wA hI hlen st core) (R' := CE G p σ s Q (.ref D) (newEnv scope C env.globals cells env.qual none .none (some env) builtinsNs)) fun r s' z => by
    obtain ⟨σ', h'', tk', p', its, acc, l', k₀, S', R', X', d', v', oD', hk⟩ := z
    have nt := not_tup_of d' (by show Value.type "list" ≠ _; decide)
    have DC : D ≠ C := fun z => not_here nC aD z
    refine .mk _ D _ _ (.mk (σ' ++ [AObj.lst acc]) h'' tk' (p'.put σ'.length D D) (.ref σ'.length) _ ?_ ?_ ?_ (hQ _ _ hk) nC0 X'.ns.choose_spec.1 (R.none_of nC0) fun j hj => ?_)
    · exact (S'.adopt (o := AObj.lst acc) (h₂ := h'') nD0 nD0 fun b o _ _ e => e).weak fun b hb w => (wN b hb w).elim
    · exact R'.adopt (fun b o _ _ e => e) (fun items => ⟨nt _, nt _⟩) (fun j hj => ⟨oD' j hj, oD' j hj⟩) (R.none_of nD0) (R.none_of nD0) fun m => ⟨rfl, its, k₀, d', F2.mono m v'⟩
    · have z : VR G.base (p'.put σ'.length D D) (σ' ++ [AObj.lst acc]).length h'' (.ref ((p'.put σ'.length D D).φ σ'.length)) (.ref σ'.length) := .ref _ (len_snoc ▸ Nat.lt_succ_self _)
      rw [(p'.put_self σ'.length D D).1] at z; exact z
    · exact Pl.put_cases (P := fun _ x y => x ≠ C ∧ y ≠ C) X'.offL ⟨DC, DC⟩ j (len_snoc ▸ hj)
  exact codeAny_start hg0 (run _) (T.self (p := p) (σ := σ) core.cur (run _))
end
end Mine
namespace Mine
open PySem PySem.W PySem.Calls PyProof.Rows

noncomputable def Blk (G : G0) (A : Around) (E : Value → Shared → Prop) (env : Env) (scope : Scope) (el : Expr) (gens : List Comprehension) (pos : Pos) (P : Value → Env → Result → Shared → Prop) (c : Value) (s : Shared) : Prop :=
  wpAny (model G.prog G.w) A (pyIter c) (fun it s₂ => wpAny (model G.prog G.w) A (newList []) (fun acc s₃ =>
    wpAny (model G.prog G.w) A (newFunctionEnv scope env.globals (clOf env.cells scope.names []) [] env.qual none .none (some env)) (fun cenv s₄ =>
      codeAny (model G.prog G.w) A (.compStart (.ListComp el gens scope pos) 0 it acc { cenv with scope := relabel scope env }) (P acc cenv) s₄) E s₃) E s₂) E s

theorem Blk.mono {G : G0} {A : Around} {E : Value → Shared → Prop} {env : Env} {scope : Scope} {el : Expr} {gens : List Comprehension} {pos : Pos} {P P' : Value → Env → Result → Shared → Prop} {c : Value} {s : Shared}
    (h : Blk G A E env scope el gens pos P c s) (k : ∀ acc cenv r s', P acc cenv r s' → P' acc cenv r s') : Blk G A E env scope el gens pos P' c s := by
  unfold Blk at *
  exact wpAny_mono h (fun it s₂ h₂ => wpAny_mono h₂ (fun acc s₃ h₃ => wpAny_mono h₃ (fun cenv s₄ h₄ => codeAny_mono h₄ fun r s' z => k acc cenv r s' z) fun _ _ e => e) fun _ _ e => e) fun _ _ e => e

section
variable {G : G0} {S : Spec} {A : Around} {env : Env} {p : Pl} {σ : Sto} {s : Shared} {l : Locs} {Q : V → Sto → Prop} {Er : Value → Shared → Prop}

theorem CE.after {p₁ : Pl} {σ₁ : Sto} {h₁ : Heap} {tk : Nat} {acc : Value} {cenv : Env} {r : Result} {s' : Shared} (S₁ : Stp noW p σ.length s.heap p₁ σ₁.length h₁) (z : CE G p₁ σ₁ { s with heap := h₁, toks := tk } Q acc cenv r s') : CE G p σ s Q acc cenv r s' := by
  obtain ⟨f, D, _, _, z⟩ := z
  exact .mk f D _ _ (z.after S₁)
/-- the common part of the two comprehensions: the sequence's value, then the loop -/
theorem compn_blk {it : E} {xs : List Nm} {gens : List Comprehension} {target iter el ix : Expr} {ifs : List Expr} {scope : Scope} {pos : Pos} {F : V → Sto → (List V → Sto → Prop) → Prop} (hh : A.handled = none) (hg0 : gens[0]? = some ⟨target, iter, ifs, 0⟩) (Ji : JE G S A it env.scope.names ix)
    (hok : ScOk env.scope.names scope xs) (X : ER G env p σ.length s.heap l) (R : Rp G p σ s.heap) (h : evE S it l σ fun v σ => opt (itemsOf σ v) fun p => goComp F p.2 p.1 [] σ fun ws σ => Q (.ref σ.length) (σ ++ [.lst ws]))
    (loop : ∀ (p : Pl) (σ : Sto) (s : Shared) g vs env' I D Cur tk h', env'.scope.names = inner env.scope.names scope → ItS G A I g vs Cur → (∀ x ∈ xs, Plc G env' (CW env' xs D) I D x) → (∀ b, CW env' xs D b → b = D ∨ Own env' b) → s.heap.get? I = none → vs.length < 100 → stays g σ →
      Cor G env' (CW env' xs D) I D Cur p σ.length s.heap 0 #[] [] p σ h' (fun x => if x ∈ xs then none else l x) → goComp F g vs [] σ (fun ws σ => Q (.ref σ.length) (σ ++ [.lst ws])) →
      codeAny (model G.prog G.w) A (.compLoop (.ListComp el gens scope pos) 0 (.ref I) (.ref D) env') (LoopEnd G env' (CW env' xs D) D p σ s fun ws σ => Q (.ref σ.length) (σ ++ [.lst ws])) { s with heap := h', toks := tk }) :
    wpAny (model G.prog G.w) A (eval ix env) (Blk G A Er env scope el gens pos (CE G p σ s Q)) Er s := by
  refine Post.map (Ji env l σ p s _ Er rfl X R h) fun c σ₁ h₁ tk₁ p₁ S₁ R₁ r₁ => ?_
  obtain ⟨u, hu, r₁⟩ := r₁
  obtain ⟨⟨vs, g⟩, e₁, hgo⟩ := opt_some r₁
  exact Blk.mono (comp_blk (s := { s with heap := h₁, toks := tk₁ }) (Q := Q) (K := fun ws σ => Q (.ref σ.length) (σ ++ [.lst ws])) hh hg0 (X.step R S₁) R₁ hu e₁ hok (fun _ _ z => z) fun env' I D Cur tk h' hn T P wA hI hlen st C =>
    loop p₁ σ₁ { s with heap := h₁, toks := tk₁ } g vs env' I D Cur tk h' hn T P wA hI hlen st C hgo) fun acc cenv r s' z => z.after S₁

theorem comp1_blk {elt it : E} {y : Nm} {ifs : List E} {el ix : Expr} {fx : List Expr} {px : Pos} {scope : Scope} {pos : Pos} (hh : A.handled = none) (Ji : JE G S A it env.scope.names ix) (Je : JE G S A elt (inner env.scope.names scope) el) (Jt : JTs G S A ifs (inner env.scope.names scope) fx)
    (hok : ScOk env.scope.names scope [y]) (X : ER G env p σ.length s.heap l) (R : Rp G p σ s.heap) (h : evE S (.comp elt y it ifs) l σ Q) :
    wpAny (model G.prog G.w) A (eval ix env) (Blk G A Er env scope el [⟨.Name y.str px, ix, fx, 0⟩] pos (CE G p σ s Q)) Er s := by
  refine compn_blk (F := F1 S elt y ifs l) hh rfl Ji hok X R h fun p σ s g vs env' I D Cur tk h' hn T P wA hI hlen st C hgo => ?_
  have C' := C.sub (l' := dropL l y) (fun z w e => by simpa [dropL] using e)
  exact loop_last (pre := []) (i := 0) (acc := []) (d := 0) (gens := [⟨.Name y.str px, ix, fx, 0⟩]) (hn ▸ Je) (hn ▸ Jt) T (P y List.mem_cons_self) hI (compTurn_list el (.Name y.str px) ix fx scope pos (.ref I) (.ref D) env') (Nat.lt_of_le_of_lt (Nat.le_of_eq (Nat.zero_add _)) (Nat.lt_of_lt_of_le hlen (by decide)))
    (fun σ' h'' tk' p' its acc S' R' X' d' v' o' _ hk => d'.elim fun k₀ d' => ⟨σ', h'', tk', p', its, acc, _, k₀, S', R', X', d', v', o', hk⟩) ⟨Nat.zero_le _, Nat.zero_le _, C', st, by rw [List.drop_zero]; exact hgo⟩

theorem comp2_blk {elt it it2 : E} {x y : Nm} {ifs : List E} {el ix i1 : Expr} {fx : List Expr} {px py : Pos} {scope : Scope} {pos : Pos} (hh : A.handled = none) (hf : plainX i1 = true) (Ji : JE G S A it env.scope.names ix)
    (Ji2 : JE G S A it2 (inner env.scope.names scope) i1) (Je : JE G S A elt (inner env.scope.names scope) el) (Jt : JTs G S A ifs (inner env.scope.names scope) fx)
    (hok : ScOk env.scope.names scope [x, y]) (X : ER G env p σ.length s.heap l) (R : Rp G p σ s.heap) (h : evE S (.comp2 elt x it y it2 ifs) l σ Q) :
    wpAny (model G.prog G.w) A (eval ix env) (Blk G A Er env scope el [⟨.Name x.str px, ix, [], 0⟩, ⟨.Name y.str py, i1, fx, 0⟩] pos (CE G p σ s Q)) Er s := by
  refine compn_blk (F := F22 S elt x y it2 ifs l) hh rfl Ji hok X R h fun p σ s g vs env' I D Cur tk h' hn T P wA hI hlen st C hgo => ?_
  have C' := C.sub (l' := dropL (dropL l y) x) (fun z w e => by
    have e : (if z = x then none else if z = y then none else l z) = some w := e
    by_cases hx : z = x
    · rw [if_pos hx] at e; cases e
    · rw [if_neg hx] at e
      by_cases hy : z = y
      · rw [if_pos hy] at e; cases e
      · rw [if_neg hy] at e
        rw [if_neg (by simp [hx, hy])]; exact e)
  have Py := P y (List.mem_cons_of_mem _ List.mem_cons_self)
  exact loop_first (i := 0) (acc := []) hh hf (hn ▸ Ji2) (hn ▸ Je) (hn ▸ Jt) T (P x List.mem_cons_self) ⟨Py.tgt, Py.oD, Py.wD, Py.wT, Py.bD⟩ wA hI hlen
    (fun σ' h'' tk' p' its acc S' R' X' d' v' o' hk => d'.elim fun k₀ d' => ⟨σ', h'', tk', p', its, acc, _, k₀, S', R', X', d', v', o', hk⟩) ⟨Nat.zero_le _, Nat.zero_le _, C', st, by rw [List.drop_zero]; exact hgo⟩

theorem lookup_local {scope : Scope} (hn : (scope.names.map (·.1)).Nodup) : ∀ x ∈ scope.names, x.2 = .local → scope.names.lookup x.1 = some .local := fun x hx hl => by
  obtain ⟨n, k⟩ := x
  exact mem_lookup hn (by rw [← hl]; exact hx)
theorem clos_of {scope : Scope} {xs : List Nm} (X : ER G env p σ.length s.heap l) (hok : ScOk env.scope.names scope xs) : closureFor scope env = pure (clOf env.cells scope.names []) :=
  closure_eq fun n hn => X.all n (hok.free n hn)

theorem lc_eval {el : Expr} {gens : List Comprehension} {gt : Expr} {ix : Expr} {gf : List Expr} {gr : List Comprehension} {scope : Scope} {pos : Pos} {xs : List Nm} (hg : gens = ⟨gt, ix, gf, 0⟩ :: gr) (hp : plainX ix = true) (X : ER G env p σ.length s.heap l) (hok : ScOk env.scope.names scope xs)
    (h : wpAny (model G.prog G.w) A (eval ix env) (Blk G A Er env scope el gens pos (CE G p σ s Q)) Er s) :
    wpAny (model G.prog G.w) A (eval (.ListComp el gens scope pos) env) (Post G noW p σ s (RE G Q)) Er s := by
  subst hg
  rw [eval_ListComp]
  refine wpAny_comprehension_free (use := none) rfl (fun v => folded_plain hp env v) (clos_of X hok) hok.kind (lookup_local hok.nodup) ?_
  refine wpAny_mono h (fun c s₁ h₁ => Blk.mono h₁ fun acc cenv r s' z => ?_) fun _ _ e => e
  obtain ⟨f, D, _, _, z⟩ := z
  exact z.none
theorem lc_assign {el : Expr} {gens : List Comprehension} {gt : Expr} {ix : Expr} {gf : List Expr} {gr : List Comprehension} {scope : Scope} {pos spos pz : Pos} {xs : List Nm} {z : Nm} {Q' : Fl → Locs → Sto → Prop} (hg : gens = ⟨gt, ix, gf, 0⟩ :: gr) (hp : plainX ix = true) (X : ER G env p σ.length s.heap l) (R : Rp G p σ s.heap) (hok : ScOk env.scope.names scope xs)
    (hsw : swapsWith (.ListComp el gens scope pos) (some (.Name z.str pz)) spos.line env = pure true) (hz : env.kindOf z.str = some .local ∨ env.kindOf z.str = some .cell) (hQ : ∀ u σ, Q u σ → Q' .next (upd l z u) σ)
    (h : wpAny (model G.prog G.w) A (eval ix env) (Blk G A Er env scope el gens pos (CE G p σ s Q)) Er s) :
    wpAny (model G.prog G.w) A (exec (.Assign [.Name z.str pz] (.ListComp el gens scope pos) spos) env) (Post G (Own env) p σ s (RF G env Q')) Er s := by
  subst hg
  rw [exec_Assign_Name_used _ _ _ _ hsw]
  refine wpAny_bind (wpAny_standAt (wpAny_bind ?_))
  show wpAny _ A (do let _ ← comprehension (.ListComp el (⟨gt, ix, gf, 0⟩ :: gr) scope pos) scope env _ (newList []) false (eval ix env) (some (assign (.Name z.str pz) env))) _ _ s
  refine wpAny_bind (wpAny_mono (wpAny_comprehension_free (use := some (assign (.Name z.str pz) env)) (Q := fun _ s' => Post G (Own env) p σ s (RF G env Q') .next s') rfl (fun v => folded_plain hp env v) (clos_of X hok) hok.kind (lookup_local hok.nodup) ?_)
    (fun _ s' hq => wpAny_pure (wpAny_pure hq)) fun _ _ e => e)
  refine wpAny_mono h (fun c s₁ h₁ => Blk.mono h₁ fun acc cenv r s' y => ?_) fun _ _ e => e
  obtain ⟨f, D, _, _, y⟩ := y
  exact y.use X R hz hQ
end
end Mine
namespace Mine
open PySem PySem.W PySem.Calls PyProof.Rows

theorem rev_sub : isSubtype (.type "reversed") (.type "reversed") = pure true := by rw [isSubtype_type]; kernel_rfl
theorem rev_init : Slot "reversed" "__init__" "object.__init__" :=
  .of (owner := "object") (n := "__init__") (by rw [typeLookup_type, builtinLookup_eq_fast]; kernel_rfl) (by decide +kernel) (by decide +kernel) (by decide +kernel)
    (by first | exact .inl (by decide +kernel) | exact .inr (by decide +kernel)) (by rw [isSubtype_type]; kernel_rfl)
theorem called_rev : TypeCalled "reversed" "reversed.__new__" "object.__init__" :=
  ⟨by decide +kernel, by decide +kernel, ⟨_, _, F.mro_reversed⟩, F.made_reversed, by decide +kernel, rev_sub, rev_init⟩
theorem owner_rev : Manifest.owners.lookup (String.ofList ['d', 'e', 's', 'r', 'e', 'v', 'e', 'r'].reverse) = some Manifest.sig_reversed := by kernel_rfl
theorem rev_next : Slot "reversed" "__next__" "reversed.__next__" :=
  .of (owner := "reversed") (n := "__next__") (by rw [typeLookup_type, builtinLookup_eq_fast]; kernel_rfl) (by decide +kernel) (by decide +kernel) (by decide +kernel)
    (by first | exact .inl (by decide +kernel) | exact .inr (by decide +kernel)) (by rw [isSubtype_type]; kernel_rfl)
theorem rev_next_entry : entryFor table "reversed.__next__" = some Builtin.«reversed.__next__» := entryFor_of_tree (by kernel_rfl)
theorem rev_next_args (a : Value) : argsOk "reversed.__next__" ⟨[a], []⟩ := by
  unfold argsOk; rw [signature?_of (id := "reversed.__next__") (n := ['_', '_', 't', 'x', 'e', 'n', '_', '_']) (o := ['d', 'e', 's', 'r', 'e', 'v', 'e', 'r']) (by kernel_rfl) owner_rev]; kernel_rfl
theorem rev_iter : Slot "reversed" "__iter__" "reversed.__iter__" :=
  .of (owner := "reversed") (n := "__iter__") (by rw [typeLookup_type, builtinLookup_eq_fast]; kernel_rfl) (by decide +kernel) (by decide +kernel) (by decide +kernel)
    (by first | exact .inl (by decide +kernel) | exact .inr (by decide +kernel)) (by rw [isSubtype_type]; kernel_rfl)
theorem rev_iter_args (a : Value) : argsOk "reversed.__iter__" ⟨[a], []⟩ := by
  unfold argsOk; rw [signature?_of (id := "reversed.__iter__") (n := ['_', '_', 'r', 'e', 't', 'i', '_', '_']) (o := ['d', 'e', 's', 'r', 'e', 'v', 'e', 'r']) (by kernel_rfl) owner_rev]; kernel_rfl
theorem rev_iter_entry : entryFor table "reversed.__iter__" = some Builtin.«dict_keyiterator.__iter__» :=
  entryFor_alias (id' := "dict_keyiterator.__iter__") (by kernel_rfl) (by first | rfl | decide +kernel | (unfold String.splitOn; simp +decide [String.splitOnAux])) (by decide +kernel) (by kernel_rfl)
theorem tup_noRev : typeLookup (.type "tuple") "__reversed__" = pure none := by rw [typeLookup_type, builtinLookup_eq_fast]; kernel_rfl
theorem tup_noDict : isSubtype (.type "tuple") (.type "dict") = pure false := by rw [isSubtype_type]; kernel_rfl

noncomputable abbrev revO (a : Addr) (i : Int) : Obj := { cls := .type "reversed", data := .fields #[.ref a, rawInt i] }

theorem meets_rev_new (a : Addr) (its : Array Value) :
    Meets (Builtin.«reversed.__new__» ⟨[.type "reversed", .ref a], []⟩) (fun _ R s => s.heap.IsTuple a its ∧ (its.size : Int) < 2 ^ 63 ∧ ∀ tk, R (.ok (.ret (.ref s.heap.objs.size))) { s with heap := s.heap.push (revO a (its.size - 1)), toks := tk }) := by
  refine Meets.of_wp fun prog w A R s hs => ?_
  obtain ⟨ht, hsz, hq⟩ := hs
  unfold Builtin.«reversed.__new__»
  refine wpAny_bind (wpAny_of_eq (newClass_reversed _) ?_)
  try dsimp only
  refine wpAny_bind (wpAny_of_eq (a := ()) (by first | rfl | kernel_rfl) ?_)
  refine wpAny_bind (wpAny_of_eq (a := ()) (by first | rfl | kernel_rfl) ?_)
  try dsimp only
  refine wpAny_bind (wpAny_specialOf ht.typeIs tup_noRev ?_)
  try dsimp only
  refine wpAny_bind ?_
  show wpAny _ _ (isInstance (.ref a) (.type "dict") >>= _) _ _ _
  refine wpAny_bind (wpAny_isInstance ht.typeIs tup_noDict ?_)
  simp only [Bool.false_eq_true, if_false]
  show wpAny _ _ (specialOf (.ref a) "__getitem__" >>= _) _ _ _
  refine wpAny_bind (wpAny_specialOf ht.typeIs slot_tuple_getitem.lookup ?_)
  dsimp only
  rw [if_pos (by decide +kernel)]
  refine wpAny_pure ?_
  simp only [Bool.not_true, Bool.false_eq_true, if_false]
  refine wpAny_bind (len_tuple ht hsz ?_)
  refine wpAny_bind (wpAny_of_eq (a := some (its.size : Int)) rfl ?_)
  dsimp only
  refine wpAny_bind ?_
  unfold Builtin.SmallTypes.newRecord
  refine wpAny_newObj_type (hd := by size_fits) (wpAny_pure ⟨_, rfl, hq _⟩)

theorem call_rev {prog : Program} {w : World} {A : Around} {E : Value → Shared → Prop} {s : Shared} {a : Addr} {its : Array Value} {Q : Value → Shared → Prop} (ht : s.heap.IsTuple a its) (hz : (its.size : Int) < 2 ^ 63)
    (q : ∀ tk, Q (.ref s.heap.objs.size) { s with heap := s.heap.push (revO a (its.size - 1)), toks := tk }) : wpAny (model prog w) A (call (.type "reversed") [.ref a]) Q E s :=
  callType_new called_rev (by decide) (F.typeCall_reversed_1 _) (F.newCall_reversed_1 _) (fun obj => F.args_object_init_2 obj _) F.entry_reversed_new (meets_rev_new a its) ⟨ht, hz, fun tk => ⟨⟨_, Heap.get?_push_size _ rfl, rfl⟩, q tk⟩⟩

section
variable {prog : Program} {w : World} {A : Around} {E : Value → Shared → Prop} {s : Shared} {I a : Addr} {its : Array Value} {i : Int}
theorem next_rev {x : Value} {k : Nat} {Q : Option Value → Shared → Prop} (hI : s.heap.get? I = some (revO a i)) (ht : s.heap.IsTuple a its) (h0 : 0 ≤ i) (hk : i = (k : Int)) (hx : its[k]? = some x) (hz : (its.size : Int) < 2 ^ 63)
    (q : ∀ h' tk, h'.get? I = some (revO a (i - 1)) → Heap.SameBut I s.heap h' → Q (some x) { s with heap := h', toks := tk }) : wpAny (model prog w) A (pyNext (.ref I)) Q E s := by
  have hT : s.TypeIs (.ref I) "reversed" := ⟨_, hI, rfl⟩
  unfold pyNext
  refine wpAny_bind (wpAny_attempt (wpAny_callSpecial?_slot (name := Str.ofString "__next__") hT rev_next
    (wpAny_call_entry rev_next hT rev_next_entry ?_ (rev_next_args _))))
  unfold Builtin.«reversed.__next__»
  refine wpAny_bind (wpAny_of_eq (a := (Value.ref I, [])) rfl ?_)
  try dsimp only
  refine wpAny_bind (wpAny_field hI rfl (x := .ref a) rfl ?_)
  refine wpAny_bind (wpAny_field hI rfl (x := rawInt i) rfl ?_)
  show wpAny _ _ (if i < 0 then _ else _) _ _ s
  rw [if_neg (by (first | lia | omega))]
  show wpAny _ _ (specialOf (.ref a) "__getitem__" >>= _) _ _ _
  refine wpAny_bind (wpAny_specialOf ht.typeIs slot_tuple_getitem.lookup ?_)
  simp only [Option.isNone_some, Bool.false_eq_true, if_false]
  have hlt : k < its.size := (Array.getElem?_eq_some_iff.mp hx).1
  refine wpAny_bind (m := mkInt i) (wpAny_mkInt ?_)
  refine wpAny_bind (wpAny_attempt (getItem_tuple (s := { s with toks := s.toks + 1 }) ht (by (first | lia | omega)) (by (first | lia | omega)) (seqIndex_of h0 (by (first | lia | omega))) (by rw [hk, Int.toNat_natCast]; exact hx) ?_))
  refine wpAny_bind (wpAny_field (s := { s with toks := s.toks + 1 }) hI rfl (x := rawInt i) rfl ?_)
  show wpAny _ _ (setField (.ref I) 1 (rawInt (i - 1)) >>= _) _ _ _
  refine wpAny_bind (wpAny_setField_rec (s := { s with toks := s.toks + 1 }) hI (by simp) fun h' hI' hs => wpAny_pure ⟨x, rfl, wpAny_pure (q h' _ ?_ hs)⟩)
  simpa using hI'

theorem next_rev_end {Q : Option Value → Shared → Prop} (hh : A.handled = none) (hI : s.heap.get? I = some (revO a i)) (h0 : i < 0)
    (q : ∀ h' tk, (∀ b o, b ≠ I → s.heap.get? b = some o → h'.get? b = some o) → Q none { s with heap := h', toks := tk }) : wpAny (model prog w) A (pyNext (.ref I)) Q E s := by
  have hT : s.TypeIs (.ref I) "reversed" := ⟨_, hI, rfl⟩
  unfold pyNext
  refine wpAny_bind (wpAny_attempt (wpAny_callSpecial?_slot (name := Str.ofString "__next__") hT rev_next
    (wpAny_call_entry rev_next hT rev_next_entry ?_ (rev_next_args _))))
  unfold Builtin.«reversed.__next__»
  refine wpAny_bind (wpAny_of_eq (a := (Value.ref I, [])) rfl ?_)
  try dsimp only
  refine wpAny_bind (wpAny_field hI rfl (x := .ref a) rfl ?_)
  refine wpAny_bind (wpAny_field hI rfl (x := rawInt i) rfl ?_)
  show wpAny _ _ (if i < 0 then _ else _) _ _ s
  rw [if_pos h0]
  refine wpAny_bind (wpAny_rule ?_)
  refine wpAny_bind ?_
  show wpAny _ _ (setField (.ref I) 1 (rawInt (-1)) >>= _) _ _ _
  refine wpAny_bind (wpAny_setField_rec hI (by simp) fun h₁ hI₁ hs₁ => ?_)
  refine wpAny_setField_rec (s := { s with heap := h₁ }) hI₁ (by simp) fun h₂ hI₂ hs₂ => ?_
  refine wpAny_bind ?_
  first
  | show wpAny _ _ (newExc (.type "StopIteration") [] >>= _) _ _ _
  | (refine wpAny_bind ?_; show wpAny _ _ (newExc (.type "StopIteration") [] >>= _) _ _ _)
  refine wpAny_bind ?_
  simp only [newExc, newTuple]
  refine wpAny_bind (wpAny_newObj_type ?_ (by size_fits))
  refine wpAny_bind (m := firstArgMember _ _) (wpAny_of_eq (a := Value.none) (by first | rfl | (simp only [firstArgMember]; rfl)) ?_)
  refine wpAny_newObj_type ?_ (by size_fits)
  simp only [raiseNew]
  refine wpAny_bind (wpAny_handled ?_)
  first | rw [show A.in1.handled = none from hh] | rw [hh]
  refine wpAny_bind (wpAny_pure (wpAny_throw ?_))
  refine wpAny_bind (wpAny_isInstance (T := "StopIteration") (b := true) ⟨_, Heap.get?_push_size _ rfl, rfl⟩ isSubtype_stop ?_)
  exact wpAny_pure (q _ _ fun b o hb e => Heap.get?_push_of_some _ (Heap.get?_push_of_some _ (by rw [hs₂.2 b hb, hs₁.2 b hb]; exact e)))

theorem iter_rev {Q : Value → Shared → Prop} (hI : s.heap.get? I = some (revO a i)) (h : Q (.ref I) s) : wpAny (model prog w) A (pyIter (.ref I)) Q E s := by
  have hT : s.TypeIs (.ref I) "reversed" := ⟨_, hI, rfl⟩
  refine wpAny_pyIter_slot hT rev_iter (wpAny_call_entry rev_iter hT rev_iter_entry ?_ (rev_iter_args _))
  show wpAny _ _ (ret (.ref I)) _ _ s
  exact wpAny_pure ⟨_, rfl, "reversed", _, hT, rev_next.lookup, h⟩
end
end Mine
namespace Mine
open PySem PySem.W PySem.Calls PyProof.Rows

section
variable {G : G0} {A : Around} {I : Addr}
theorem rev_noTup {h : Heap} {a : Addr} {i : Int} (x : h.get? I = some (revO a i)) (items : Array Value) : ¬ h.IsTuple I items := not_tup_of x (by show Value.type "reversed" ≠ _; decide) _

theorem ItS.rev (hh : A.handled = none) (a : Addr) (vs : List V) (hz : (vs.length : Int) < 2 ^ 62) :
    ItS G A I none vs.reverse (fun p σ h i => h.get? I = some (revO a ((vs.length : Int) - 1 - (i : Int))) ∧ ∃ its, h.IsTuple a its ∧ VRs G.base p σ.length h its.toList vs) where
  noTup := fun c => rev_noTup c.1
  alive := fun c => by rw [c.1]; rfl
  frame := fun c k hl ha T => ⟨k _ c.1, by obtain ⟨its, h1, h2⟩ := c.2; exact ⟨its, T _ _ h1, h2.mono hl ha T⟩⟩
  item := fun {i v p σ s Q E} c R st hv q => by
    obtain ⟨hI, its, h0, hvs⟩ := c
    have hi : i < vs.length := by have := (List.getElem?_eq_some_iff.mp hv).1; simpa using this
    have hv' : vs[vs.length - 1 - i]? = some v := by rw [List.getElem?_reverse hi] at hv; exact hv
    obtain ⟨cv, h1, h2⟩ := hvs.get hv'
    have hsz := size_of_vrs hvs
    refine next_rev (k := vs.length - 1 - i) hI h0 (by (first | lia | omega)) (by (first | lia | omega)) (by rw [← Array.getElem?_toList]; exact h1) (by (first | lia | omega)) fun h' tk hI' hs => ?_
    have k := fun b o (hb : b ≠ I) (e : s.heap.get? b = some o) => hs.extBut b o hb e
    have T := tups_but (rev_noTup hI) k
    refine q cv h' tk (h2.tups T) ⟨?_, its, T _ _ h0, hvs.tups T⟩ k
    rw [hI']
    have : (vs.length : Int) - 1 - (i : Int) - 1 = (vs.length : Int) - 1 - ((i + 1 : Nat) : Int) := by (first | lia | omega)
    rw [this]
  done := fun {p σ s Q E} c R st q => by
    refine next_rev_end hh c.1 (by simp; (first | lia | omega)) q
  self := fun c q => iter_rev c.1 q
  own := fun c q => own_of c.1 rfl (by decide) q
end
end Mine
namespace Mine
open PySem PySem.W PySem.Calls PyProof.Rows

section
variable {prog : Program} {w : World} {A : Around} {Er : Value → Shared → Prop} {s : Shared} {G : G0} {p : Pl} {σ σ' : Sto} {c c' d : Value} {u v : V} {h' : Heap} {tk : Nat}

theorem one1 {α : Type} {f : V → Option α} {q : α} {vs : List V} {cs : List Value} {P : List Value → Prop} (e : one f vs = some q) (hv : VRs G.base p σ.length s.heap cs vs) (k : ∀ c v, VR G.base p σ.length s.heap c v → f v = some q → P [c]) : P cs := by
  revert hv
  refine one_el (P := fun vs => VRs G.base p σ.length s.heap cs vs → P cs) e fun v e hv => ?_
  obtain ⟨c, r, rfl, h, hr⟩ := F2.uncons hv
  cases hr.nil_inv
  exact k c v h e
theorem two2 {α : Type} {f : V → V → Option α} {q : α} {vs : List V} {cs : List Value} {P : List Value → Prop} (e : two f vs = some q) (hv : VRs G.base p σ.length s.heap cs vs) (k : ∀ c v d u, VR G.base p σ.length s.heap c v → VR G.base p σ.length s.heap d u → f v u = some q → P [c, d]) : P cs := by
  revert hv
  refine two_el (P := fun vs => VRs G.base p σ.length s.heap cs vs → P cs) e fun v u e hv => ?_
  obtain ⟨c, d, r, rfl, h, h2, hr⟩ := F2.two hv
  cases hr.nil_inv
  exact k c v d u h h2 e
theorem op_bi (H : GOk G) (R : Rp G p σ s.heap) (hh : A.handled = none) {b : Bi} {vs : List V} {cs : List Value} {q : V × Sto} (hv : VRs G.base p σ.length s.heap cs vs) (e : evBi σ b vs = some q) :
    wpAny (model G.prog G.w) A (call b.val cs) (OP G p σ s q.1 q.2) Er s := by
  cases b with
  | len => exact one1 (P := fun cs => wpAny _ _ (call _ cs) (OP G p σ s q.1 q.2) Er s) e hv fun c v h e => op_len H R h e
  | tuple => exact one1 (P := fun cs => wpAny _ _ (call _ cs) (OP G p σ s q.1 q.2) Er s) e hv fun c v h e => op_tuple R h e
  | min => exact two2 (P := fun cs => wpAny _ _ (call _ cs) (OP G p σ s q.1 q.2) Er s) e hv fun c v d u h h2 e => op_min R hh h h2 e
  | max => exact two2 (P := fun cs => wpAny _ _ (call _ cs) (OP G p σ s q.1 q.2) Er s) e hv fun c v d u h h2 e => op_max R hh h h2 e
  | sorted => exact one1 (P := fun cs => wpAny _ _ (call _ cs) (OP G p σ s q.1 q.2) Er s) e hv fun c v h e => op_sorted H R hh h e
  | list => exact one1 (P := fun cs => wpAny _ _ (call _ cs) (OP G p σ s q.1 q.2) Er s) e hv fun c v h e => op_list R h e
  | int => exact one1 (P := fun cs => wpAny _ _ (call _ cs) (OP G p σ s q.1 q.2) Er s) e hv fun c v h e => op_int R h e
  | str => exact one1 (P := fun cs => wpAny _ _ (call _ cs) (OP G p σ s q.1 q.2) Er s) e hv fun c v h e => op_str R h e

noncomputable def Lm.id : Lm → String
  | .append => "list.append" | .pop => "list.pop" | .extend => "list.extend" | .get => "dict.get"

theorem op_getm (R : Rp G p σ s.heap) {m : Lm} {pl : Sem Bool} {Q : Value × List Value → Shared → Prop} (hc : VR G.base p σ.length s.heap c v) (e : lmOk σ m v = true) (q : Q (.builtin m.id, [c]) s) :
    wpAny (model prog w) A (getMethod c m.str pl) Q Er s := by
  obtain ⟨_, e⟩ := Option.isSome_iff_exists.mp e
  obtain ⟨n, hn, e⟩ := bnd e
  obtain ⟨rfl, hn⟩ := hc.ref? hn
  have one : ∀ {a o}, s.heap.get? (p.φ n) = some o → o.dict = none → Value.ref (p.φ n) = .ref a → ∃ o, s.heap.get? a = some o ∧ o.dict = none := fun h h2 e => by cases e; exact ⟨_, h, h2⟩
  have lst : ((σ.lst n).map fun _ => ()) = some () → s.TypeIs (.ref (p.φ n)) "list" ∧ (∀ a, Value.ref (p.φ n) = .ref a → ∃ o, s.heap.get? a = some o ∧ o.dict = none) := fun e => by
    obtain ⟨xs, hx, _⟩ := Option.map_eq_some_iff.mp e
    obtain ⟨_, _, its, k₀, h0, _⟩ := lst_get R hx
    exact ⟨⟨_, h0, rfl⟩, fun a => one h0 rfl⟩
  cases m with
  | get =>
    obtain ⟨m, hm, _⟩ := Option.map_eq_some_iff.mp e
    obtain ⟨o, ho, hm⟩ := bnd hm
    cases AObj.dT?_eq hm
    obtain ⟨hd, xs, ⟨o, es, ep, ho, he, _⟩, h2⟩ := R.get ho
    exact getMethod_builtin ⟨o, ho, he.1⟩ PySem.F.plainAttrs_dict PySem.F.slot_dict_get PySem.F.type_dict_get (fun a => one ho he.2.1) q
  | append => exact getMethod_builtin (lst e).1 PySem.F.plainAttrs_list PySem.F.slot_list_append PySem.F.type_list_append (lst e).2 q
  | pop => exact getMethod_builtin (lst e).1 PySem.F.plainAttrs_list PySem.F.slot_list_pop PySem.F.type_list_pop (lst e).2 q
  | extend => exact getMethod_builtin (lst e).1 PySem.F.plainAttrs_list PySem.F.slot_list_extend PySem.F.type_list_extend (lst e).2 q

theorem op_lm (H : GOk G) (R : Rp G p σ s.heap) (hu : A.units + 2 < cLine) {m : Lm} {vs : List V} {cs : List Value} {q : V × Sto} (hc : VR G.base p σ.length s.heap c v) (hv : VRs G.base p σ.length s.heap cs vs) (e : evLm σ m v vs = some q) :
    wpAny (model G.prog G.w) A (call (.builtin m.id) ([c] ++ cs)) (OP G p σ s q.1 q.2) Er s := by
  obtain ⟨n, hn, e'⟩ := bnd e
  clear e
  cases V.ref?_eq hn
  cases m with
  | append => exact one1 (P := fun cs => wpAny _ _ (call _ ([c] ++ cs)) (OP G p σ s q.1 q.2) Er s) e' hv fun d u h e => op_append R hc h e
  | pop =>
    cases hv with
    | nil => exact op_pop R hc e'
    | cons h hr =>
      revert hr
      refine bndK e' fun xs hl e => ?_
      refine nilO_el (P := fun r => F2 _ _ r → _) e fun e' hr => ?_
      cases hr.nil_inv
      exact op_popAt R hc h (show (σ.lst n).bind _ = some q by rw [hl]; exact e')
  | extend => exact one1 (P := fun cs => wpAny _ _ (call _ ([c] ++ cs)) (OP G p σ s q.1 q.2) Er s) e' hv fun d u h e => op_extend R hc h e
  | get => exact two2 (P := fun cs => wpAny _ _ (call _ ([c] ++ cs)) (OP G p σ s q.1 q.2) Er s) e' hv fun d u d' u' h h2 e => op_get H R hu hc h h2 e

theorem op_typeOf_idx {k : V} (R : Rp G p σ s.heap) (hc : VR G.base p σ.length s.heap c v) (e : getIdx σ v k = some u) : ∃ T id, s.TypeIs c T ∧ typeLookup (.type T) "__getitem__" = pure (some (.builtin id)) := by
  obtain ⟨n, hn, e⟩ := bnd e
  obtain ⟨o, hm, e⟩ := bnd e
  obtain ⟨rfl, hn⟩ := hc.ref? hn
  have hr := R.get hm
  cases o with
  | lst xs => exact hr.2.elim fun _ z => z.elim fun _ z => ⟨"list", _, ⟨_, z.1, rfl⟩, slot_list_getitem.lookup⟩
  | dI m => exact hr.2.elim fun _ z => ⟨"dict", _, DictOf.at z.1, slot_dict_getitem.lookup⟩
  | dS m => exact hr.2.elim fun _ z => ⟨"dict", _, DictOf.at z.1, slot_dict_getitem.lookup⟩
  | dT m => exact no_some e
  | inst _ _ => exact no_some e

theorem truthy_of {b : Bool} {Q : Bool → Shared → Prop} {M : Model} (h : Q b s) : wpAny M A (truthy (.bool b)) Q Er s := wpAny_truthy_bool h
end
end Mine
namespace Mine
open PySem PySem.W PySem.Calls PyProof.Rows

noncomputable def Rise (xs : Array Nat) : Prop := ∀ i j, i < j → j < xs.size → xs.getD i 0 < xs.getD j 0

theorem gd_any {xs : Array Nat} {i : Nat} (h : i < xs.size) (d : Nat) : xs.getD i d = xs.getD i 0 := by simp [Array.getD, h]
theorem below_go {xs : Array Nat} (hr : Rise xs) (j : Nat) : ∀ (fuel lo hi : Nat), hi - lo ≤ fuel → lo ≤ hi → hi ≤ xs.size → (∀ i, i < lo → xs.getD i 0 < j) → (∀ i, hi ≤ i → i < xs.size → j ≤ xs.getD i 0) →
    SetTable.below.go xs j fuel lo hi ≤ xs.size ∧ (∀ i, i < SetTable.below.go xs j fuel lo hi → xs.getD i 0 < j) ∧ (∀ i, SetTable.below.go xs j fuel lo hi ≤ i → i < xs.size → j ≤ xs.getD i 0)
  | 0, lo, hi, hf, hl, hs, h1, h2 => by
    have : lo = hi := by (first | lia | omega)
    subst this
    exact ⟨hs, h1, h2⟩
  | fuel + 1, lo, hi, hf, hl, hs, h1, h2 => by
    unfold SetTable.below.go
    by_cases hlt : lo < hi
    · rw [if_pos hlt]
      dsimp only
      rw [gd_any (by (first | lia | omega)) j]
      by_cases hm : xs.getD ((lo + hi) / 2) 0 < j
      · rw [if_pos hm]
        refine below_go hr j fuel _ hi (by (first | lia | omega)) (by (first | lia | omega)) hs (fun i hi' => ?_) h2
        rcases Nat.lt_or_ge i ((lo + hi) / 2) with q | q
        · exact Nat.lt_trans (hr i _ q (by (first | lia | omega))) hm
        · have : i = (lo + hi) / 2 := by (first | lia | omega)
          rw [this]; exact hm
      · rw [if_neg hm]
        refine below_go hr j fuel lo _ (by (first | lia | omega)) (by (first | lia | omega)) (by (first | lia | omega)) h1 (fun i hi' hs' => ?_)
        rcases Nat.lt_or_ge ((lo + hi) / 2) i with q | q
        · exact Nat.le_trans (Nat.not_lt.mp hm) (Nat.le_of_lt (hr _ i q hs'))
        · have : i = (lo + hi) / 2 := by (first | lia | omega)
          rw [this]; exact Nat.not_lt.mp hm
    · rw [if_neg hlt]
      have : lo = hi := by (first | lia | omega)
      subst this
      exact ⟨hs, h1, h2⟩
theorem below_spec {xs : Array Nat} (hr : Rise xs) (j : Nat) : SetTable.below xs j ≤ xs.size ∧ (∀ i, i < SetTable.below xs j → xs.getD i 0 < j) ∧ (∀ i, SetTable.below xs j ≤ i → i < xs.size → j ≤ xs.getD i 0) :=
  below_go hr j xs.size 0 xs.size (by (first | lia | omega)) (Nat.zero_le _) (Nat.le_refl _) (fun _ h => absurd h (Nat.not_lt_zero _)) (fun i h1 h2 => absurd h2 (Nat.not_lt.mpr h1))

theorem insertAt_size {α : Type} (xs : Array α) (p : Nat) (x : α) (hp : p ≤ xs.size) : (SetTable.insertAt xs p x).size = xs.size + 1 := by
  unfold SetTable.insertAt
  simp
  (first | lia | omega)
theorem insertAt_get (xs : Array Nat) (p x i : Nat) (hp : p ≤ xs.size) : (SetTable.insertAt xs p x).getD i 0 = if i < p then xs.getD i 0 else if i = p then x else xs.getD (i - 1) 0 := by
  have key : (SetTable.insertAt xs p x)[i]? = if i < p then xs[i]? else if i = p then some x else xs[i - 1]? := by
    unfold SetTable.insertAt
    rw [Array.getElem?_append]
    have hs : ((xs.extract 0 p).push x).size = p + 1 := by simp; (first | lia | omega)
    rw [hs]
    by_cases h1 : i < p
    · rw [if_pos h1, if_pos (by (first | lia | omega)), Array.getElem?_push, if_neg (by simp; (first | lia | omega)), Array.getElem?_extract]
      rw [if_pos (by simp; (first | lia | omega))]; simp
    · rw [if_neg h1]
      by_cases h2 : i = p
      · subst h2
        rw [if_pos (by (first | lia | omega)), if_pos rfl, Array.getElem?_push, if_pos (by simp; (first | lia | omega))]
      · rw [if_neg (by (first | lia | omega)), if_neg h2, Array.getElem?_extract]
        by_cases h3 : i - (p + 1) < xs.size - p
        · rw [if_pos (by simpa using h3)]
          congr 1; (first | lia | omega)
        · rw [if_neg (by simpa using h3), Array.getElem?_eq_none (by (first | lia | omega))]
  rw [Array.getD_eq_getD_getElem?, Array.getD_eq_getD_getElem?, Array.getD_eq_getD_getElem?, key]
  split
  · rfl
  · split <;> rfl

theorem rise_insert {xs : Array Nat} (hr : Rise xs) {j : Nat} (hn : xs[SetTable.below xs j]? ≠ some j) : Rise (SetTable.insertAt xs (SetTable.below xs j) j) := by
  obtain ⟨b1, b2, b3⟩ := below_spec hr j
  have b4 : ∀ i, SetTable.below xs j ≤ i → i < xs.size → j < xs.getD i 0 := fun i h1 h2 => by
    have hk : SetTable.below xs j < xs.size := by (first | lia | omega)
    have h0 : j < xs.getD (SetTable.below xs j) 0 := by
      refine Nat.lt_of_le_of_ne (b3 _ (Nat.le_refl _) hk) fun e => hn ?_
      rw [Array.getElem?_eq_getElem hk]
      rw [Array.getD_eq_getD_getElem?, Array.getElem?_eq_getElem hk] at e
      simpa using e.symm
    rcases Nat.lt_or_ge (SetTable.below xs j) i with q | q
    · exact Nat.lt_trans h0 (hr _ i q h2)
    · have : i = SetTable.below xs j := by (first | lia | omega)
      rw [this]; exact h0
  intro a b hab hb
  rw [insertAt_size _ _ _ b1] at hb
  rw [insertAt_get _ _ _ _ b1, insertAt_get _ _ _ _ b1]
  by_cases h1 : b < SetTable.below xs j
  · rw [if_pos (by (first | lia | omega)), if_pos h1]; exact hr a b hab (by (first | lia | omega))
  · rw [if_neg h1]
    by_cases h2 : b = SetTable.below xs j
    · rw [if_pos h2, if_pos (by (first | lia | omega))]; exact b2 a (by (first | lia | omega))
    · rw [if_neg h2]
      by_cases h3 : a < SetTable.below xs j
      · rw [if_pos h3]; exact Nat.lt_trans (b2 a h3) (b4 (b - 1) (by (first | lia | omega)) (by (first | lia | omega)))
      · rw [if_neg h3]
        by_cases h4 : a = SetTable.below xs j
        · rw [if_pos h4]; exact b4 (b - 1) (by (first | lia | omega)) (by (first | lia | omega))
        · rw [if_neg h4]; exact hr _ _ (by (first | lia | omega)) (by (first | lia | omega))

theorem rise_empty : Rise #[] := fun _ _ _ h => absurd h (Nat.not_lt_zero _)
theorem rise_of_sorted {l : List Nat} (h : l.Pairwise (· < ·)) : Rise l.toArray := by
  intro i j hij hj
  simp at hj
  have h1 : (l.toArray).getD i 0 = l[i]'(by (first | lia | omega)) := by simp [Array.getD, show i < l.length by (first | lia | omega)]
  have h2 : (l.toArray).getD j 0 = l[j]'(by (first | lia | omega)) := by simp [Array.getD, hj]
  rw [h1, h2]
  exact List.pairwise_iff_getElem.mp h i j (by (first | lia | omega)) hj hij
theorem range_sorted (n : Nat) : (List.range n).Pairwise (· < ·) := List.pairwise_lt_range
theorem rise_range (n : Nat) : Rise (Array.range n) := by
  have : Array.range n = (List.range n).toArray := by simp [Array.range_eq_range', List.range_eq_range']
  rw [this]; exact rise_of_sorted (range_sorted n)

/-- a table without dummies, its places rising, led as it was made -/
structure LRT (bt : Bool) (t : SetTable) : Prop where
  dum : t.dummies = #[]
  rise : Rise t.place
  led : bt = false → t.led = true

theorem slot_empty {t : SetTable} (hd : t.dummies = #[]) {j : Nat} : t.slot j ≠ .dummy := by
  unfold SetTable.slot
  dsimp only
  rw [hd]
  split
  · intro h; cases h
  · have : SetTable.has #[] j = false := by unfold SetTable.has; simp
    rw [this]; simp
theorem probe_go {t : SetTable} (hd : t.dummies = #[]) {ha : Nat → Int} {h : Int} : ∀ (fuel : Nat) (p : SetTable.Probe) {j : Nat} {d : Option Nat}, p.dummy = none → SetTable.probe.go t ha h fuel p = some (.empty j d) → t.slot j = .empty ∧ d = none
  | 0, p, j, d, hp, e => by unfold SetTable.probe.go at e; cases e
  | fuel + 1, p, j, d, hp, e => by
    unfold SetTable.probe.go at e
    have adv : (t.advance p).dummy = none := by unfold SetTable.advance; split <;> exact hp
    split at e
    · rename_i hs
      cases e
      exact ⟨hs, hp⟩
    · rename_i hs
      exact absurd hs (slot_empty hd)
    · split at e
      · cases e
      · exact probe_go hd fuel _ adv e
theorem freeSlot_of {t : SetTable} (hd : t.dummies = #[]) {h : Int} {j : Nat} {b : Bool} (e : t.freeSlot h = some (j, b)) : t.slot j = .empty ∧ b = false := by
  unfold SetTable.freeSlot at e
  split at e
  · rename_i j' d he
    unfold SetTable.probe at he
    obtain ⟨h1, rfl⟩ := probe_go hd _ _ rfl he
    simp at e
    obtain ⟨rfl, rfl⟩ := e
    exact ⟨h1, rfl⟩
  · cases e
theorem slot_not {t : SetTable} {j : Nat} (h : t.slot j = .empty) : t.place[SetTable.below t.place j]? ≠ some j := by
  unfold SetTable.slot at h
  dsimp only at h
  intro e
  rw [if_pos (by rw [e]; simp)] at h
  cases h

theorem lrt_standIn {bt : Bool} {t : SetTable} (L : LRT bt t) (n : Nat) : LRT bt (t.standIn n) := ⟨rfl, rise_range n, L.led⟩
theorem lrt_layNew {bt : Bool} {t : SetTable} (L : LRT bt t) (es : Array (Int × Value)) (h : Int) (x : Value) : LRT bt (layNew t es h x).2.1 := by
  unfold layNew
  split
  · rename_i slot wasDummy he
    obtain ⟨h1, h2⟩ := freeSlot_of L.dum he
    have P : LRT bt (t.put slot).1 := by
      unfold SetTable.put
      dsimp only
      refine ⟨?_, rise_insert L.rise (slot_not h1), L.led⟩
      dsimp only
      rw [L.dum]
      have : SetTable.has #[] slot = false := by unfold SetTable.has; simp
      rw [this]; rfl
    dsimp only
    unfold SetTable.orStandIn
    split
    · exact P
    · exact lrt_standIn P _
  · exact lrt_standIn L _
theorem lrt_relayAll {bt : Bool} {t : SetTable} (L : LRT bt t) (es : Array (Int × Value)) (wanted : Nat) : LRT bt (relayAll t es wanted).2.1 := by
  unfold relayAll
  split
  · rename_i t' order he
    dsimp only
    split
    · unfold SetTable.relaid SetTable.laid at he
      cases ho : SetTable.layClean (SetTable.sizeAbove wanted - 1) (es.map (·.1)) with
      | none => rw [ho] at he; cases he
      | some owner =>
        rw [ho] at he
        simp only [Option.bind_eq_bind, Option.bind_some, Option.pure_def, Option.some.injEq, Prod.mk.injEq] at he
        obtain ⟨rfl, _⟩ := he
        refine ⟨rfl, rise_of_sorted ?_, L.led⟩
        rw [List.map_filterMap]
        refine List.Pairwise.filterMap _ ?_ (range_sorted _)
        intro a b hab x hx y hy
        simp only [Option.map_map, Function.comp_def, Option.mem_def, Option.map_eq_some_iff] at hx hy
        obtain ⟨_, _, rfl⟩ := hx
        obtain ⟨_, _, rfl⟩ := hy
        exact hab
    · exact lrt_standIn L _
  · exact lrt_standIn L _
theorem lrt_plain {bt : Bool} {t : SetTable} (L : LRT bt t) : LRT bt { t with plain := false } := ⟨L.dum, L.rise, L.led⟩
theorem lrt_fresh {bt : Bool} : LRT bt (.fresh 0 0 (!bt)) := ⟨rfl, rise_empty, fun h => by rw [h]; rfl⟩
end Mine
namespace Mine
open PySem PySem.W PySem.Calls PyProof.Rows

noncomputable def lcg (m i : Nat) : Nat := (i * 5 + 1) % (m + 1)
noncomputable def it {α : Type} (f : α → α) : Nat → α → α
  | 0, x => x
  | k + 1, x => it f k (f x)
theorem it_add {α : Type} (f : α → α) : ∀ (a b : Nat) (x : α), it f (a + b) x = it f b (it f a x)
  | 0, b, x => by rw [Nat.zero_add]; rfl
  | a + 1, b, x => by rw [Nat.add_right_comm]; exact it_add f a b (f x)
noncomputable def orb (f : Nat → Nat) : Nat → Nat → List Nat
  | 0, _ => []
  | k + 1, x => x :: orb f k (f x)
theorem orb_mem {f : Nat → Nat} : ∀ {n x t : Nat}, t ∈ orb f n x → ∃ k, k < n ∧ it f k x = t
  | 0, _, _, h => by cases h
  | n + 1, x, t, h => by
    rcases List.mem_cons.mp h with e | h
    · exact ⟨0, Nat.succ_pos _, e.symm⟩
    · obtain ⟨k, hk, e⟩ := orb_mem h
      exact ⟨k + 1, Nat.succ_lt_succ hk, e⟩

noncomputable def Cov (m : Nat) : Prop := ∀ r t, r ≤ m → t ≤ m → ∃ k, k ≤ m ∧ it (lcg m) k r = t
theorem cov_of {m : Nat} (h1 : (List.range (m + 1)).all (fun t => (orb (lcg m) (m + 1) 0).contains t) = true) (h2 : it (lcg m) (m + 1) 0 = 0) : Cov m := by
  intro r t hr ht
  have mem : ∀ t, t ≤ m → ∃ k, k < m + 1 ∧ it (lcg m) k 0 = t := fun t ht => by
    have := List.all_eq_true.mp h1 t (List.mem_range.mpr (Nat.lt_succ_of_le ht))
    exact orb_mem (List.contains_iff_mem.mp this)
  obtain ⟨a, ha, ea⟩ := mem r hr
  obtain ⟨b, hb, eb⟩ := mem t ht
  rcases Nat.lt_or_ge b a with q | q
  · refine ⟨m + 1 - a + b, by (first | lia | omega), ?_⟩
    rw [← ea, ← it_add, show a + (m + 1 - a + b) = (m + 1) + b by (first | lia | omega), it_add, h2]; exact eb
  · refine ⟨b - a, by (first | lia | omega), ?_⟩
    rw [← ea, ← it_add, show a + (b - a) = b by (first | lia | omega)]; exact eb
theorem cov7 : Cov 7 := cov_of (by decide +kernel) (by decide +kernel)
theorem cov31 : Cov 31 := cov_of (by decide +kernel) (by decide +kernel)
theorem cov127 : Cov 127 := cov_of (by decide +kernel) (by decide +kernel)

noncomputable def lp (m : Nat) (x : Nat × Nat) : Nat × Nat := SetTable.leap m x.1 x.2
theorem lp_snd (m : Nat) : ∀ (k : Nat) (x : Nat × Nat), (it (lp m) k x).2 = x.2 / 32 ^ k
  | 0, x => by simp [it]
  | k + 1, x => by
    show (it (lp m) k (lp m x)).2 = _
    rw [lp_snd m k (lp m x)]
    show x.2 / 32 / 32 ^ k = _
    rw [Nat.div_div_eq_div_mul, Nat.pow_succ, Nat.mul_comm]
theorem lp_zero (m : Nat) : ∀ (k i : Nat), it (lp m) k (i, 0) = (it (lcg m) k i, 0)
  | 0, i => rfl
  | k + 1, i => by
    show it (lp m) k (lp m (i, 0)) = _
    have : lp m (i, 0) = (lcg m i, 0) := by simp [lp, SetTable.leap, lcg]
    rw [this]; exact lp_zero m k _
theorem lp_fst_le (m : Nat) {x : Nat × Nat} (hx : x.1 ≤ m) : ∀ k, (it (lp m) k x).1 ≤ m
  | 0 => hx
  | k + 1 => by
    show (it (lp m) k (lp m x)).1 ≤ m
    exact lp_fst_le m (Nat.le_of_lt_succ (Nat.mod_lt _ (Nat.succ_pos _))) k
/-- the leaps come everywhere -/
theorem lp_cov {m : Nat} (C : Cov m) {i q : Nat} (hi : i ≤ m) (hq : q < 2 ^ 64) {t : Nat} (ht : t ≤ m) : ∃ k, k ≤ m + 13 ∧ (it (lp m) k (i, q)).1 = t := by
  have h13 : it (lp m) 13 (i, q) = ((it (lp m) 13 (i, q)).1, 0) := by
    have := lp_snd m 13 (i, q)
    have e : q / 32 ^ 13 = 0 := Nat.div_eq_of_lt (Nat.lt_of_lt_of_le hq (by decide))
    rw [e] at this
    exact Prod.ext rfl this
  obtain ⟨k, hk, e⟩ := C _ t (lp_fst_le m (x := (i, q)) hi 13) ht
  refine ⟨13 + k, by (first | lia | omega), ?_⟩
  rw [it_add, h13, lp_zero]; exact e

section
variable {t : SetTable} {ha : Nat → Int} {h : Int}

noncomputable def nextP (t : SetTable) (i q : Nat) (d : Option Nat) : SetTable.Probe :=
  { j := (SetTable.leap t.mask i q).1, more := SetTable.runEnd t.mask (SetTable.leap t.mask i q).1 - (SetTable.leap t.mask i q).1, i := (SetTable.leap t.mask i q).1, perturb := (SetTable.leap t.mask i q).2, dummy := d }

theorem run_none (hd : t.dummies = #[]) (hh : ∀ i, (ha i == h) = false) : ∀ (m fuel : Nat) (p : SetTable.Probe), p.more = m → m + 1 ≤ fuel → SetTable.probe.go t ha h fuel p = none →
    t.slot p.j ≠ .empty ∧ ∃ f', fuel ≤ f' + (m + 1) ∧ SetTable.probe.go t ha h f' (nextP t p.i p.perturb p.dummy) = none
  | m, 0, p, hm, hf, e => by (first | lia | omega)
  | m, fuel + 1, p, hm, hf, e => by
    unfold SetTable.probe.go at e
    split at e
    · cases e
    · rename_i hs; exact absurd hs (slot_empty hd)
    · rename_i i hs
      rw [hh i] at e
      simp only [Bool.false_eq_true, if_false] at e
      refine ⟨(by rw [hs]; intro z; cases z), ?_⟩
      cases m with
      | zero =>
        refine ⟨fuel, by (first | lia | omega), ?_⟩
        have : t.advance p = nextP t p.i p.perturb p.dummy := by
          unfold SetTable.advance nextP
          rw [if_neg (by (first | lia | omega))]
        rw [← this]; exact e
      | succ m =>
        have ea : t.advance p = { p with j := p.j + 1, more := p.more - 1 } := by
          unfold SetTable.advance
          rw [if_pos (by (first | lia | omega))]
        rw [ea] at e
        obtain ⟨_, f', h1, h2⟩ := run_none hd hh m fuel _ (by show p.more - 1 = m; (first | lia | omega)) (by (first | lia | omega)) e
        exact ⟨f', by (first | lia | omega), h2⟩
theorem runEnd_le (m i : Nat) : SetTable.runEnd m i - i ≤ 9 := by unfold SetTable.runEnd; split <;> (first | lia | omega)
theorem go_none (hd : t.dummies = #[]) (hh : ∀ i, (ha i == h) = false) : ∀ (n fuel : Nat) (p : SetTable.Probe), p.j = p.i → p.more ≤ 9 → 10 * (n + 1) ≤ fuel → SetTable.probe.go t ha h fuel p = none → ∀ k, k ≤ n → t.slot (it (lp t.mask) k (p.i, p.perturb)).1 ≠ .empty
  | 0, fuel, p, hj, hm, hf, e, k, hk => by
    have : k = 0 := by (first | lia | omega)
    subst this
    have := (run_none hd hh p.more fuel p rfl (by (first | lia | omega)) e).1
    rw [hj] at this; exact this
  | n + 1, fuel, p, hj, hm, hf, e, k, hk => by
    obtain ⟨h1, f', h2, h3⟩ := run_none hd hh p.more fuel p rfl (by (first | lia | omega)) e
    cases k with
    | zero => rw [hj] at h1; exact h1
    | succ k => exact go_none hd hh n f' (nextP t p.i p.perturb p.dummy) rfl (runEnd_le _ _) (by (first | lia | omega)) h3 k (by (first | lia | omega))

theorem bits_lt (h : Int) : SetTable.bits h < 2 ^ 64 := by
  unfold SetTable.bits
  have h1 := Int.emod_nonneg h (show (2 ^ 64 : Int) ≠ 0 by decide)
  have h2 := Int.emod_lt_of_pos h (show (0 : Int) < 2 ^ 64 by decide)
  (first | lia | omega)
theorem live_below {j : Nat} (hs : t.slot j ≠ .empty) (hd : t.dummies = #[]) : t.place[SetTable.below t.place j]? = some j := by
  unfold SetTable.slot at hs
  dsimp only at hs
  split at hs
  · rename_i e; exact beq_iff_eq.mp e
  · rw [hd] at hs
    have : SetTable.has #[] j = false := by unfold SetTable.has; simp
    rw [this] at hs
    simp at hs
theorem freeSlot_some (hd : t.dummies = #[]) (hr : Rise t.place) (C : Cov t.mask) (hs : t.place.size ≤ t.mask) : ∃ x, t.freeSlot h = some x := by
  cases e : t.freeSlot h with
  | some x => exact ⟨x, rfl⟩
  | none =>
    exfalso
    have full : ∀ j, j ≤ t.mask → t.place[SetTable.below t.place j]? = some j := by
      intro j hj
      have en : SetTable.probe.go t (fun _ => h + 1) h (10 * SetTable.turns t.mask) (t.probeStart h) = none := by
        unfold SetTable.freeSlot SetTable.probe at e
        split at e
        · cases e
        · rename_i hne
          cases q : SetTable.probe.go t (fun _ => h + 1) h (10 * SetTable.turns t.mask) (t.probeStart h) with
          | none => rfl
          | some met =>
            exfalso
            cases met with
            | empty j d => exact hne j d q
            | candidate j i nx =>
              have never : ∀ fuel p, SetTable.probe.go t (fun _ => h + 1) h fuel p ≠ some (.candidate j i nx) := by
                intro fuel
                induction fuel with
                | zero => intro p z; unfold SetTable.probe.go at z; cases z
                | succ f ih =>
                  intro p z
                  unfold SetTable.probe.go at z
                  split at z
                  · cases z
                  · exact ih _ z
                  · rw [show ((h + 1 == h) = false) by rw [beq_eq_false_iff_ne]; (first | lia | omega)] at z
                    simp only [Bool.false_eq_true, if_false] at z
                    exact ih _ z
              exact never _ _ q
      have i0 : SetTable.bits h % (t.mask + 1) ≤ t.mask := Nat.le_of_lt_succ (Nat.mod_lt _ (Nat.succ_pos _))
      obtain ⟨k, hk, ek⟩ := lp_cov C i0 (bits_lt h) hj
      have := go_none hd (fun i => by rw [beq_eq_false_iff_ne]; (first | lia | omega)) (t.mask + 14) _ (t.probeStart h) rfl (runEnd_le _ _) (by unfold SetTable.turns; (first | lia | omega)) en k (by (first | lia | omega))
      have e2 : (it (lp t.mask) k ((t.probeStart h).i, (t.probeStart h).perturb)).1 = j := ek
      rw [e2] at this
      exact live_below this hd
    -- a place for each slot: too many
    have mono : ∀ j, j ≤ t.mask → j ≤ SetTable.below t.place j := by
      intro j
      induction j with
      | zero => intro _; exact Nat.zero_le _
      | succ j ih =>
        intro hj
        have h1 := ih (by (first | lia | omega))
        have b1 := full j (by (first | lia | omega))
        have b2 := full (j + 1) hj
        have l1 := (Array.getElem?_eq_some_iff.mp b1).1
        have l2 := (Array.getElem?_eq_some_iff.mp b2).1
        have g1 : t.place.getD (SetTable.below t.place j) 0 = j := by rw [Array.getD_eq_getD_getElem?, b1]; rfl
        have g2 : t.place.getD (SetTable.below t.place (j + 1)) 0 = j + 1 := by rw [Array.getD_eq_getD_getElem?, b2]; rfl
        rcases Nat.lt_or_ge (SetTable.below t.place j) (SetTable.below t.place (j + 1)) with q | q
        · (first | lia | omega)
        · exfalso
          rcases Nat.lt_or_eq_of_le q with q | q
          · have := hr _ _ q l1
            rw [g1, g2] at this; (first | lia | omega)
          · rw [q, g1] at g2; (first | lia | omega)
    have := mono t.mask (Nat.le_refl _)
    have l := (Array.getElem?_eq_some_iff.mp (full t.mask (Nat.le_refl _))).1
    (first | lia | omega)
end

/-! laying a table anew -/
noncomputable def ownL (m : Nat) (owner : Array (Option Nat)) : List Nat := (List.range (m + 1)).filterMap fun j => owner.getD j none
theorem filterMap_set {g g' : Nat → Option Nat} {j c : Nat} (h0 : g j = none) (h1 : g' j = some c) : ∀ (l : List Nat), l.Nodup → (∀ x ∈ l, x ≠ j → g' x = g x) → (j ∈ l → (l.filterMap g').Perm (c :: l.filterMap g)) ∧ (j ∉ l → l.filterMap g' = l.filterMap g)
  | [], _, _ => ⟨fun h => absurd h List.not_mem_nil, fun _ => rfl⟩
  | x :: r, hn, hg => by
    simp only [List.nodup_cons] at hn
    obtain ⟨i1, i2⟩ := filterMap_set h0 h1 r hn.2 fun y hy => hg y (List.mem_cons_of_mem _ hy)
    refine ⟨fun hj => ?_, fun hj => ?_⟩
    · by_cases hx : x = j
      · subst hx
        rw [List.filterMap_cons_some h1, List.filterMap_cons_none h0, i2 hn.1]
      · have hjr : j ∈ r := by
          rcases List.mem_cons.mp hj with e | e
          · exact absurd e.symm hx
          · exact e
        have e := hg x List.mem_cons_self hx
        cases q : g x with
        | none => rw [List.filterMap_cons_none (e.trans q), List.filterMap_cons_none q]; exact i1 hjr
        | some y =>
          rw [List.filterMap_cons_some (e.trans q), List.filterMap_cons_some q]
          exact ((i1 hjr).cons y).trans (List.Perm.swap ..)
    · have hxj : x ≠ j := fun z => hj (z ▸ List.mem_cons_self)
      have hjr : j ∉ r := fun z => hj (List.mem_cons_of_mem _ z)
      have e := hg x List.mem_cons_self hxj
      cases q : g x with
      | none => rw [List.filterMap_cons_none (e.trans q), List.filterMap_cons_none q]; exact i2 hjr
      | some y => rw [List.filterMap_cons_some (e.trans q), List.filterMap_cons_some q, i2 hjr]

theorem free_none {m : Nat} {owner : Array (Option Nat)} : ∀ (n fuel i q : Nat), n + 1 ≤ fuel → SetTable.layClean.free m owner fuel i q = none → ∀ k, k ≤ n → (owner.getD (it (lp m) k (i, q)).1 (some 0)).isNone = false
  | n, 0, i, q, hf, e, k, hk => by (first | lia | omega)
  | n, fuel + 1, i, q, hf, e, k, hk => by
    unfold SetTable.layClean.free at e
    split at e
    · cases e
    · rename_i hfd
      cases k with
      | zero =>
        have hz : 0 ∈ List.range (SetTable.runEnd m i + 1 - i) := by
          rw [List.mem_range]
          unfold SetTable.runEnd
          split <;> (first | lia | omega)
        have := List.find?_eq_none.mp hfd 0 hz
        have h2 : ¬ (owner.getD i (some 0)).isNone = true := this
        show (owner.getD i (some 0)).isNone = false
        exact Bool.eq_false_iff.mpr h2
      | succ k =>
        cases n with
        | zero => (first | lia | omega)
        | succ n => exact free_none n fuel (SetTable.leap m i q).1 (SetTable.leap m i q).2 (by (first | lia | omega)) e k (by (first | lia | omega))
theorem free_some {m : Nat} {owner : Array (Option Nat)} : ∀ (fuel i q j : Nat), SetTable.layClean.free m owner fuel i q = some j → (owner.getD j (some 0)).isNone = true
  | 0, _, _, _, e => by unfold SetTable.layClean.free at e; cases e
  | fuel + 1, i, q, j, e => by
    unfold SetTable.layClean.free at e
    split at e
    · rename_i k hk
      cases e
      exact List.find?_some (p := fun k => (owner.getD (i + k) (some 0)).isNone) hk
    · exact free_some fuel _ _ j e

structure OwnOk (m : Nat) (owner : Array (Option Nat)) (k : Nat) : Prop where
  size : owner.size = m + 1
  perm : (ownL m owner).Perm (List.range k)
theorem lay_step {m : Nat} (C : Cov m) {owner : Array (Option Nat)} {k : Nat} (O : OwnOk m owner k) (hk : k ≤ m) (h : Int) :
    ∃ j, SetTable.layClean.free m owner (SetTable.turns m) (SetTable.bits h % (m + 1)) (SetTable.bits h) = some j ∧ OwnOk m (owner.setIfInBounds j (some k)) (k + 1) := by
  cases e : SetTable.layClean.free m owner (SetTable.turns m) (SetTable.bits h % (m + 1)) (SetTable.bits h) with
  | none =>
    exfalso
    have all : ∀ j, j ≤ m → (owner.getD j none).isSome = true := fun j hj => by
      obtain ⟨k, hk, ek⟩ := lp_cov C (Nat.le_of_lt_succ (Nat.mod_lt (SetTable.bits h) (Nat.succ_pos m))) (bits_lt h) hj
      have := free_none (m + 14) _ _ _ (by unfold SetTable.turns; (first | lia | omega)) e k (by (first | lia | omega))
      rw [ek] at this
      have hb : j < owner.size := by rw [O.size]; (first | lia | omega)
      simp only [Array.getD, hb, dif_pos] at this ⊢
      simpa using this
    have : (ownL m owner).length = m + 1 := by
      unfold ownL
      have : ∀ l : List Nat, (∀ x ∈ l, x ≤ m) → (l.filterMap fun j => owner.getD j none).length = l.length := by
        intro l
        induction l with
        | nil => intro _; rfl
        | cons x r ih =>
          intro hx
          obtain ⟨y, hy⟩ := Option.isSome_iff_exists.mp (all x (hx x List.mem_cons_self))
          rw [List.filterMap_cons_some (f := fun j => owner.getD j none) hy, List.length_cons, List.length_cons, ih fun z hz => hx z (List.mem_cons_of_mem _ hz)]
      rw [this _ fun x hx => Nat.le_of_lt_succ (List.mem_range.mp hx), List.length_range]
    rw [O.perm.length_eq, List.length_range] at this
    (first | lia | omega)
  | some j =>
    have hj := free_some _ _ _ _ e
    have hb : j < owner.size := by
      rcases Nat.lt_or_ge j owner.size with q | q
      · exact q
      · simp [Array.getD, Nat.not_lt.mpr q] at hj
    refine ⟨j, rfl, by simp [O.size], ?_⟩
    have g0 : owner.getD j none = none := by
      simp only [Array.getD, hb, dif_pos] at hj ⊢
      simpa using hj
    have g1 : (owner.setIfInBounds j (some k)).getD j none = some k := by simp [Array.getD, hb]
    have P := (filterMap_set (g := fun j => owner.getD j none) (g' := fun x => (owner.setIfInBounds j (some k)).getD x none) g0 g1 (List.range (m + 1)) List.nodup_range (fun x _ hx => by
      simp only [Array.getD_eq_getD_getElem?]
      rw [Array.getElem?_setIfInBounds_ne (Ne.symm hx)])).1 (List.mem_range.mpr (by rw [← O.size]; exact hb))
    refine P.trans ((O.perm.cons k).trans ?_)
    rw [List.range_succ]
    exact (List.perm_append_comm (l₁ := [k])).symm.symm

theorem own_fresh (m : Nat) : OwnOk m (Array.replicate (m + 1) none) 0 where
  size := by simp
  perm := by
    have : ownL m (Array.replicate (m + 1) none) = [] := by
      unfold ownL
      refine List.filterMap_eq_nil_iff.mpr fun j _ => ?_
      simp only [Array.getD_eq_getD_getElem?, Array.getElem?_replicate]
      split <;> rfl
    rw [this]; exact List.Perm.refl _
noncomputable def layF (m : Nat) (acc : Option (Array (Option Nat) × Nat)) (h : Int) : Option (Array (Option Nat) × Nat) := do
  let (owner, k) ← acc
  let j ← SetTable.layClean.free m owner (SetTable.turns m) (SetTable.bits h % (m + 1)) (SetTable.bits h)
  pure (owner.setIfInBounds j (some k), k + 1)
theorem lay_fold {m : Nat} (C : Cov m) : ∀ (hs : List Int) (owner : Array (Option Nat)) (k : Nat), OwnOk m owner k → k + hs.length ≤ m + 1 →
    ∃ owner', hs.foldl (layF m) (some (owner, k)) = some (owner', k + hs.length) ∧ OwnOk m owner' (k + hs.length)
  | [], owner, k, O, _ => ⟨owner, rfl, O⟩
  | h :: r, owner, k, O, hl => by
    rw [List.length_cons] at hl
    obtain ⟨j, e, O'⟩ := lay_step C O (by (first | lia | omega)) h
    obtain ⟨w, e', O''⟩ := lay_fold C r _ _ O' (by (first | lia | omega))
    refine ⟨w, ?_, ?_⟩
    · rw [List.foldl_cons, List.length_cons, show layF m (some (owner, k)) h = some (owner.setIfInBounds j (some k), k + 1) by simp [layF, e], e']
      congr 2; (first | lia | omega)
    · rw [List.length_cons, show k + (r.length + 1) = k + 1 + r.length by (first | lia | omega)]; exact O''
theorem layClean_ok {m : Nat} (C : Cov m) (hs : Array Int) (hl : hs.size ≤ m + 1) : ∃ owner, SetTable.layClean m hs = some owner ∧ OwnOk m owner hs.size := by
  obtain ⟨owner, e, O⟩ := lay_fold C hs.toList _ 0 (own_fresh m) (by rw [Array.length_toList]; (first | lia | omega))
  rw [Nat.zero_add, Array.length_toList] at e O
  refine ⟨owner, ?_, O⟩
  unfold SetTable.layClean
  rw [← Array.foldl_toList]
  show (hs.toList.foldl (layF m) (some (Array.replicate (m + 1) none, 0))).map (·.1) = _
  rw [e]; rfl

theorem filterMap_len {α β : Type} {f : α → Option β} : ∀ l : List α, (∀ x ∈ l, (f x).isSome = true) → (l.filterMap f).length = l.length
  | [], _ => rfl
  | x :: r, h => by
    obtain ⟨y, hy⟩ := Option.isSome_iff_exists.mp (h x List.mem_cons_self)
    rw [List.filterMap_cons_some hy, List.length_cons, List.length_cons, filterMap_len r fun z hz => h z (List.mem_cons_of_mem _ hz)]
theorem relay_ok {t : SetTable} {es : Array (Int × Value)} {wanted m : Nat} (hm : SetTable.sizeAbove wanted - 1 = m) (C : Cov m) (hl : es.size ≤ m) :
    (relayAll t es wanted).2.1.plain = t.plain ∧ (relayAll t es wanted).2.1.mask = m := by
  obtain ⟨owner, e, O⟩ := layClean_ok C (es.map (·.1)) (by rw [Array.size_map]; (first | lia | omega))
  rw [Array.size_map] at O
  have hmap : ∀ l : List Nat, (l.filterMap fun j => (owner.getD j none).map (j, ·)).map (·.2) = l.filterMap fun j => owner.getD j none := by
    intro l
    rw [List.map_filterMap]
    congr 1
    funext j
    cases owner.getD j none <;> rfl
  have hord : ((List.range (m + 1)).filterMap fun j => (owner.getD j none).map (j, ·)).map (·.2) = ownL m owner := hmap _
  have er : t.relaid (es.map (·.1)) wanted = some ({ mask := m, place := (((List.range (m + 1)).filterMap fun j => (owner.getD j none).map (j, ·)).map (·.1)).toArray, dummies := #[], finger := t.finger, led := t.led, moves := t.movedTo m, plain := t.plain },
      (((List.range (m + 1)).filterMap fun j => (owner.getD j none).map (j, ·)).map (·.2)).toArray) := by
    unfold SetTable.relaid SetTable.laid
    rw [hm, e]; rfl
  have hcov : coversAll (((List.range (m + 1)).filterMap fun j => (owner.getD j none).map (j, ·)).map (·.2)).toArray es.size = true := by
    unfold coversAll
    rw [hord]
    exact List.isPerm_iff.mpr O.perm
  have hlen : (((List.range (m + 1)).filterMap fun j => (owner.getD j none).map (j, ·)).map (·.1)).length = es.size := by
    rw [List.length_map, ← List.length_map (f := (·.2)), hord, O.perm.length_eq, List.length_range]
  have hes : ((((List.range (m + 1)).filterMap fun j => (owner.getD j none).map (j, ·)).map (·.2)).toArray.filterMap (es[·]?)).size = es.size := by
    rw [← Array.length_toList, Array.toList_filterMap, filterMap_len]
    · show (List.map _ _).length = _
      rw [hord, O.perm.length_eq, List.length_range]
    · intro x hx
      have hx : x ∈ ownL m owner := by rw [← hord]; exact hx
      have := List.mem_range.mp (O.perm.mem_iff.mp hx)
      simp [this]
  have hfit : SetTable.fits { mask := m, place := (((List.range (m + 1)).filterMap fun j => (owner.getD j none).map (j, ·)).map (·.1)).toArray, dummies := #[], finger := t.finger, led := t.led, moves := t.movedTo m, plain := t.plain } es.size = true := by
    unfold SetTable.fits SetTable.fill
    rw [show ((((List.range (m + 1)).filterMap fun j => (owner.getD j none).map (j, ·)).map (·.1)).toArray).size = es.size from hlen]
    show ((es.size == es.size) && decide (es.size + 0 ≤ m)) = true
    simp; (first | lia | omega)
  unfold relayAll
  rw [er]
  dsimp only
  rw [hcov, hes, hfit, if_pos (by rfl)]
  exact ⟨rfl, rfl⟩

/-- a table that has not given way -/
noncomputable def Snug (t : SetTable) (n : Nat) : Prop := t.plain = true ∧ (t.mask = 7 ∧ n < 5 ∨ t.mask = 31 ∧ n < 19 ∨ t.mask = 127 ∧ n < 77)
theorem snug_fresh (b : Bool) : Snug (.fresh 0 0 b) 0 := ⟨rfl, .inl ⟨rfl, by decide⟩⟩
theorem snug_cov {t : SetTable} {n : Nat} (x : Snug t n) : Cov t.mask ∧ n + 1 ≤ t.mask := by
  rcases x.2 with ⟨e, h⟩ | ⟨e, h⟩ | ⟨e, h⟩ <;> rw [e] <;> refine ⟨?_, by (first | lia | omega)⟩
  · exact cov7
  · exact cov31
  · exact cov127
theorem layNew_ok {bt : Bool} {t : SetTable} {es : Array (Int × Value)} (L : LRT bt t) (N : Snug t es.size) (hf : t.fits es.size = true) (h : Int) (x : Value) :
    (layNew t es h x).2.1.plain = true ∧ (layNew t es h x).2.1.mask = t.mask ∧ (layNew t es h x).2.1.place.size = es.size + 1 ∧ (layNew t es h x).1.size = es.size + 1 ∧ (layNew t es h x).2.2.1 = false := by
  obtain ⟨C, hn⟩ := snug_cov N
  have hps : t.place.size = es.size := by
    unfold SetTable.fits at hf
    rw [Bool.and_eq_true] at hf
    exact beq_iff_eq.mp hf.1
  obtain ⟨⟨slot, d⟩, e⟩ := freeSlot_some (h := h) L.dum L.rise C (by (first | lia | omega))
  obtain ⟨_, rfl⟩ := freeSlot_of L.dum e
  obtain ⟨b1, _, _⟩ := below_spec L.rise slot
  have hput : (t.put slot).1.place.size = es.size + 1 := by
    unfold SetTable.put
    dsimp only
    rw [insertAt_size _ _ _ b1, hps]
  have hput2 : (t.put slot).2 = SetTable.below t.place slot := rfl
  have hd : (t.put slot).1.dummies = #[] := by
    unfold SetTable.put
    dsimp only
    rw [L.dum]
    have : SetTable.has #[] slot = false := by unfold SetTable.has; simp
    rw [this]; rfl
  have hes : (SetTable.insertAt es (t.put slot).2 (h, x)).size = es.size + 1 := by
    rw [hput2]; exact insertAt_size _ _ _ (by (first | lia | omega))
  have hfit : (t.put slot).1.fits (es.size + 1) = true := by
    unfold SetTable.fits SetTable.fill
    rw [hput, hd]
    show ((es.size + 1 == es.size + 1) && decide (es.size + 1 + 0 ≤ t.mask)) = true
    simp; (first | lia | omega)
  unfold layNew
  rw [e]
  dsimp only
  rw [hes, SetTable.orStandIn, if_pos hfit]
  exact ⟨N.1, rfl, hput, rfl, rfl⟩
theorem snug_next {t : SetTable} {n : Nat} (N : Snug t n) {t' : SetTable} (e1 : t'.plain = true) (e2 : t'.mask = t.mask) (e3 : t'.place.size = n + 1) (ed : t'.dummies = #[]) (hs : t'.tooFull = false) : Snug t' (n + 1) := by
  unfold SetTable.tooFull SetTable.fill at hs
  rw [e3, ed, e2] at hs
  have hs := of_decide_eq_false hs
  refine ⟨e1, ?_⟩
  have : (#[] : Array Nat).size = 0 := rfl
  rcases N.2 with ⟨e, h⟩ | ⟨e, h⟩ | ⟨e, h⟩ <;> rw [e] at hs e2
  · exact .inl ⟨e2, by (first | lia | omega)⟩
  · exact .inr (.inl ⟨e2, by (first | lia | omega)⟩)
  · exact .inr (.inr ⟨e2, by (first | lia | omega)⟩)
theorem snug_relay {t : SetTable} {n : Nat} (N : Snug t n) (hn : n + 1 < 77) {t' : SetTable} {es : Array (Int × Value)} (hes : es.size = n + 1) (e1 : t'.plain = true) (e2 : t'.mask = t.mask) (e3 : t'.place.size = n + 1) (ed : t'.dummies = #[]) (hs : t'.tooFull = true) :
    Snug (relayAll t' es (SetTable.grown es.size)).2.1 (n + 1) := by
  unfold SetTable.tooFull SetTable.fill at hs
  rw [e3, ed, e2] at hs
  have hs := of_decide_eq_true hs
  have z : (#[] : Array Nat).size = 0 := rfl
  rcases N.2 with ⟨e, h⟩ | ⟨e, h⟩ | ⟨e, h⟩ <;> rw [e] at hs
  · have : n + 1 = 5 := by (first | lia | omega)
    rw [hes, this]
    obtain ⟨a, b⟩ := relay_ok (t := t') (es := es) (wanted := SetTable.grown 5) (m := 31) (by decide +kernel) cov31 (by (first | lia | omega))
    exact ⟨a.trans e1, .inr (.inl ⟨b, by decide⟩)⟩
  · have : n + 1 = 19 := by (first | lia | omega)
    rw [hes, this]
    obtain ⟨a, b⟩ := relay_ok (t := t') (es := es) (wanted := SetTable.grown 19) (m := 127) (by decide +kernel) cov127 (by (first | lia | omega))
    exact ⟨a.trans e1, .inr (.inr ⟨b, by decide⟩)⟩
  · (first | lia | omega)
end Mine
namespace Mine
open PySem PySem.W PySem.Calls PyProof.Rows

section
variable {prog : Program} {w : World} {A : Around} {E : Value → Shared → Prop} {s : Shared}

/-- a set of ints, its table in order -/
noncomputable def SetS (prog : Program) (w : World) (h : Heap) (a : Addr) (S : Int → Bool) (n : Nat) : Prop :=
  ∃ o es ep t, h.get? a = some o ∧ o.ExactSet ∧ o.data = .set es ep t ∧ ElemsOf (PySem.intKind prog w) es.toList ∧ (∀ k, S k = true ↔ ∃ e ∈ es.toList, (PySem.intKind prog w).is k e.2 = true) ∧
    es.size < scanBound ∧ t.fits es.size = true ∧ es.size = n ∧ LRT (w.params.followText "set-order") t ∧ Snug t n

theorem SetS.keeps {h h' : Heap} {a : Addr} {S : Int → Bool} {n : Nat} (x : SetS prog w h a S n) (k : ∀ o, h.get? a = some o → h'.get? a = some o) : SetS prog w h' a S n := by
  obtain ⟨o, es, ep, t, ho, r⟩ := x
  exact ⟨o, es, ep, t, k o ho, r⟩
theorem SetS.congr {h : Heap} {a : Addr} {S S' : Int → Bool} {n n' : Nat} (x : SetS prog w h a S n) (e : ∀ k, S k = S' k) (en : n = n') : SetS prog w h a S' n' := by
  have : S = S' := funext e
  subst this; subst en; exact x

theorem setS_store {h : Heap} {a : Addr} {o : Obj} {es : Array (Int × Value)} {ep : Nat} {t : SetTable} (ho : h.get? a = some o) (hex : o.ExactSet) (hd : o.data = .set es ep t) {es' : Array (Int × Value)} {t' : SetTable} {S' : Int → Bool}
    (hel : ElemsOf (PySem.intKind prog w) es'.toList) (hmem : ∀ k, S' k = true ↔ ∃ e ∈ es'.toList, (PySem.intKind prog w).is k e.2 = true) (hb : es'.size < scanBound) (hf : t'.fits es'.size = true) (hL : LRT (w.params.followText "set-order") t') (hN : Snug t' es'.size) :
    (h.update a (Obj.putSet es' t')).get? a = some { o with data := .set es' (ep + 1) t' } ∧ SetS prog w (h.update a (Obj.putSet es' t')) a S' es'.size := by
  have hg := (SetOf_store (knd := PySem.intKind prog w) ho hex hd hel hmem hb hf).1
  exact ⟨hg, _, es', ep + 1, t', hg, hex, rfl, hel, hmem, hb, hf, rfl, hL, hN⟩

theorem set_add {a : Addr} {S : Int → Bool} {n : Nat} {k : Int} {tx : Tok} {Q : Bool → Shared → Prop} (hS : SetS prog w s.heap a S n) (hroom7 : n + 1 < 77)
    (h : ∀ h' b, Heap.SameBut a s.heap h' → SetS prog w h' a (fun k' => S k' || decide (k' = k)) (if S k then n else n + 1) → Q b { s with heap := h' }) :
    wpAny (model prog w) A (setAddHashed a (.int k tx) ((PySem.intKind prog w).hash k)) Q E s := by
  obtain ⟨o, es, ep, t, ho, hex, hd, hel, hmem, hb, hf, hn, hL, hN⟩ := hS
  have hroom : n + 1 < scanBound := by unfold scanBound; (first | lia | omega)
  have hkey : (PySem.intKind prog w).is k (.int k tx) = true := int_is _ _
  have hsc : (Value.int k tx).scannable = true := rfl
  have hb1 : es.size + 1 < scanBound := by rw [hn]; exact hroom
  unfold setAddHashed setAddHashedIn
  refine wpAny_holding (wpAny_bind (wpAny_setState_of ho hd hf ?_))
  dsimp only
  rw [byScan_of hsc hb hel]
  simp only [↓reduceIte]
  unfold setAddByScan
  refine wpAny_bind (wpAny_bind (wpAny_rule (wpAny_bind (wpAny_setScan_of hkey ho hd hf hel ?_))))
  have tell : ∀ (b : Bool) {s₁ : Shared} {Q' : Unit → Shared → Prop}, Q' () s₁ → wpAny (model prog w) A (match b with | true => rule "set.scan.the-table-gave-way" | false => pure ()) Q' E s₁ :=
    fun b s₁ Q' hq => by cases b <;> first | exact wpAny_pure hq | exact wpAny_rule hq
  cases hr : List.findIdx? (fun e => (PySem.intKind prog w).is k e.2) es.toList with
  | some j =>
    obtain ⟨hj, hpj, _⟩ := List.findIdx?_eq_some_iff_getElem.mp hr
    have hSk : S k = true := (hmem k).mpr ⟨es.toList[j], List.getElem_mem hj, hpj⟩
    refine wpAny_pure (wpAny_pure ?_)
    have q := h s.heap false (Heap.SameBut.refl a s.heap)
    rw [hSk] at q
    refine q ⟨o, es, ep, t, ho, hex, hd, hel, fun k' => ?_, hb, hf, hn, hL, hN⟩
    rw [Bool.or_eq_true, decide_eq_true_eq, ← hmem k']
    exact ⟨fun hk => hk.elim id (fun e => e ▸ hSk), .inl⟩
  | none =>
    have hSk : S k = false := by
      cases hk : S k with
      | false => rfl
      | true => obtain ⟨e, he, hp⟩ := (hmem k).mp hk; have := List.findIdx?_eq_none_iff.mp hr e he; rw [hp] at this; cases this
    have hperm := layNew_perm t es ((PySem.intKind prog w).hash k) (.int k tx)
    have hfits := layNew_fits t es ((PySem.intKind prog w).hash k) (.int k tx)
    have hL1 := lrt_layNew hL es ((PySem.intKind prog w).hash k) (.int k tx)
    have hok := layNew_ok hL (hn ▸ hN) hf ((PySem.intKind prog w).hash k) (.int k tx)
    generalize hLn : layNew t es ((PySem.intKind prog w).hash k) (.int k tx) = L at hperm hfits hL1 hok ⊢
    obtain ⟨es1, t1, wasDummy, gave⟩ := L
    dsimp only at hperm hfits hL1 hok ⊢
    rw [hn] at hok
    obtain ⟨k1, k2, k3, k4, k5⟩ := hok
    rw [Array.toList_push] at hperm
    have hel1 := (hel.push hkey hsc).perm hperm
    have hmem1 := mem_push_iff hkey hmem hperm
    have hsz1 : es1.size = n + 1 := by rw [← Array.length_toList, hperm.length_eq, List.length_append, Array.length_toList, hn]; rfl
    have hb1' : es1.size < scanBound := by rw [hsz1]; exact hroom
    refine wpAny_bind (tell _ ?_)
    have fin : ∀ h', Heap.SameBut a s.heap h' → SetS prog w h' a (fun k' => S k' || decide (k' = k)) es1.size → Q true { s with heap := h' } := fun h' hsb hS' => by
      have q := h h' true hsb
      rw [hSk] at q
      rw [hsz1] at hS'
      exact q hS'
    have tail : wpAny (model prog w) A (do
        storeSet a es1 t1
        if (!wasDummy && t1.tooFull) = true then do
            (match (relayAll t1 es1 (SetTable.grown es1.size)).2.2 with | true => rule "set.scan.the-table-gave-way" | false => pure ())
            storeSet a (relayAll t1 es1 (SetTable.grown es1.size)).1 (relayAll t1 es1 (SetTable.grown es1.size)).2.1
            pure (some true)
          else pure (some true)) (fun r s' => r = some true ∧ Q true s') E s := by
      refine wpAny_bind (wpAny_storeSet_of ho hd ?_ (fits_of_scanBound hb1'))
      have hg1 := (SetOf_store (knd := PySem.intKind prog w) ho hex hd hel1 hmem1 hb1' hfits).1
      have hsb1 := Heap.SameBut.update s.heap a (Obj.putSet es1 t1)
      subst k5
      cases htf : t1.tooFull with
      | true =>
        simp only [Bool.not_false, Bool.and_true, if_true]
        have hp := relayAll_perm t1 es1 (SetTable.grown es1.size)
        have hfr := relayAll_fits t1 es1 (SetTable.grown es1.size)
        have hL3 := lrt_relayAll hL1 es1 (SetTable.grown es1.size)
        have hN3 := snug_relay hN hroom7 hsz1 k1 k2 k3 hL1.dum htf
        generalize relayAll t1 es1 (SetTable.grown es1.size) = Rl at hp hfr hL3 hN3 ⊢
        obtain ⟨es2, t3, gave2⟩ := Rl
        dsimp only at hp hfr hL3 hN3 ⊢
        have hel2 := hel1.perm hp
        have hmem2 : ∀ k', (S k' || decide (k' = k)) = true ↔ ∃ e ∈ es2.toList, (PySem.intKind prog w).is k' e.2 = true := fun k' => (hmem1 k').trans ⟨fun ⟨e, he, q⟩ => ⟨e, hp.mem_iff.mpr he, q⟩, fun ⟨e, he, q⟩ => ⟨e, hp.mem_iff.mp he, q⟩⟩
        have hsz : es2.size = es1.size := by rw [← Array.length_toList, hp.length_eq, Array.length_toList]
        have hb2 : es2.size < scanBound := by rw [hsz]; exact hb1'
        refine wpAny_bind (tell _ ?_)
        refine wpAny_bind (wpAny_storeSet_of hg1 rfl ?_ (fits_of_scanBound hb2))
        obtain ⟨_, hS2⟩ := setS_store hg1 hex rfl hel2 hmem2 hb2 hfr hL3 (by rw [hsz, hsz1]; exact hN3)
        rw [hsz] at hS2
        exact wpAny_pure ⟨rfl, fin _ (hsb1.trans (Heap.SameBut.update _ a _)) hS2⟩
      | false =>
        simp only [Bool.not_false, Bool.and_false, Bool.false_eq_true, if_false]
        have hN1 := snug_next hN k1 k2 k3 hL1.dum htf
        obtain ⟨_, hS1⟩ := setS_store ho hex hd hel1 hmem1 hb1' hfits hL1 (by rw [hsz1]; exact hN1)
        exact wpAny_pure ⟨rfl, fin _ hsb1 hS1⟩
    rw [if_pos k1]
    refine wpAny_bind (m := (pure true : Sem Bool)) (wpAny_pure ?_)
    simp only [↓reduceIte]
    refine wpAny_mono tail (fun r s' z => ?_) fun _ _ e => e
    obtain ⟨rfl, z⟩ := z
    exact wpAny_pure z
end
end Mine
namespace Mine
open PySem PySem.W PySem.Calls PyProof.Rows PySem.Spec

section
variable {prog : Program} {w : World} {A : Around} {R : Result → Shared → Prop} {I : Addr} {fp wr : List Addr} {GG : Array GenState → Array GenState → Prop} {n : Nat} {P : Nat → Value → Prop} {St : Nat → Shared → Prop}

/-- what is in the set after i of the items -/
noncomputable def metS (val : Nat → Int) (i : Nat) : Int → Bool := fun k => (firstMet val i).any (· == k)

theorem set_loop (W : WalksS prog w A.in1 I fp wr GG n P St) (D : Addr) (hD : D ∉ fp) (val : Nat → Int) (hval : ∀ i v, P i v → ∃ t, v = .int (val i) t) (hb : n < 76) :
    ∀ (k i : Nat) (s : Shared), i + k = n → St i s → SetS prog w s.heap D (metS val i) (firstMet val i).length →
      (∀ s', Moved (D :: wr) GG s s' → SetS prog w s'.heap D (metS val n) (firstMet val n).length → R (.ok (.ret .none)) s') →
      codeAny (model prog w) A (.builtin "set.update.loop" ⟨[.ref D, .ref I], []⟩) R s
  | 0, i, s, hk, hst, hS, hR => by
    have hin : i = n := hk
    subst hin
    refine codeAny_builtin PyProof.Rows.F.entry_set_update_loop ?_
    rw [Around.under_plainId PyProof.Rows.F.plain_set_update_loop _]
    show wpAny _ A.in1 (pyNext (.ref I) >>= _) _ _ s
    refine wpAny_bind (W.done s _ _ hst fun s' hm => ?_)
    show wpAny _ A.in1 (ret Value.none) _ _ s'
    exact wpAny_pure (hR s' (hm.mono fun b hb => List.mem_cons_of_mem _ hb) (hS.keeps fun o e => hm.heap D o (fun h => hD (W.sub _ h)) e))
  | k + 1, i, s, hk, hst, hS, hR => by
    refine codeAny_builtin PyProof.Rows.F.entry_set_update_loop ?_
    rw [Around.under_plainId PyProof.Rows.F.plain_set_update_loop _]
    show wpAny _ A.in1 (pyNext (.ref I) >>= _) _ _ s
    refine wpAny_bind (W.item i s _ _ (by (first | lia | omega)) hst fun v s' hP hst' hm => ?_)
    obtain ⟨t, rfl⟩ := hval i v hP
    show wpAny _ A.in1 (holding [Value.int (val i) t] (setAdd D (.int (val i) t)) >>= _) _ _ s'
    refine wpAny_bind (wpAny_holding ?_)
    unfold setAdd
    refine wpAny_holding (wpAny_bind ((intKind prog w).pyHash (k := val i) (intKind_is _ _ _ _) ?_))
    have hlen := firstMet_length_le val i
    refine set_add (s := { s' with toks := s'.toks + 1 }) (hS.keeps fun o e => hm.heap D o (fun h => hD (W.sub _ h)) e) (by (first | lia | omega)) fun h' b hsb hS2 => ?_
    have hS3 : SetS prog w h' D (metS val (i + 1)) (firstMet val (i + 1)).length :=
      hS2.congr (fun k' => by unfold metS; rw [firstMet_succ, step_any]) (by unfold metS; rw [firstMet_succ, step_length])
    refine wpAny_pure ⟨plainId_quiet PyProof.Rows.F.plain_set_update_loop _, set_loop W D hD val hval hb k (i + 1) _ (by (first | lia | omega)) (W.frame _ s' _ _ hst' (Nat.le_succ _) fun b hb o e => ?_) hS3 fun s'' hm'' hS'' => ?_⟩
    · rw [hsb.2 b (fun h : b = D => hD (h ▸ hb))]; exact e
    · refine hR s'' (Moved.trans W.gtrans ((hm.mono fun b hb => List.mem_cons_of_mem _ hb).then_heap (Nat.le_succ _) fun b o hb e => ?_) hm'') hS''
      rw [hsb.2 b (fun h : b = D => hb (h ▸ List.mem_cons_self))]; exact e
end

section
variable {prog : Program} {w : World} {A : Around} {E : Value → Shared → Prop} {s : Shared}

noncomputable def setObj (w : World) : Obj := { cls := .type "set", dict := none, data := .set #[] 0 (.fresh 0 0 (!w.params.followText "set-order")) }
theorem set_new (a : Value) {Q : Value → Shared → Prop} (h : Q (.ref s.heap.objs.size) { s with heap := s.heap.push (setObj w) }) :
    codeAny (model prog w) A (.call (.builtin "set.__new__") ⟨[.type "set", a], []⟩) (wants Q E) s := by
  refine codeAny_of_tree ?_
  show wpAny _ A.in1 (do checkBuiltinCall "set.__new__" ⟨[.type "set", a], []⟩; again (.builtin "set.__new__" ⟨[.type "set", a], []⟩)) _ _ s
  refine wpAny_bind (wpAny_of_eq (PySem.F.newCall_set_1 a) (wpAny_pure ⟨plainId_quiet PySem.F.plain_set_new _, codeAny_builtin PySem.F.entry_set_new ?_⟩))
  rw [Around.under_plainId PySem.F.plain_set_new _]
  unfold Builtin.«set.__new__» Builtin.Frozenset.newClass
  have hsub := sub_set_self
  obtain ⟨hp, g, d, tk, os⟩ := s
  dsimp only
  wp_walk
  refine wpAny_askSetting (wpAny_pure ?_)
  dsimp only
  simp only [newObj]
  refine wpAny_bind (wpAny_alloc (wpAny_pure ?_))
  exact wpAny_pure h

theorem set_fresh (h : Heap) (val : Nat → Int) : SetS prog w (h.push (setObj w)) h.objs.size (metS val 0) 0 :=
  ⟨_, #[], 0, _, Heap.get?_push_size _ rfl, ⟨rfl, rfl, rfl⟩, rfl, (fun e he => absurd he List.not_mem_nil), (fun k => ⟨(fun z => by simp [metS, firstMet_zero] at z), fun ⟨e, he, _⟩ => absurd he List.not_mem_nil⟩), (by unfold scanBound; decide), rfl, rfl, lrt_fresh, snug_fresh _⟩

/-- set(a list of ints) -/
theorem set_call {l : Addr} {items : Array Value} {ns : List Int} {Q : Value → Shared → Prop} (hh : A.handled = none) (hl : s.heap.IsList l items) (hi : IntsAre items.toList ns) (hb : items.size < 76)
    (h : ∀ (h' : Heap) (tk : Nat), SetS prog w h' s.heap.objs.size (metS (fun i => ns.getD i 0) items.size) (firstMet (fun i => ns.getD i 0) items.size).length →
      (∀ b o, s.heap.get? b = some o → h'.get? b = some o) → Q (.ref s.heap.objs.size) { s with heap := h', toks := tk }) :
    wpAny (model prog w) A (call (.type "set") [.ref l]) Q E s := by
  obtain ⟨c, tl, hmro⟩ := PySem.F.called_set.mro
  have hmade := PySem.F.called_set.made
  have hsub := PySem.F.called_set.sub
  refine wpAny_call (codeAny_of_tree ?_)
  show wpAny _ _ (callAny (.type "set") _) _ _ _
  refine wpAny_pure ⟨Code.quiet_builtin _ (by decide +kernel), codeAny_builtin PySem.F.entry_type_call ?_⟩
  rw [Around.under_plain (weight_type_call_type "set" [.ref l] []) rfl]
  have h1 := PySem.F.called_set.notType
  have h2 := PySem.F.called_set.canCreate
  have hct := PySem.F.typeCall_set_1 (.ref l)
  repeat (any_goals (first | assumption | wp_step))
  refine codeAny_mono (set_new (.ref l) (E := E) (Q := fun obj s₁ => obj = .ref s.heap.objs.size ∧ s₁ = { s with heap := s.heap.push (setObj w) }) ⟨rfl, rfl⟩) fun r s₁ hr => ?_
  cases r with
  | error e => exact hr
  | ok fl =>
    cases fl with
    | ret obj =>
      obtain ⟨rfl, rfl⟩ := hr
      have hS : (s.heap.push (setObj w)).get? s.heap.objs.size = some (setObj w) := Heap.get?_push_size _ rfl
      have hT : Shared.TypeIs { s with heap := s.heap.push (setObj w) } (.ref s.heap.objs.size) "set" := ⟨_, hS, rfl⟩
      have hli := PySem.F.called_set.init.lookup
      have hbi := PySem.F.called_set.init.bind (.ref s.heap.objs.size)
      repeat (any_goals (first | assumption | wp_step))
      refine codeAny_mono (codeAny_call_builtin (R := wants (fun r s₂ => r = .none ∧ ∃ h' tk, s₂ = { s with heap := h', toks := tk } ∧
          SetS prog w h' s.heap.objs.size (metS (fun i => ns.getD i 0) items.size) (firstMet (fun i => ns.getD i 0) items.size).length ∧
          (∀ b o, s.heap.get? b = some o → h'.get? b = some o)) E) PySem.F.called_set.init.plain PySem.F.entry_set_init (check_set_init_1 hT ?_)) fun r₂ s₂ hr₂ => ?_
      · obtain ⟨ol, hol, hcl, nl, hdl⟩ := hl
        obtain ⟨ocls, odict, odata, oslots⟩ := ol
        simp only at hcl hdl
        subst hcl; subst hdl
        have hol' := Heap.get?_push_of_some (setObj w) hol
        have hsls := PySem.F.sub_list_set
        have hslf := PySem.F.sub_list_frozenset
        have hne : (Value.type "list" == Value.type "dict") = false := by decide
        have hl1 : (s.heap.push (setObj w)).IsList l items := ⟨_, hol', rfl, nl, rfl⟩
        unfold Builtin.«set.__init__» noKeywords Builtin.Frozenset.updateFrom
        have hS0 : (s.heap.push (setObj w)).get? s.heap.objs.size = some { cls := .type "set", dict := none, data := .set #[] 0 (.fresh 0 0 (!w.params.followText "set-order")) } := hS
        generalize hPI : pyIter = PI
        wp_walk
        subst hPI
        refine wpAny_pyIter_list hl1 ?_
        refine wpAny_bind (wpAny_runValue ?_)
        have hlS : l < s.heap.objs.size := Heap.lt_size hol
        have hneI : l ≠ (s.heap.push (setObj w)).objs.size := by rw [Heap.size_push]; exact Nat.ne_of_lt (Nat.lt_succ_of_lt hlS)
        have hSf : s.heap.objs.size ∉ [(s.heap.push (setObj w)).objs.size, l] := by
          rw [Heap.size_push]; simp only [List.mem_cons, List.not_mem_nil, or_false, not_or]
          exact ⟨Nat.ne_of_lt (Nat.lt_succ_self _), Nat.ne_of_gt hlS⟩
        refine set_loop ((Walks.list (by simp [hh]) _ l hneI items).toS) s.heap.objs.size hSf (fun i => ns.getD i 0) (fun i v hv => IntsAre.int_at hi i v (by rw [Array.getElem?_toList]; exact hv)) hb items.size 0 _ (Nat.zero_add _)
          ⟨⟨_, Heap.get?_push_size _ rfl, rfl, rfl⟩, (hl1.push _)⟩ ((set_fresh _ _).keeps fun o e => Heap.get?_push_of_some _ e) fun s' hm hS' => ?_
        obtain ⟨h', g', d', tk', os'⟩ := s'
        obtain rfl : g' = s.gens := hm.gens
        obtain rfl : d' = s.drawn := hm.drawn
        obtain rfl : os' = s.os := hm.os
        show wpAny _ _ _ _ _ _
        refine wpAny_pure ?_
        show wpAny _ _ (ret Value.none) _ _ _
        refine wpAny_pure ⟨rfl, h', tk', rfl, hS', fun b o e => ?_⟩
        have hb := Heap.lt_size e
        refine hm.heap b o ?_ (Heap.get?_push_of_some _ (Heap.get?_push_of_some _ e))
        simp only [List.mem_cons, List.not_mem_nil, or_false, not_or]
        rw [Heap.size_push]
        exact ⟨Nat.ne_of_lt hb, Nat.ne_of_lt (Nat.lt_succ_of_lt hb)⟩
      · cases r₂ with
        | error e => exact hr₂
        | ok fl₂ =>
          cases fl₂ with
          | ret r =>
            obtain ⟨rfl, h', tk, rfl, hS', hk'⟩ := hr₂
            repeat (any_goals (first | assumption | wp_step))
            exact h _ _ hS' hk'
          | _ => exact hr₂.elim
    | _ => exact hr.elim
end
end Mine
namespace Mine
open PySem PySem.W PySem.Calls PyProof.Rows

theorem si_next : Slot "set_iterator" "__next__" "set_iterator.__next__" :=
  .of (owner := "set_iterator") (n := "__next__") (by rw [typeLookup_type, builtinLookup_eq_fast]; kernel_rfl) (by decide +kernel) (by decide +kernel) (by decide +kernel)
    (by first | exact .inl (by decide +kernel) | exact .inr (by decide +kernel)) (by rw [isSubtype_type]; kernel_rfl)
theorem si_next_entry : entryFor table "set_iterator.__next__" = some Builtin.«set_iterator.__next__» := entryFor_of_tree (by kernel_rfl)
theorem owner_si : Manifest.owners.lookup (String.ofList ['r', 'o', 't', 'a', 'r', 'e', 't', 'i', '_', 't', 'e', 's'].reverse) = some Manifest.sig_set_iterator := by kernel_rfl
theorem si_next_args (a : Value) : argsOk "set_iterator.__next__" ⟨[a], []⟩ := by
  unfold argsOk; rw [signature?_of (id := "set_iterator.__next__") (n := ['_', '_', 't', 'x', 'e', 'n', '_', '_']) (o := ['r', 'o', 't', 'a', 'r', 'e', 't', 'i', '_', 't', 'e', 's']) (by kernel_rfl) owner_si]; kernel_rfl
theorem si_iter : Slot "set_iterator" "__iter__" "set_iterator.__iter__" :=
  .of (owner := "set_iterator") (n := "__iter__") (by rw [typeLookup_type, builtinLookup_eq_fast]; kernel_rfl) (by decide +kernel) (by decide +kernel) (by decide +kernel)
    (by first | exact .inl (by decide +kernel) | exact .inr (by decide +kernel)) (by rw [isSubtype_type]; kernel_rfl)
theorem si_iter_args (a : Value) : argsOk "set_iterator.__iter__" ⟨[a], []⟩ := by
  unfold argsOk; rw [signature?_of (id := "set_iterator.__iter__") (n := ['_', '_', 'r', 'e', 't', 'i', '_', '_']) (o := ['r', 'o', 't', 'a', 'r', 'e', 't', 'i', '_', 't', 'e', 's']) (by kernel_rfl) owner_si]; kernel_rfl
theorem si_iter_entry : entryFor table "set_iterator.__iter__" = some Builtin.«dict_keyiterator.__iter__» :=
  entryFor_alias (id' := "dict_keyiterator.__iter__") (by kernel_rfl) (by first | rfl | decide +kernel | (unfold String.splitOn; simp +decide [String.splitOnAux])) (by decide +kernel) (by kernel_rfl)
theorem set_iter_entry : entryFor table "set.__iter__" = some Builtin.«frozenset.__iter__» :=
  entryFor_alias (id' := "frozenset.__iter__") (by kernel_rfl) (by first | rfl | decide +kernel | (unfold String.splitOn; simp +decide [String.splitOnAux])) (by decide +kernel) (by kernel_rfl)

section
variable {prog : Program} {w : World} {A : Around} {E : Value → Shared → Prop} {s : Shared} {D I : Addr} {es : Array (Int × Value)} {ep : Nat} {t : SetTable} {i : Nat}

/-- a set as it lies -/
structure SetIt (w : World) (h : Heap) (D : Addr) (es : Array (Int × Value)) (ep : Nat) (t : SetTable) : Prop where
  here : ∃ o, h.get? D = some o ∧ o.cls = .type "set" ∧ o.data = .set es ep t
  fits : t.fits es.size = true
  lrt : LRT (w.params.followText "set-order") t
  plain : t.plain = true
theorem SetIt.keeps {h h' : Heap} (x : SetIt w h D es ep t) (k : ∀ o, h.get? D = some o → h'.get? D = some o) : SetIt w h' D es ep t :=
  ⟨let ⟨o, ho, r⟩ := x.here; ⟨o, k o ho, r⟩, x.fits, x.lrt, x.plain⟩
theorem SetIt.typeIs (x : SetIt w s.heap D es ep t) : s.TypeIs (.ref D) "set" := let ⟨o, ho, hc, _⟩ := x.here; ⟨o, ho, hc⟩
theorem SetIt.place (x : SetIt w s.heap D es ep t) : t.place.size = es.size := by
  have := x.fits
  unfold SetTable.fits at this
  rw [Bool.and_eq_true] at this
  exact beq_iff_eq.mp this.1
theorem SetIt.state (x : SetIt w s.heap D es ep t) {Q : (Array (Int × Value) × Nat × SetTable) → Shared → Prop} (q : Q (es, ep, t) s) : wpAny (model prog w) A (setState D) Q E s := by
  obtain ⟨o, ho, _, hd⟩ := x.here
  exact wpAny_setState_of ho hd x.fits q
theorem SetIt.entries (x : SetIt w s.heap D es ep t) {Q : Array (Int × Value) → Shared → Prop} (q : Q es s) : wpAny (model prog w) A (setEntries D) Q E s := by
  unfold setEntries
  exact wpAny_bind (x.state (wpAny_pure q))
theorem byText {Q : Bool → Shared → Prop} (q : Q (w.params.followText "set-order") s) : wpAny (model prog w) A setsByText Q E s := by
  unfold setsByText
  exact wpAny_bind (wpAny_askSetting (wpAny_pure q))

noncomputable def slotOf (w : World) (t : SetTable) : Nat → Nat
  | 0 => 0
  | i + 1 => if w.params.followText "set-order" then 0 else t.place.getD i 0 + 1
noncomputable def ordOf (w : World) (D : Addr) (es : Array (Int × Value)) (ep : Nat) : Array (Int × Value) :=
  if w.params.followText "set-order" then pickOrder (w.params.setOrder D ep) es else es

theorem getElem_erase {α : Type} : ∀ {l : List α} {k : Nat} (h : k < l.length), (l[k] :: l.eraseIdx k).Perm l
  | x :: r, 0, _ => List.Perm.refl _
  | x :: r, k + 1, h => (List.Perm.swap ..).trans ((getElem_erase (l := r) (k := k) (by simpa using h)).cons x)
theorem pickGo_perm {α : Type} (next : Nat → Nat) : ∀ (fuel k : Nat) (left : List α) (out : Array α), left.length = fuel → (pickOrder.go next fuel k left out).toList.Perm (out.toList ++ left)
  | 0, k, left, out, h => by
    unfold pickOrder.go
    rw [List.length_eq_zero_iff.mp h, List.append_nil]
  | fuel + 1, k, left, out, h => by
    unfold pickOrder.go
    have hlt : next k % left.length < left.length := Nat.mod_lt _ (by (first | lia | omega))
    rw [List.getElem?_eq_getElem hlt]
    dsimp only
    refine (pickGo_perm next fuel (k + 1) _ _ (by rw [List.length_eraseIdx, if_pos hlt]; (first | lia | omega))).trans ?_
    rw [Array.toList_push, List.append_assoc]
    exact List.Perm.append_left _ (by simpa using getElem_erase hlt)
theorem ordOf_perm : (ordOf w D es ep).toList.Perm es.toList := by
  unfold ordOf
  split
  · unfold pickOrder
    simpa using pickGo_perm (w.params.setOrder D ep) es.size 0 es.toList #[] (by simp)
  · exact List.Perm.refl _
theorem ordOf_size : (ordOf w D es ep).size = es.size := by rw [← Array.length_toList, ordOf_perm.length_eq, Array.length_toList]

theorem below_slot {xs : Array Nat} (hr : Rise xs) {i : Nat} (hi : i < xs.size) : SetTable.below xs (xs.getD i 0 + 1) = i + 1 := by
  obtain ⟨b1, b2, b3⟩ := below_spec hr (xs.getD i 0 + 1)
  rcases Nat.lt_trichotomy (SetTable.below xs (xs.getD i 0 + 1)) (i + 1) with q | q | q
  · have := b3 i (by (first | lia | omega)) hi
    (first | lia | omega)
  · exact q
  · have h1 := b2 (i + 1) q
    have h2 := hr i (i + 1) (by (first | lia | omega)) (by (first | lia | omega))
    (first | lia | omega)
theorem below_zero (xs : Array Nat) (hr : Rise xs) : SetTable.below xs 0 = 0 := by
  obtain ⟨b1, b2, b3⟩ := below_spec hr 0
  rcases Nat.eq_zero_or_pos (SetTable.below xs 0) with q | q
  · exact q
  · have := b2 0 q
    (first | lia | omega)

theorem setNext_some (x : SetIt w s.heap D es ep t) {e : Int × Value} (he : (ordOf w D es ep)[i]? = some e) {Q : Option (Value × Nat) → Shared → Prop} (q : Q (some (e.2, slotOf w t (i + 1))) s) :
    wpAny (model prog w) A (setNext D (slotOf w t i) i ep) Q E s := by
  unfold setNext
  refine wpAny_bind (x.state ?_)
  dsimp only
  refine wpAny_bind (byText ?_)
  cases hb : w.params.followText "set-order" with
  | true =>
    simp only [if_true]
    rw [if_neg (by simp)]
    have s0 : slotOf w t i = 0 := by cases i <;> simp [slotOf, hb]
    have s1 : slotOf w t (i + 1) = 0 := by simp [slotOf, hb]
    unfold ordOf at he
    rw [hb, if_pos rfl] at he
    refine wpAny_bind ?_
    unfold setWalk
    refine wpAny_bind (x.state ?_)
    dsimp only
    refine wpAny_bind (byText ?_)
    rw [hb, if_pos rfl]
    refine wpAny_bind (wpAny_askSetting (wpAny_pure ?_))
    show wpAny _ _ (pure (((pickOrder (w.params.setOrder D ep) es)[i]?).map fun e => (e.2, slotOf w t i))) _ _ _
    rw [he, s0]
    rw [s1] at q
    exact wpAny_pure q
  | false =>
    simp only [Bool.false_eq_true, if_false]
    unfold ordOf at he
    rw [hb, if_neg (by simp)] at he
    show wpAny _ _ (if (!t.plain && decide (es.size > 1)) = true then _ else _) _ _ _
    rw [x.plain]
    simp only [Bool.not_true, Bool.false_and, Bool.false_eq_true, if_false]
    refine wpAny_bind ?_
    show wpAny _ _ (if (!t.led && !es.isEmpty) = true then unsupported "set:maker-not-led" else pure ()) _ _ _
    rw [x.lrt.led hb]
    simp only [Bool.not_true, Bool.false_and, Bool.false_eq_true, if_false]
    refine wpAny_pure ?_
    have hi : i < es.size := (Array.getElem?_eq_some_iff.mp he).1
    have hp := x.place
    have hbl : SetTable.below t.place (slotOf w t i) = i := by
      cases i with
      | zero => exact below_zero _ x.lrt.rise
      | succ i => simp only [slotOf, hb, Bool.false_eq_true, if_false]; exact below_slot x.lrt.rise (by (first | lia | omega))
    have hpl : t.place[i]? = some (t.place.getD i 0) := by
      rw [Array.getD_eq_getD_getElem?, Array.getElem?_eq_getElem (by (first | lia | omega))]; rfl
    rw [hbl, he, hpl]
    simp only [slotOf, hb, Bool.false_eq_true, if_false] at q
    exact wpAny_pure q
theorem setNext_none (x : SetIt w s.heap D es ep t) {Q : Option (Value × Nat) → Shared → Prop} (q : Q none s) :
    wpAny (model prog w) A (setNext D (slotOf w t es.size) es.size ep) Q E s := by
  unfold setNext
  refine wpAny_bind (x.state ?_)
  dsimp only
  refine wpAny_bind (byText ?_)
  cases hb : w.params.followText "set-order" with
  | true =>
    simp only [if_true]
    rw [if_neg (by simp)]
    refine wpAny_bind ?_
    unfold setWalk
    refine wpAny_bind (x.state ?_)
    dsimp only
    refine wpAny_bind (byText ?_)
    rw [hb, if_pos rfl]
    refine wpAny_bind (wpAny_askSetting (wpAny_pure ?_))
    have hz : (pickOrder (w.params.setOrder D ep) es).size = es.size := by
      have := ordOf_size (w := w) (D := D) (es := es) (ep := ep)
      unfold ordOf at this
      rwa [hb, if_pos rfl] at this
    show wpAny _ _ (pure (((pickOrder (w.params.setOrder D ep) es)[es.size]?).map fun e => (e.2, slotOf w t es.size))) _ _ _
    rw [Array.getElem?_eq_none (by (first | lia | omega))]
    exact wpAny_pure q
  | false =>
    simp only [Bool.false_eq_true, if_false]
    show wpAny _ _ (if (!t.plain && decide (es.size > 1)) = true then _ else _) _ _ _
    rw [x.plain]
    simp only [Bool.not_true, Bool.false_and, Bool.false_eq_true, if_false]
    refine wpAny_bind ?_
    show wpAny _ _ (if (!t.led && !es.isEmpty) = true then unsupported "set:maker-not-led" else pure ()) _ _ _
    rw [x.lrt.led hb]
    simp only [Bool.not_true, Bool.false_and, Bool.false_eq_true, if_false]
    refine wpAny_pure ?_
    have hp := x.place
    have hbl : SetTable.below t.place (slotOf w t es.size) = es.size := by
      cases hz : es.size with
      | zero => exact below_zero _ x.lrt.rise
      | succ n => simp only [slotOf, hb, Bool.false_eq_true, if_false]; exact below_slot x.lrt.rise (by (first | lia | omega))
    rw [hbl, Array.getElem?_eq_none (Nat.le_refl _)]
    exact wpAny_pure q

noncomputable abbrev siO (w : World) (D : Addr) (es : Array (Int × Value)) (ep : Nat) (t : SetTable) (i : Nat) : Obj := { cls := .type "set_iterator", data := .fields #[rawInt (slotOf w t i), rawInt i, .ref D, rawInt es.size, rawInt ep] }

theorem next_set (x : SetIt w s.heap D es ep t) (hI : s.heap.get? I = some (siO w D es ep t i)) {e : Int × Value} (he : (ordOf w D es ep)[i]? = some e) {Q : Option Value → Shared → Prop}
    (q : ∀ h', h'.get? I = some (siO w D es ep t (i + 1)) → Heap.SameBut I s.heap h' → Q (some e.2) { s with heap := h' }) : wpAny (model prog w) A (pyNext (.ref I)) Q E s := by
  have hT : s.TypeIs (.ref I) "set_iterator" := ⟨_, hI, rfl⟩
  unfold pyNext
  refine wpAny_bind (wpAny_attempt (wpAny_callSpecial?_slot (name := Str.ofString "__next__") hT si_next
    (wpAny_call_entry si_next hT si_next_entry ?_ (si_next_args _))))
  unfold Builtin.«set_iterator.__next__»
  refine wpAny_bind (wpAny_of_eq (a := (Value.ref I, [])) rfl ?_)
  try dsimp only
  refine wpAny_bind (wpAny_fieldsOf hI rfl ?_)
  dsimp only [rawInt]
  refine wpAny_bind (x.entries ?_)
  rw [if_neg (by simp)]
  try refine wpAny_bind (wpAny_pure ?_)
  simp only [Int.toNat_natCast]
  refine wpAny_bind (setNext_some x he ?_)
  dsimp only
  refine wpAny_bind (wpAny_setField_rec hI (by simp) fun h₁ hI₁ hs₁ => ?_)
  refine wpAny_bind (wpAny_setField_rec (s := { s with heap := h₁ }) hI₁ (by simp) fun h₂ hI₂ hs₂ => ?_)
  exact wpAny_pure ⟨_, rfl, wpAny_pure (q h₂ (by simpa [siO, rawInt] using hI₂) (hs₁.trans hs₂))⟩

theorem next_set_end (hh : A.handled = none) (x : SetIt w s.heap D es ep t) (hI : s.heap.get? I = some (siO w D es ep t es.size)) {Q : Option Value → Shared → Prop}
    (q : ∀ h', (∀ b o, b ≠ I → s.heap.get? b = some o → h'.get? b = some o) → Q none { s with heap := h' }) : wpAny (model prog w) A (pyNext (.ref I)) Q E s := by
  have hT : s.TypeIs (.ref I) "set_iterator" := ⟨_, hI, rfl⟩
  unfold pyNext
  refine wpAny_bind (wpAny_attempt (wpAny_callSpecial?_slot (name := Str.ofString "__next__") hT si_next
    (wpAny_call_entry si_next hT si_next_entry ?_ (si_next_args _))))
  unfold Builtin.«set_iterator.__next__»
  refine wpAny_bind (wpAny_of_eq (a := (Value.ref I, [])) rfl ?_)
  try dsimp only
  refine wpAny_bind (wpAny_fieldsOf hI rfl ?_)
  dsimp only [rawInt]
  refine wpAny_bind (x.entries ?_)
  rw [if_neg (by simp)]
  try refine wpAny_bind (wpAny_pure ?_)
  simp only [Int.toNat_natCast]
  refine wpAny_bind (setNext_none x ?_)
  dsimp only
  refine wpAny_bind (wpAny_setField_rec hI (by simp) fun h₁ hI₁ hs₁ => ?_)
  refine wpAny_bind ?_
  simp only [newExc, newTuple]
  refine wpAny_bind (wpAny_newObj_type ?_ (by size_fits))
  refine wpAny_bind (m := firstArgMember _ _) (wpAny_of_eq (a := Value.none) (by first | rfl | (simp only [firstArgMember]; rfl)) ?_)
  refine wpAny_newObj_type ?_ (by size_fits)
  simp only [raiseNew]
  refine wpAny_bind (wpAny_handled ?_)
  first | rw [show A.in1.handled = none from hh] | rw [hh]
  refine wpAny_bind (wpAny_pure (wpAny_throw ?_))
  refine wpAny_bind (wpAny_isInstance (T := "StopIteration") (b := true) ⟨_, Heap.get?_push_size _ rfl, rfl⟩ isSubtype_stop ?_)
  exact wpAny_pure (q _ fun b o hb e => Heap.get?_push_of_some _ (Heap.get?_push_of_some _ (by rw [hs₁.2 b hb]; exact e)))

theorem iter_si {o : Obj} (hI : s.heap.get? I = some o) (hc : o.cls = .type "set_iterator") {Q : Value → Shared → Prop} (h : Q (.ref I) s) : wpAny (model prog w) A (pyIter (.ref I)) Q E s := by
  have hT : s.TypeIs (.ref I) "set_iterator" := ⟨_, hI, hc⟩
  refine wpAny_pyIter_slot hT si_iter (wpAny_call_entry si_iter hT si_iter_entry ?_ (si_iter_args _))
  show wpAny _ _ (ret (.ref I)) _ _ s
  exact wpAny_pure ⟨_, rfl, "set_iterator", _, hT, si_next.lookup, h⟩

theorem iter_set (x : SetIt w s.heap D es ep t) {Q : Value → Shared → Prop} (h : Q (.ref s.heap.objs.size) { s with heap := s.heap.push (siO w D es ep t 0) }) : wpAny (model prog w) A (pyIter (.ref D)) Q E s := by
  have hT := x.typeIs
  refine wpAny_pyIter_slot hT PySem.F.slot_set_iter (wpAny_call_entry PySem.F.slot_set_iter hT set_iter_entry ?_ (PySem.F.args_set_iter_1 _))
  unfold Builtin.«frozenset.__iter__»
  refine wpAny_bind (wpAny_of_eq (a := D) rfl ?_)
  refine wpAny_bind ?_
  unfold Builtin.Frozenset.sizeOf
  refine wpAny_bind (x.entries (wpAny_pure ?_))
  refine wpAny_bind ?_
  unfold setDrawn
  refine wpAny_bind (x.state ?_)
  dsimp only
  refine wpAny_bind (byText ?_)
  show wpAny _ _ (pure (!(w.params.followText "set-order") && (!t.plain && decide (es.size > 1)))) _ _ _
  rw [x.plain]
  simp only [Bool.not_true, Bool.false_and, Bool.and_false]
  refine wpAny_pure ?_
  simp only [Bool.false_eq_true, if_false]
  refine wpAny_bind (wpAny_pure ?_)
  refine wpAny_bind ?_
  unfold setEpoch
  refine wpAny_bind (x.state (wpAny_pure ?_))
  dsimp only
  refine wpAny_bind ?_
  unfold newFields
  refine wpAny_newObj_type ?_ (by size_fits)
  exact wpAny_pure ⟨_, rfl, "set_iterator", _, ⟨_, Heap.get?_push_size _ rfl, rfl⟩, si_next.lookup, h⟩

theorem hint_set (hT : s.TypeIs (.ref D) "set") {Q : Bool → Shared → Prop} (h : Q false s) : wpAny (model prog w) A (Builtin.List.listLengthHint (.ref D)) Q E s := by
  unfold Builtin.List.listLengthHint
  refine wpAny_bind (wpAny_specialOf hT PySem.F.slot_set_len.lookup ?_)
  generalize hid : ("set.__len__" : String) = id0
  wp_delta
  rw [show splitId id0 = some ("set", "__len__") from by subst hid; decide +kernel]
  subst hid
  refine wpAny_bind (wpAny_isInstance (T := "set") (b := true) hT (by rw [isSubtype_type]; kernel_rfl) ?_)
  refine wpAny_ite_split (fun hab => absurd hab (by decide)) (fun _ => ?_)
  refine wpAny_ite_split (fun _ => ?_) (fun hab => absurd (by decide +kernel) hab)
  refine wpAny_bind (wpAny_typeOf hT ?_)
  exact wpAny_pure h

theorem set_walks (hh : A.handled = none) (I : Addr) (hne : D ≠ I) : Walks prog w A I [I, D] [I] es.size (fun i v => ∃ e, (ordOf w D es ep)[i]? = some e ∧ v = e.2)
    (fun i h => h.get? I = some (siO w D es ep t i) ∧ SetIt w h D es ep t) where
  sub := fun b hb => by simp at hb; simp [hb]
  frame := fun _ _ _ st hk => ⟨hk I (by simp) _ st.1, st.2.keeps fun o e => hk D (by simp) o e⟩
  item := fun i s Q E hi st hQ => by
    have hi' : i < (ordOf w D es ep).size := by rw [ordOf_size]; exact hi
    refine next_set st.2 st.1 (Array.getElem?_eq_getElem hi') fun h' a b => ?_
    exact hQ _ h' s.toks ⟨_, Array.getElem?_eq_getElem hi', rfl⟩ ⟨a, st.2.keeps fun o e => b.extBut D o hne e⟩ fun c o hc e => b.extBut c o (fun z => hc (by simp [z])) e
  done := fun s Q E st hQ => next_set_end hh st.2 st.1 fun h' a => hQ h' s.toks fun b o hb e => a b o (fun z => hb (by simp [z])) e
  self := fun _ _ _ _ st hQ => iter_si st.1 rfl hQ

theorem kdl_set : KdlSrc prog w "set" D D es.size (fun i v => ∃ e, (ordOf w D es ep)[i]? = some e ∧ v = e.2) (fun h => SetIt w h D es ep t) where
  type := fun s x => x.typeIs
  there := fun h x => let ⟨_, ho, _⟩ := x.here; ⟨Heap.lt_size ho, Heap.lt_size ho⟩
  keep := fun _ _ x hk => x.keeps fun o e => hk D (.inl rfl) o e
  notList := by decide
  notTuple := by decide
  hint := fun _ _ _ _ x hq => hint_set x.typeIs hq
  iter := fun _ s hh x => ⟨_, _, (fun _ _ hq => iter_set x hq), set_walks hh _ (let ⟨_, ho, _⟩ := x.here; Nat.ne_of_lt (Heap.lt_size ho)), ⟨Heap.get?_push_size _ rfl, x.keeps fun o e => Heap.get?_push_of_some _ e⟩⟩
end
end Mine
namespace Mine
open PySem PySem.W PySem.Calls PyProof.Rows

noncomputable def intOf : Value → Int
  | .int k _ => k
  | _ => 0
theorem intOf_is {prog : Program} {w : World} {k : Int} {v : Value} (h : (PySem.intKind prog w).is k v = true) : intOf v = k ∧ ∃ t, v = .int k t := by
  obtain ⟨t, rfl⟩ := Value.isInt_shape h
  exact ⟨rfl, t, rfl⟩

theorem firstMet_nodup (val : Nat → Int) : ∀ i, (firstMet val i).Nodup
  | 0 => by rw [firstMet_zero]; exact List.nodup_nil
  | i + 1 => by
    rw [firstMet_succ]; unfold step_dedup
    have ih := firstMet_nodup val i
    split
    · exact ih
    · rename_i h
      rw [List.nodup_append]
      refine ⟨ih, by simp, fun a ha b hb e => h ?_⟩
      rw [List.mem_singleton] at hb
      exact List.any_eq_true.mpr ⟨a, ha, by rw [e, hb]; exact beq_self_eq_true _⟩
theorem dedup_mem {k : Int} : ∀ {l : List Int}, k ∈ dedup l ↔ k ∈ l
  | [] => Iff.rfl
  | a :: r => by
    unfold dedup
    split
    · rename_i h
      rw [dedup_mem]
      exact ⟨List.mem_cons_of_mem _, fun h' => by
        rcases List.mem_cons.mp h' with e | e
        · exact e ▸ h
        · exact e⟩
    · rw [List.mem_cons, List.mem_cons, dedup_mem]
theorem dedup_nodup : ∀ l : List Int, (dedup l).Nodup
  | [] => List.nodup_nil
  | a :: r => by
    unfold dedup
    split
    · exact dedup_nodup r
    · rename_i h
      exact List.nodup_cons.mpr ⟨fun z => h (dedup_mem.mp z), dedup_nodup r⟩
theorem dedup_len : ∀ l : List Int, (dedup l).length ≤ l.length
  | [] => Nat.le_refl _
  | a :: r => by
    unfold dedup
    have := dedup_len r
    split
    · rw [List.length_cons]; (first | lia | omega)
    · rw [List.length_cons, List.length_cons]; (first | lia | omega)
theorem perm_of_sub : ∀ {F K : List Int}, F.Nodup → (∀ k ∈ F, k ∈ K) → K.length ≤ F.length → F.Perm K
  | [], K, _, _, h => by
    have : K = [] := List.length_eq_zero_iff.mp (by simpa using h)
    rw [this]
  | x :: F, K, hn, hs, h => by
    obtain ⟨h1, h2⟩ := List.nodup_cons.mp hn
    have hx := hs x List.mem_cons_self
    have p := List.perm_cons_erase hx
    refine List.Perm.trans (List.Perm.cons x (perm_of_sub (K := K.erase x) h2 (fun k hk => ?_) ?_)) p.symm
    · exact (List.mem_erase_of_ne (fun e => h1 (by rw [← e]; exact hk))).mpr (hs k (List.mem_cons_of_mem _ hk))
    · have := p.length_eq
      rw [List.length_cons] at this h
      (first | lia | omega)
theorem sub_len : ∀ {F K : List Int}, F.Nodup → (∀ k ∈ F, k ∈ K) → F.length ≤ K.length
  | [], K, _, _ => Nat.zero_le _
  | x :: F, K, hn, hs => by
    obtain ⟨h1, h2⟩ := List.nodup_cons.mp hn
    have p := (List.perm_cons_erase (hs x List.mem_cons_self)).length_eq
    have := sub_len (K := K.erase x) h2 fun k hk => (List.mem_erase_of_ne (fun e => h1 (by rw [← e]; exact hk))).mpr (hs k (List.mem_cons_of_mem _ hk))
    rw [List.length_cons] at p ⊢
    (first | lia | omega)
theorem firstMet_mem {ns : List Int} {n : Nat} (hn : n = ns.length) {k : Int} : k ∈ firstMet (fun i => ns.getD i 0) n ↔ k ∈ ns := by
  have e : (List.range n).map (fun i => ns.getD i 0) = ns := by
    refine List.ext_getElem (by simp [hn]) fun i h1 h2 => ?_
    simp [List.getD, h2]
  have := firstMet_any (fun i => ns.getD i 0) n k
  rw [e] at this
  have m : ∀ l : List Int, l.any (· == k) = true ↔ k ∈ l := fun l => by simp
  rw [← m, ← m, this]

theorem isort_perm {a b : List Int} (h : a.Perm b) : isort a = isort b := by
  refine isort_uniq ((List.mergeSort_perm a _).trans h) ?_
  have := List.pairwise_mergeSort (le := fun a b : Int => decide (a ≤ b)) (fun a b c h1 h2 => by simp at *; (first | lia | omega)) (fun a b => by simp; (first | lia | omega)) a
  refine List.Pairwise.imp ?_ this
  intro a b h; simpa using h
section
variable {G : G0} {fa : Fn → Addr} {K : Frag} {mg mb : Str → Option Value} {A : Around} {Er : Value → Shared → Prop} {s : Shared} {env : Env} {p : Pl} {σ : Sto} {l : Locs} {S : Spec} {d : Nat}

theorem keys_perm {es : Array (Int × Value)} {ns : List Int} {m : Nat} (hlen : m = ns.length) (hel : ElemsOf (PySem.intKind prog w) es.toList) (hmem : ∀ k, metS (fun i => ns.getD i 0) m k = true ↔ ∃ e ∈ es.toList, (PySem.intKind prog w).is k e.2 = true) (hn' : es.size = (firstMet (fun i => ns.getD i 0) m).length) :
    (es.toList.map fun e => intOf e.2).Perm (dedup ns) := by
  have hkey : ∀ k, k ∈ es.toList.map (fun e => intOf e.2) ↔ k ∈ firstMet (fun i => ns.getD i 0) m := fun k => by
    have m : ∀ l : List Int, l.any (· == k) = true ↔ k ∈ l := fun l => by simp
    rw [← m (firstMet _ _)]
    refine Iff.trans ⟨fun hk => ?_, fun ⟨e, he, hk⟩ => ?_⟩ (hmem k).symm
    · obtain ⟨e, he, rfl⟩ := List.mem_map.mp hk
      obtain ⟨⟨k, hk, _⟩, _⟩ := hel e he
      exact ⟨e, he, by rw [(intOf_is hk).1]; exact hk⟩
    · exact List.mem_map.mpr ⟨e, he, (intOf_is hk).1⟩
  have p1 : (firstMet (fun i => ns.getD i 0) m).Perm (es.toList.map fun e => intOf e.2) :=
    perm_of_sub (firstMet_nodup _ _) (fun k hk => (hkey k).mpr hk) (by rw [List.length_map, Array.length_toList, hn']; exact Nat.le_refl _)
  have s1 := sub_len (dedup_nodup ns) (K := firstMet (fun i => ns.getD i 0) m) fun k hk => (firstMet_mem hlen).mpr (dedup_mem.mp hk)
  exact p1.symm.trans (perm_of_sub (firstMet_nodup (fun i => ns.getD i 0) m) (K := dedup ns) (fun k hk => dedup_mem.mpr ((firstMet_mem hlen).mp hk)) s1)
theorem op_sortedset (_H : GOk G) (R : Rp G p σ s.heap) (hh : A.handled = none) {c : Value} {v : V} {q : V × Sto} (hc : VR G.base p σ.length s.heap c v) (e : evSortedSet σ v = some q) :
    wpAny (model G.prog G.w) A (call (.type "set") [c]) (fun d s' => wpAny (model G.prog G.w) A (call (.builtin "sorted") [d]) (OP G p σ s q.1 q.2) Er s') Er s := by
  obtain ⟨n, hn, e⟩ := bnd e
  obtain ⟨ns, hx, e⟩ := bnd e
  obtain ⟨xs, hm, hi⟩ := bnd hx
  refine gdK (P := fun q => wpAny _ A (call (.type "set") [c]) (fun d s' => wpAny _ A (call (.builtin "sorted") [d]) (OP G p σ s q.1 q.2) Er s') Er s) e fun hl => ?_
  obtain ⟨rfl, hn⟩ := hc.ref? hn
  obtain ⟨_, _, items, n0, h1, h2⟩ := lst_get R hm
  have hints := VRs.ints h2 hi
  have hlen : items.size = ns.length := by rw [← Array.length_toList]; exact hints.length
  refine set_call hh ⟨_, h1, rfl, n0, rfl⟩ hints (by (first | lia | omega)) fun h' tk hS hk => ?_
  obtain ⟨o, es, ep, t, ho, hex, hdat, hel, hmem, hb, hf, hn', hL, hN⟩ := hS
  have X : SetIt G.w h' s.heap.objs.size es ep t := ⟨⟨o, ho, hex.1, hdat⟩, hf, hL, hN.1⟩
  have hle := firstMet_length_le (fun i => ns.getD i 0) items.size
  have hks := keys_perm hlen hel hmem hn'
  refine call_function_entry kind_sorted plain_sorted entry_sorted (args_sorted1 _) ?_
  unfold Builtin.«sorted»
  refine wpAny_bind (m := checkCount "sorted" 1 1 _) (wpAny_pure ?_)
  refine wpAny_bind (kdu_collect (A := A.in1) (kdl_set (prog := G.prog) (w := G.w) (D := s.heap.objs.size) (es := es) (ep := ep) (t := t)) hh X (le_line (by (first | lia | omega))) fun h2 tk2 acc hk2 hacc => ?_)
  have hal : acc.toList.length = es.size := by rw [Array.length_toList]; exact hacc.1
  refine wpAny_bind (wpAny_newList ?_ (le_line (by (first | lia | omega))))
  have hia : IntsAre acc.toList ((ordOf G.w s.heap.objs.size es ep).toList.map fun e => intOf e.2) := by
    refine ints_of_places (by rw [List.length_map, hal, Array.length_toList (xs := ordOf _ _ _ _), ordOf_size]) fun j x hx => ?_
    obtain ⟨e, he, rfl⟩ := hacc.2 j x (by rw [← Array.getElem?_toList]; exact hx)
    have hme : e ∈ es.toList := ordOf_perm.mem_iff.mp (by rw [← Array.getElem?_toList] at he; exact List.mem_of_getElem? he)
    obtain ⟨⟨k, hk, _⟩, _⟩ := hel e hme
    obtain ⟨e1, t, e2⟩ := intOf_is hk
    refine ⟨t, ?_⟩
    rw [← Array.getElem?_toList] at he
    simp only [List.getD_eq_getElem?_getD, List.getElem?_map, he, Option.map_some, Option.getD_some]
    rw [e1]; exact e2
  have hso : isort ((ordOf G.w s.heap.objs.size es ep).toList.map fun e => intOf e.2) = isort (dedup ns) :=
    isort_perm ((ordOf_perm.map _).trans hks)
  refine wpAny_bind (wpAny_holding (op_sort (Heap.get?_push_size _ rfl) hia (by (first | lia | omega)) fun h3 its c a1 a2 a3 => ?_))
  rw [hso] at a3
  refine wpAny_pure ⟨_, rfl, ?_⟩
  have kk : ∀ b o, s.heap.get? b = some o → h2.get? b = some o := fun b o z => hk2 b o (hk b o z)
  have k1 : ∀ b o, s.heap.get? b = some o → h3.get? b = some o := fun b o z =>
    a1 b o (Nat.ne_of_lt (Heap.lt_size (kk b o z))) (Heap.get?_push_of_some _ (kk b o z))
  have hnone : s.heap.get? h2.objs.size = none := by
    cases z : s.heap.get? h2.objs.size with
    | none => rfl
    | some o => exact absurd (Heap.lt_size (kk _ _ z)) (Nat.lt_irrefl _)
  exact OP.newList (tk := tk2) R k1 hnone a2 (VRs.ofInts a3)
end
end Mine
namespace Mine
open PySem PySem.W PySem.Calls PyProof.Rows

section
variable {G : G0} {fa : Fn → Addr} {K : Frag} {mg mb : Str → Option Value} {A : Around} {Er : Value → Shared → Prop} {s : Shared} {env : Env} {p : Pl} {σ : Sto} {l : Locs} {S : Spec} {d : Nat}

/-- pairs of a display -/
theorem weight_make (C : Addr) (rest : List Value) : (Code.builtin "type.__call__" ⟨.ref C :: rest, []⟩).weight ≤ 2 := by
  show (1 : Nat) ≤ 2
  decide
theorem units_make (C : Addr) (rest : List Value) : (Code.builtin "type.__call__" ⟨.ref C :: rest, []⟩).cUnits ≤ 6 := by
  have e : (Code.builtin "type.__call__" ⟨.ref C :: rest, []⟩).cUnits = 1 := by kernel_rfl
  rw [e]; decide

theorem new_step (H : PF G fa K mg mb) (HS : CallOk G fa S d) (hA : Room d A) (R : Rp G p σ s.heap) {c : Cls} {f : Fn} {vs : List V} {cs : List Value} {Q : V → Sto → Prop} (hi : findIn K (.ref (G.ca c)) "__init__" = some (some (.ref (fa f)))) (ht : typeIn K (.ref (fa f)) = some (.type "function"))
    (hv : VRs G.base p σ.length s.heap cs vs) (e : S f (.ref σ.length :: vs) (σ ++ [.inst c []]) fun v σ' => opt v.none? fun _ => Q (.ref σ.length) σ') : wpAny (model G.prog G.w) A (call (.ref (G.ca c)) cs) (Post G noW p σ s (RE G Q)) Er s := by
  have X := R.kin H
  obtain ⟨hh, g, dr, t, os⟩ := s
  refine wpAny_call (make_core (makes_of X (H.mks c)) (looks_findIn X hi) (fun self => bind_fn X self ht) (.inl rfl) ?_)
  have k : ∀ b o, hh.get? b = some o → ((hh.push emptyDict).push (instObj (G.ca c) hh.objs.size)).get? b = some o := fun b o e => Heap.get?_push_of_some _ (Heap.get?_push_of_some _ e)
  have hsz : (hh.push emptyDict).objs.size = hh.objs.size + 1 := Heap.size_push ..
  have ho1 : ((hh.push emptyDict).push (instObj (G.ca c) hh.objs.size)).get? (hh.objs.size + 1) = some (instObj (G.ca c) hh.objs.size) := by rw [← hsz]; exact Heap.get?_push_size _ rfl
  have ho2 : ((hh.push emptyDict).push (instObj (G.ca c) hh.objs.size)).get? hh.objs.size = some (dictOf [] 0) := Heap.get?_push_of_some _ (Heap.get?_push_size _ rfl)
  obtain ⟨S₁, R₁⟩ := R.alloc (o := .inst c []) k (none_at (Nat.le_succ _)) (none_at (Nat.le_refl _)) (fun _ => ⟨ho1, [], 0, ho2, .nil, List.nodup_nil⟩)
  have hv' : VRs G.base (p.put σ.length (hh.objs.size + 1) hh.objs.size) (σ ++ [AObj.inst c []]).length ((hh.push emptyDict).push (instObj (G.ca c) hh.objs.size)) (.ref (hh.objs.size + 1) :: cs) (.ref σ.length :: vs) := by
    refine .cons ?_ (S₁.vrs R noTupW_no hv)
    have z : VR G.base (p.put σ.length (hh.objs.size + 1) hh.objs.size) (σ ++ [AObj.inst c []]).length ((hh.push emptyDict).push (instObj (G.ca c) hh.objs.size)) (.ref ((p.put σ.length (hh.objs.size + 1) hh.objs.size).φ σ.length)) (.ref σ.length) := .ref _ (len_snoc ▸ Nat.lt_succ_self _)
    rw [(p.put_self σ.length (hh.objs.size + 1) hh.objs.size).1] at z; exact z
  refine codeAny_mono (HS f _ _ _ _ ⟨(hh.push emptyDict).push (instObj (G.ca c) hh.objs.size), g, dr, t, os⟩ _ _ (hA.under (weight_make _ _) (units_make _ _)) R₁ hv' e) fun r s' z => ?_
  obtain ⟨cr, rfl, σ', h', tk', p', S', R', u, hu, q⟩ := z
  obtain ⟨_, hn, q⟩ := opt_some q
  cases V.none?_eq hn
  cases hu.none_inv
  have hlen : σ.length < (σ ++ [AObj.inst c []]).length := len_snoc ▸ Nat.lt_succ_self _
  refine ⟨rfl, σ', h', tk', p', S₁.transN S', R', .ref σ.length, ?_, q⟩
  have z : VR G.base p' σ'.length h' (.ref (p'.φ σ.length)) (.ref σ.length) := .ref _ (Nat.lt_of_lt_of_le hlen S'.len)
  rw [(S'.agree _ hlen).1, (p.put_self σ.length (hh.objs.size + 1) hh.objs.size).1] at z; exact z
end
end Mine
namespace Mine
open PySem PySem.W PySem.Calls PyProof.Rows

inductive RPs (G : G0) (ks : List Str) (Q : List V → Sto → Prop) (p : Pl) (σ : Sto) (h : Heap) (vs : List (Value × Value)) : Prop
  | mk (us : List V) : VRs G.base p σ.length h (vs.map (·.2)) us → allStrKeys vs = true → (strPairs vs).map (·.1) = ks → (strPairs vs).map (·.2) = vs.map (·.2) → Q us σ → RPs G ks Q p σ h vs
noncomputable def JPs (G : G0) (S : Spec) (A : Around) (es : List E) (nm : Nms) (ks : List Str) (keys : List (Option Expr)) (xs : List Expr) : Prop :=
  ∀ (env : Env) (l : Locs) (σ : Sto) (p : Pl) (s : Shared) (Q : List V → Sto → Prop) (E : Value → Shared → Prop) (ps : Pos), env.scope.names = nm → ER G env p σ.length s.heap l → Rp G p σ s.heap → evEs S es l σ Q →
    wpAny (model G.prog G.w) A (evalPairs (pairTrees keys xs env ps)) (Post G noW p σ s (RPs G ks Q)) E s

theorem KV.zip {base : Heap} {p : Pl} {n : Nat} {h : Heap} {kvs : List (Str × Value)} {us : List V} (hv : VRs base p n h (kvs.map (·.2)) us) : KV (VR base p n h) kvs ((kvs.map (·.1)).zip us) := by
  induction kvs generalizing us with
  | nil => cases hv; exact .nil
  | cons a r ih => cases hv with
    | cons h1 r1 => exact .cons h1 (ih r1)

theorem okKeys_some : ∀ {ks : List Str} {keys : List (Option Expr)}, okKeys ks keys = true → keys.all (·.isSome) = true ∧ keys.length = ks.length
  | [], _, h => onNil_el (P := fun keys => keys.all (·.isSome) = true ∧ keys.length = 0) h fun _ => ⟨rfl, rfl⟩
  | k :: ks, _, h => onCons_el (P := fun keys : List (Option Expr) => keys.all (·.isSome) = true ∧ keys.length = (k :: ks).length) h fun o r h => onSome_el (P := fun o => (o :: r).all (·.isSome) = true ∧ (o :: r).length = (k :: ks).length) h fun x h =>
    have z := okKeys_some (onStrC_el (P := fun _ => okKeys ks r = true) h fun _ _ _ h => (Bool.and_eq_true_iff.mp h).2)
    ⟨z.1, congrArg (· + 1) z.2⟩
theorem oks_length : ∀ {es : List E} {nm : Nms} {xs : List Expr}, okEs es nm xs = true → xs.length = es.length
  | [], _, _, h => onNil_el (P := fun xs : List Expr => xs.length = 0) h fun _ => rfl
  | e :: r, nm, _, h => onCons_el (P := fun xs : List Expr => xs.length = (e :: r).length) h fun x ys h => congrArg (· + 1) (oks_length (Bool.and_eq_true_iff.mp h).2)
section
variable {G : G0} {fa : Fn → Addr} {K : Frag} {mg mb : Str → Option Value} {A : Around} {S : Spec} {d : Nat}

theorem tuple_post {Er : Value → Shared → Prop} {s : Shared} {p : Pl} {σ : Sto} {vs : List Value} {us : List V} {Q : V → Sto → Prop} (R : Rp G p σ s.heap) (hv : VRs G.base p σ.length s.heap vs us) (q : Q (.tup us) σ) :
    Post G noW p σ s (RE G Q) (.ref s.heap.objs.size) { s with heap := s.heap.push { cls := .type "tuple", data := .seq vs.toArray } } := by
  have k2 : ∀ b o, s.heap.get? b = some o → (s.heap.push { cls := .type "tuple", data := .seq vs.toArray }).get? b = some o := fun b o z => Heap.get?_push_of_some _ z
  have t : VR G.base p σ.length (s.heap.push { cls := .type "tuple", data := .seq vs.toArray }) (.ref s.heap.objs.size) (.tup us) :=
    .tup ⟨_, Heap.get?_push_size _ rfl, rfl, 0, rfl⟩ ((Stp.grow (W := noW) k2).vrs (σ' := σ) R noTupW_no (by simpa using hv))
  exact OP.post (OP.grow (tk := s.toks) R k2 t) q
theorem list_post {s : Shared} {p : Pl} {σ : Sto} {vs : List Value} {us : List V} {Q : V → Sto → Prop} (R : Rp G p σ s.heap) (hv : VRs G.base p σ.length s.heap vs us) (q : Q (.ref σ.length) (σ ++ [.lst us])) :
    Post G noW p σ s (RE G Q) (.ref s.heap.objs.size) { s with heap := s.heap.push { cls := .type "list", data := .seq vs.toArray } } :=
  OP.post (OP.newList (tk := s.toks) R (fun b o z => Heap.get?_push_of_some _ z) (none_at (Nat.le_refl _)) (Heap.get?_push_size _ rfl) (by simpa using hv)) q

theorem dict_wp (ks : List Str) (keys : List (Option Expr)) (xs : List Expr) {es : List E} {nm : Nms} {k : DK} (ihP : JPs G S A es nm ks keys xs) (hk : okKeys ks keys = true) (hx : xs.length = es.length) (hke : ks.length = es.length) (h8 : ks.length ≤ 8)
    {env : Env} {l : Locs} {σ : Sto} {p : Pl} {s : Shared} {Q : V → Sto → Prop} {Er : Value → Shared → Prop} {pos : Pos} (hn : env.scope.names = nm) (X : ER G env p σ.length s.heap l) (R : Rp G p σ s.heap)
    (h : evE S (.dict k ks es) l σ Q) : wpAny (model G.prog G.w) A (eval (.Dict keys xs pos) env) (Post G noW p σ s (RE G Q)) Er s := by
  obtain ⟨hall, hlen⟩ := okKeys_some hk
  cases ks with
  | nil =>
    cases List.eq_nil_of_length_eq_zero hlen
    cases List.eq_nil_of_length_eq_zero hke.symm
    cases List.eq_nil_of_length_eq_zero hx
    obtain ⟨o, e, q⟩ := opt_some h
    clear h
    refine wpAny_Dict_empty ?_
    have fin : ∀ {o : AObj}, (∀ vr, (∀ c v, VR G.base p σ.length s.heap c v → vr c v) → ORel G (s.heap.push { cls := .type "dict", data := .dict #[] }) vr s.heap.objs.size s.heap.objs.size o) → Q (.ref σ.length) (σ ++ [o]) →
        Post G noW p σ s (RE G Q) (.ref s.heap.objs.size) { s with heap := s.heap.push { cls := .type "dict", data := .dict #[] } } := fun z q =>
      OP.post (OP.alloc (tk := s.toks) R (fun b o z => Heap.get?_push_of_some _ z) (none_at (Nat.le_refl _)) (none_at (Nat.le_refl _)) z) q
    revert q
    cases k
    · exact gdK (P := fun o => Q _ (σ ++ [o]) → _) e fun _ => fin fun _ _ => ⟨rfl, [], Heap.DictOf.new _, .nil⟩
    · exact gdK (P := fun o => Q _ (σ ++ [o]) → _) e fun _ => fin fun _ _ => ⟨rfl, [], Heap.DictOf.new _, .nil⟩
    · exact gdK (P := fun o => Q _ (σ ++ [o]) → _) e fun _ => fin fun _ _ => ⟨rfl, [], Heap.DictOfH.new _, .nil⟩
  | cons k0 kr =>
    have hne : keys ≠ [] := fun z => by rw [z] at hlen; cases hlen
    refine wpAny_Dict_walk (knd := PySem.strKind G.prog G.w) hall (by rw [hlen, hke, hx]) hne (by (first | lia | omega)) ?_
    have k₀ : ∀ b o, s.heap.get? b = some o → (s.heap.push { cls := .type "dict", data := .dict #[] }).get? b = some o := fun b o e => Heap.get?_push_of_some _ e
    have nD : s.heap.get? s.heap.objs.size = none := none_at (Nat.le_refl _)
    have eD : (s.heap.push { cls := .type "dict", data := .dict #[] }).get? s.heap.objs.size = some { cls := .type "dict", data := .dict #[] } := Heap.get?_push_size _ rfl
    have hD₀ : (s.heap.push { cls := .type "dict", data := .dict #[] }).DictOf (PySem.strKind G.prog G.w) s.heap.objs.size [] := Heap.DictOf.new _
    generalize s.heap.objs.size = D at *
    generalize s.heap.push { cls := .type "dict", data := .dict #[] } = h₀ at *
    have off₀ : ∀ j, j < σ.length → p.φ j ≠ D ∧ p.δ j ≠ D := fun j => R.off nD
    refine Post.map (ihP env l σ p { s with heap := h₀ } _ _ pos hn (X.step R (Stp.grow k₀)) (R.grow k₀) h) fun vs σ₁ h₁ tk₁ p₁ S₁ R₁ r₁ => ?_
    obtain ⟨us, hv, hak, hks, hvs, q'⟩ := r₁
    obtain ⟨o, e, q⟩ := opt_some q'
    clear q'
    have D₁ : h₁.DictOf (PySem.strKind G.prog G.w) D [] := DictOf.to hD₀ fun o e => S₁.kept D o e off₀ fun w => w
    have off₁ := off_step S₁ (isSome_of eD) off₀
    cases k with
    | i => exact (gdK (P := fun _ => False) e fun h => nomatch h).elim
    | t => exact (gdK (P := fun _ => False) e fun h => nomatch h).elim
    | s =>
      revert q
      refine gdK (P := fun o => Q _ (σ₁ ++ [o]) → _) e fun hc q => ?_
      refine display_done_str hak (by rw [hks]; exact hc.2.1) D₁ fun h' hD' hs' => ?_
      have kk : ∀ b o, b ≠ D → b ≠ D → h₁.get? b = some o → h'.get? b = some o := fun b o hb _ => (hs'.2 b hb).trans
      have nt : ∀ items, ¬ h₁.IsTuple D items := fun items => (DictOf.at D₁).elim fun o z => not_tup_of z.1 (z.2 ▸ by decide) _
      have kv : KV (VR G.base p₁ σ₁.length h₁) (strPairs vs) ((k0 :: kr).zip us) := hks ▸ KV.zip (hvs ▸ hv)
      refine ⟨σ₁ ++ [.dS ((k0 :: kr).zip us)], h', _, p₁.put σ₁.length D D, ((Stp.grow k₀).transN S₁).adopt nD nD kk, R₁.adopt (o := .dS ((k0 :: kr).zip us)) kk (fun items => ⟨nt items, nt items⟩) (fun j hj => ⟨off₁ j hj, off₁ j hj⟩) (R.none_of nD) (R.none_of nD)
        (fun m => ⟨rfl, _, hD', kv.mono m⟩), .ref σ₁.length, ?_, q⟩
      have z : VR G.base (p₁.put σ₁.length D D) (σ₁ ++ [AObj.dS ((k0 :: kr).zip us)]).length h' (.ref ((p₁.put σ₁.length D D).φ σ₁.length)) (.ref σ₁.length) := .ref _ (len_snoc ▸ Nat.lt_succ_self _)
      rw [(p₁.put_self σ₁.length D D).1] at z; exact z
end
end Mine
namespace Mine
open PySem PySem.W PySem.Calls PyProof.Rows

section
variable {G : G0} {fa : Fn → Addr} {K : Frag} {mg mb : Str → Option Value} {A : Around} {S : Spec} {d : Nat} {nm : Nms}
section
variable {env : Env} {l : Locs} {σ : Sto} {p : Pl} {s : Shared} {Er : Value → Shared → Prop}
theorem JE.go {e : E} {a : Expr} {Q : V → Sto → Prop} {T : Value → Shared → Prop} (ih : JE G S A e nm a) (hn : env.scope.names = nm) (X : ER G env p σ.length s.heap l) (R : Rp G p σ s.heap) (h : evE S e l σ Q)
    (k : ∀ c u σ₁ h₁ tk p₁, Stp noW p σ.length s.heap p₁ σ₁.length h₁ → Rp G p₁ σ₁ h₁ → ER G env p₁ σ₁.length h₁ l → VR G.base p₁ σ₁.length h₁ c u → Q u σ₁ → T c { s with heap := h₁, toks := tk }) : wpAny (model G.prog G.w) A (eval a env) T Er s :=
  Post.map (ih env l σ p s Q Er hn X R h) fun c σ₁ h₁ tk p₁ S₁ R₁ r => by
    obtain ⟨u, hu, q⟩ := r
    exact k c u σ₁ h₁ tk p₁ S₁ R₁ (X.step R S₁) hu q
theorem JE.end {e : E} {a : Expr} {p₀ : Pl} {σ₀ : Sto} {s₀ : Shared} {h : Heap} {tk : Nat} {Q : V → Sto → Prop} (ih : JE G S A e nm a) (hn : env.scope.names = nm) (X : ER G env p σ.length h l) (R : Rp G p σ h) (S₀ : Stp noW p₀ σ₀.length s₀.heap p σ.length h) (e : evE S e l σ Q) :
    wpAny (model G.prog G.w) A (eval a env) (Post G noW p₀ σ₀ s₀ (RE G Q)) Er { s₀ with heap := h, toks := tk } := wp_to (ih env l σ p { s₀ with heap := h, toks := tk } Q Er hn X R e) fun _ _ z => z.after S₀
theorem op_end {m : Sem Value} {p₀ : Pl} {σ₀ σ' : Sto} {s₀ : Shared} {h : Heap} {tk : Nat} {u : V} {Q : V → Sto → Prop} (S₀ : Stp noW p₀ σ₀.length s₀.heap p σ.length h) (w : wpAny (model G.prog G.w) A m (OP G p σ { s₀ with heap := h, toks := tk } u σ') Er { s₀ with heap := h, toks := tk }) (q : Q u σ') :
    wpAny (model G.prog G.w) A m (Post G noW p₀ σ₀ s₀ (RE G Q)) Er { s₀ with heap := h, toks := tk } := wp_to w fun _ _ z => (z.post q).after S₀
theorem calls_mach {es : List E} {xs : List Expr} {pos ps : Pos} {f : Value} {first : List Value} {Q : List V → Sto → Prop} {T : Value → Shared → Prop} (hx : okEs es nm xs = true) (ihs : JEs G S A es nm xs) (hn : env.scope.names = nm) (X : ER G env p σ.length s.heap l) (R : Rp G p σ s.heap) (h : evEs S es l σ Q)
    (hk : ∀ σ' p' h', Rp G p' σ' h' → Looks (model G.prog G.w) h' (keeperOf f) .machine)
    (k : ∀ cs us σ₁ h₁ tk p₁, Stp noW p σ.length s.heap p₁ σ₁.length h₁ → Rp G p₁ σ₁ h₁ → VRs G.base p₁ σ₁.length h₁ cs us → Q us σ₁ → wpAny (model G.prog G.w) A (call f (first ++ cs)) T Er { s with heap := h₁, toks := tk }) :
    wpAny (model G.prog G.w) A (callWith pos f first (backTo ps (starEach xs env)) []) T Er s := by
  refine callWith_mach (oks_plain hx) (ihs env l σ p s Q Er ps hn X R h) (fun vs s' z => ?_) fun vs s' z => ?_
  · obtain ⟨σ', h', tk', p', S', R', _⟩ := z
    exact hk σ' p' h' R'
  · obtain ⟨σ', h', tk', p', S', R', us, hv, q, _⟩ := z
    exact k vs us σ' h' tk' p' S' R' hv q
theorem calls_fn (H : PF G fa K mg mb) {es : List E} {xs : List Expr} {pos ps : Pos} {f : Fn} {first : List Value} {Q : List V → Sto → Prop} {T : Value → Shared → Prop} (hx : okEs es nm xs = true) (ihs : JEs G S A es nm xs) (hn : env.scope.names = nm) (X : ER G env p σ.length s.heap l) (R : Rp G p σ s.heap) (h : evEs S es l σ Q)
    (k : ∀ cs us σ₁ h₁ tk p₁, Stp noW p σ.length s.heap p₁ σ₁.length h₁ → Rp G p₁ σ₁ h₁ → VRs G.base p₁ σ₁.length h₁ cs us → Q us σ₁ → wpAny (model G.prog G.w) A (call (.ref (fa f)) (first ++ cs)) T Er { s with heap := h₁, toks := tk }) :
    wpAny (model G.prog G.w) A (callWith pos (.ref (fa f)) first (backTo ps (starEach xs env)) []) T Er s := by
  obtain ⟨o, fd, ho, hd⟩ := H.fn f
  refine callWith_fn (oks_plain hx) (ihs env l σ p s Q Er ps hn X R h) hd (fun vs s' z => ?_) fun vs s' z => ?_
  · obtain ⟨σ', h', tk', p', S', R', _⟩ := z
    exact R'.base _ _ ho
  · obtain ⟨σ', h', tk', p', S', R', us, hv, q, _⟩ := z
    exact k vs us σ' h' tk' p' S' R' hv q

theorem call_fn (H : PF G fa K mg mb) (HS : CallOk G fa S d) (hA : Room d A) {f : Fn} {es : List E} {xs : List Expr} {Q : V → Sto → Prop} {pos np : Pos}
    (hf : f.isFun = true) (hg : isG nm f.nm = true) (hx : okEs es nm xs = true) (ihs : JEs G S A es nm xs) (hn : env.scope.names = nm) (X : ER G env p σ.length s.heap l) (R : Rp G p σ s.heap) (h : evEs S es l σ fun vs σ => S f vs σ Q) :
    wpAny (model G.prog G.w) A (eval (.Call (.Name f.nm np) xs [] pos) env) (Post G noW p σ s (RE G Q)) Er s :=
  Call_Name rfl (ld_g H X R (hn ▸ hg) (H.gfn f hf) (fn_debug f) (calls_fn H hx ihs hn X R h fun cs us σ₁ h₁ tk p₁ S₁ R₁ hv q => wp_to (callOk_wp (s := { s with heap := h₁, toks := tk }) HS hA R₁ hv q) fun _ _ z => z.after S₁))
theorem call_me (H : PF G fa K mg mb) (HS : CallOk G fa S d) (hA : Room d A) {f : Fn} {e : E} {es : List E} {b : Expr} {xs : List Expr} {Q : V → Sto → Prop} {pos ap : Pos}
    (hb : baseX b = true) (hf : f.isMeth = true) (hl : (ap.endLine == pos.line) = true) (hn29 : xs.length < 29) (hx : okEs es nm xs = true) (ih : JE G S A e nm b) (ihs : JEs G S A es nm xs) (hn : env.scope.names = nm) (X : ER G env p σ.length s.heap l) (R : Rp G p σ s.heap)
    (h : evE S e l σ fun v σ => opt v.ref? fun n => if σ.cls n = some f.owner then evEs S es l σ fun vs σ => S f (.ref n :: vs) σ Q else False) :
    wpAny (model G.prog G.w) A (eval (.Call (.Attribute b f.nm ap) xs [] pos) env) (Post G noW p σ s (RE G Q)) Er s := by
  refine Call_meth hb (oks_plain hx) hl hn29 (ih.go hn X R h fun c u σ₁ h₁ tk₁ p₁ S₁ R₁ X₁ hu r => ?_)
  obtain ⟨n, en, r⟩ := opt_some r
  obtain ⟨rfl, hlt⟩ := hu.ref? en
  split at r
  case isFalse => exact r.elim
  rename_i hc
  obtain ⟨hm, ht⟩ := H.meth f hf
  refine op_method (s := { s with heap := h₁, toks := tk₁ }) (R₁.kin H) H.cls R₁ hm ht (H.mfd f hf) hc ?_
  refine calls_fn H (s := { s with heap := h₁, toks := tk₁ }) hx ihs hn X₁ R₁ r fun cs us σ₂ h₂ tk₂ p₂ S₂ R₂ hv q => ?_
  have hr : VR G.base p₂ σ₂.length h₂ (.ref (p₁.φ n)) (.ref n) := S₂.vr R₁ noTupW_no (.ref n hlt)
  exact wp_to (callOk_wp (s := { s with heap := h₂, toks := tk₂ }) HS hA R₂ (.cons hr hv) q) fun _ _ z => z.after (S₁.transN S₂)

theorem cmp_wp (H : PF G fa K mg mb) (hA : Room d A) {op : Cop} {a b : E} {y z : Expr} {Q : Bool → Sto → Prop} {T : Value → Shared → Prop} (iha : JE G S A a nm y) (ihb : JE G S A b nm z) (hn : env.scope.names = nm) (X : ER G env p σ.length s.heap l) (R : Rp G p σ s.heap)
    (h : evE S a l σ fun v σ => evE S b l σ fun u σ => opt (evCmp σ op v u) fun r => Q r σ) (hT : ∀ r σ₁ h₁ tk p₁, Stp noW p σ.length s.heap p₁ σ₁.length h₁ → Rp G p₁ σ₁ h₁ → Q r σ₁ → T (.bool r) { s with heap := h₁, toks := tk }) :
    wpAny (model G.prog G.w) A (eval y env) (fun v s₁ => wpAny (model G.prog G.w) A (eval z env) (fun u s₂ => wpAny (model G.prog G.w) A (compareOp (cmpOf op) v u) T Er s₂) Er s₁) Er s := by
  refine iha.go hn X R h fun c v σ₁ h₁ tk₁ p₁ S₁ R₁ X₁ hv r => ?_
  refine ihb.go (s := { s with heap := h₁, toks := tk₁ }) hn X₁ R₁ r fun c' u σ₂ h₂ tk₂ p₂ S₂ R₂ X₂ hu r => ?_
  obtain ⟨r, e, q⟩ := opt_some r
  refine wp_to (op_cmp (s := { s with heap := h₂, toks := tk₂ }) H.gok R₂ (by have := hA.units; (first | lia | omega)) (S₂.vr R₁ noTupW_no hv) hu e) fun c'' s'' z => ?_
  obtain ⟨h', tk', p', S', R', x⟩ := z
  cases x.bool_inv
  exact hT r σ₂ h' tk' p' ((S₁.transN S₂).transN S') R' q
end

/-! each construct once -/
theorem je_lit {v : Lit} {k : Nat} {pos : Pos} : JE G S A (.lit v) nm (.Constant v.const k pos) := fun env l σ p s Q Er hn X R h => by
  cases v with
  | none => exact wpAny_Constant_none (Post.same (tk := s.toks) R ⟨_, .none, h⟩)
  | bool b => exact wpAny_Constant_bool (Post.same (tk := s.toks) R ⟨_, .bool _, h⟩)
  | int i => exact wpAny_Constant_int (Post.same R ⟨_, .int _ _, h⟩)
  | str x => exact wpAny_Constant_str (Post.same R ⟨_, .str _ _, h⟩)
theorem je_loc {n : Nm} {np : Pos} (hb : bound (nm.lookup n.str) = true) : JE G S A (.loc n) nm (.Name n.str np) := fun env l σ p s Q Er hn X R h => by
  obtain ⟨v, e, q⟩ := opt_some h
  exact wpAny_Name (X.load (show bound (env.scope.names.lookup n.str) = true from hn ▸ hb) e fun c hc => Post.same (tk := s.toks) R ⟨v, hc, q⟩) (nm_debug n)
theorem je_gl (H : PF G fa K mg mb) {g : Gl} {np : Pos} (hb : isG nm g.str = true) : JE G S A (.gl g) nm (.Name g.str np) := fun env l σ p s Q Er hn X R h => by
  obtain ⟨t, ht⟩ := H.ggl g
  exact ld_g H X R (hn ▸ hb) ht (gl_debug g) (Post.same (tk := s.toks) R ⟨_, .int _ _, h⟩)
theorem attr_eval {b : Expr} (hb : baseX b = true) (attr : Str) (pos : Pos) (env : Env) : eval (.Attribute b attr pos) env = (do
    let o ← eval b env
    standAt pos.atName
    let r ← holding [o] (getAttr o attr true)
    letTemporaryGo b o r
    pure r) := baseX_el (P := fun b => eval (.Attribute b attr pos) env = (do
    let o ← eval b env
    standAt pos.atName
    let r ← holding [o] (getAttr o attr true)
    letTemporaryGo b o r
    pure r)) hb (fun _ _ => by with_unfolding_all rfl) (fun _ _ _ => rfl) fun _ _ _ => rfl
theorem temp_name {a : Expr} (ha : nameX a = true) (o r : Value) : letTemporaryGo a o r = pure () := nameX_el (P := fun a => letTemporaryGo a o r = pure ()) ha fun _ _ => rfl
theorem je_attr (H : PF G fa K mg mb) {e : E} {f : Fd} {b : Expr} {pos : Pos} (hb : baseX b = true) (ih : JE G S A e nm b) : JE G S A (.attr e f) nm (.Attribute b f.str pos) := fun env l σ p s Q Er hn X R h => by
  refine Attribute_any_ (ih.go hn X R h fun c u σ₁ h₁ tk₁ p₁ S₁ R₁ X₁ hu r => ?_) (attr_eval hb _ _ _)
  obtain ⟨n, en, r⟩ := opt_some r
  obtain ⟨w, e, q⟩ := opt_some r
  obtain ⟨rfl, hlt⟩ := hu.ref? en
  exact op_end S₁ (op_attr (s := { s with heap := h₁, toks := tk₁ }) (R₁.kin H) H.cls R₁ e) q
theorem len_line {a b c : Nat} (h1 : a = b) (h2 : c = b) (h3 : c < 100) : a ≤ sizeLine := le_line (Nat.le_trans (Nat.le_of_lt ((h1.trans h2.symm) ▸ h3)) (by decide))
theorem je_tup {es : List E} {xs : List Expr} {k : Nat} {pos : Pos} (hl : xs.length < 100) (hx : okEs es nm xs = true) (ihs : JEs G S A es nm xs) : JE G S A (.tup es) nm (.Tuple xs k pos) := fun env l σ p s Q Er hn X R h => by
  refine wpAny_Tuple (Post.map (ihs env l σ p s _ Er pos hn X R h) fun vs σ₁ h₁ tk₁ p₁ S₁ R₁ r₁ => ?_)
  obtain ⟨us, hv, q, hl'⟩ := r₁
  exact ⟨len_line hl' (oks_length hx) hl, (tuple_post (Er := Er) (s := { s with heap := h₁, toks := tk₁ }) R₁ hv q).after S₁⟩
theorem je_list {es : List E} {xs : List Expr} {pos : Pos} (hl : xs.length < 100) (hx : okEs es nm xs = true) (ihs : JEs G S A es nm xs) : JE G S A (.list es) nm (.List xs pos) := fun env l σ p s Q Er hn X R h => by
  refine wpAny_List (Post.map (ihs env l σ p s _ Er pos hn X R h) fun vs σ₁ h₁ tk₁ p₁ S₁ R₁ r₁ => ?_)
  obtain ⟨us, hv, q, hl'⟩ := r₁
  exact ⟨len_line hl' (oks_length hx) hl, (list_post (s := { s with heap := h₁, toks := tk₁ }) R₁ hv q).after S₁⟩
theorem je_idx {e i : E} {a b : Expr} {pos : Pos} (hb : plainX b = true) (iha : JE G S A e nm a) (ihb : JE G S A i nm b) : JE G S A (.idx e i) nm (.Subscript a b pos) := fun env l σ p s Q Er hn X R h => by
  refine Subscript_ (iha.go hn X R h fun c v σ₁ h₁ tk₁ p₁ S₁ R₁ X₁ hv r => ?_)
  refine ihb.go (s := { s with heap := h₁, toks := tk₁ }) hn X₁ R₁ r fun c' k σ₂ h₂ tk₂ p₂ S₂ R₂ X₂ hk r => ?_
  obtain ⟨u, e, q⟩ := opt_some r
  have hv' := S₂.vr R₁ noTupW_no hv
  obtain ⟨T, id, hT, hl⟩ := op_typeOf_idx (s := { s with heap := h₂, toks := tk₂ }) R₂ hv' e
  exact tail_any hT hl (op_end (S₁.transN S₂) (op_getIdx (s := { s with heap := h₂, toks := tk₂ }) R₂ hv' hk e) q) (subscripted_plain hb c c')
theorem je_upto {e : E} {k : Nat} {a : Expr} {kd : Nat} {cp sp pos : Pos} (ha : nameX a = true) (hk : k < 100) (iha : JE G S A e nm a) : JE G S A (.upto e k) nm (.Subscript a (.Slice none (some (.Constant (.int k) kd cp)) none sp) pos) := fun env l σ p s Q Er hn X R h => by
  refine wpAny_Subscript_Slice slot_list_getitem.lookup (iha.go hn X R h fun c v σ₁ h₁ tk₁ p₁ S₁ R₁ X₁ hv r => ?_) (temp_name ha)
  obtain ⟨q, e, r⟩ := opt_some r
  refine wpAny_Slice (wpAny_pure ?_)
  show wpAny _ _ (eval (.Constant (.int k) kd cp) env) _ _ _
  refine wpAny_Constant_int (wpAny_pure ?_)
  have k2 : ∀ b o, h₁.get? b = some o → (h₁.push { cls := .type "slice", data := .fields #[.none, .int k tk₁, .none] }).get? b = some o := fun b o e => Heap.get?_push_of_some _ e
  obtain ⟨ns, hns, _⟩ := bnd e
  have hvf := hv
  rw [V.frz?_eq hns] at hvf
  obtain ⟨a', items, rfl, ⟨o, ho, hcl, _⟩, _⟩ := hvf.frz_inv
  have S₂ : Stp noW p₁ σ₁.length h₁ p₁ σ₁.length (h₁.push { cls := .type "slice", data := .fields #[.none, .int k tk₁, .none] }) := Stp.grow k2
  exact ⟨⟨o, k2 _ _ (R₁.base _ _ ho), hcl⟩, op_end (S₁.transN S₂) (op_upto (s := { s with heap := h₁.push { cls := .type "slice", data := .fields #[.none, .int k tk₁, .none] }, toks := tk₁ + 1 }) (R₁.grow k2) hk (Heap.IsSliceOf.new ..) (S₂.vr R₁ noTupW_no hv) e) r⟩
theorem je_rev {e : E} {a : Expr} {kd : Nat} {cp up sp pos : Pos} (ha : nameX a = true) (iha : JE G S A e nm a) : JE G S A (.rev e) nm (.Subscript a (.Slice none none (some (.UnaryOp .USub (.Constant (.int 1) kd cp) up)) sp) pos) := fun env l σ p s Q Er hn X R h => by
  refine wpAny_Subscript_Slice_step slot_list_getitem.lookup (iha.go hn X R h fun c v σ₁ h₁ tk₁ p₁ S₁ R₁ X₁ hv r => ?_) (temp_name ha)
  obtain ⟨q, e, r⟩ := opt_some r
  refine wpAny_Slice (wpAny_pure (wpAny_pure ?_))
  show wpAny _ _ (eval (.UnaryOp .USub (.Constant (.int 1) kd cp) up) env) _ _ _
  refine UnaryOp_ (wpAny_Constant_int (PySem.P.neg_int ?_))
  have k2 : ∀ b o, h₁.get? b = some o → (h₁.push { cls := .type "slice", data := .fields #[.none, .none, .int (-1) (tk₁ + 1)] }).get? b = some o := fun b o e => Heap.get?_push_of_some _ e
  obtain ⟨n, hn', e'⟩ := bnd e
  obtain ⟨xs, hl, _⟩ := bnd e'
  obtain ⟨rfl, hlt⟩ := hv.ref? hn'
  obtain ⟨_, _, its, k₀, h0, _⟩ := lst_get R₁ hl
  have S₂ : Stp noW p₁ σ₁.length h₁ p₁ σ₁.length (h₁.push { cls := .type "slice", data := .fields #[.none, .none, .int (-1) (tk₁ + 1)] }) := Stp.grow k2
  exact ⟨⟨_, k2 _ _ h0, rfl⟩, op_end (S₁.transN S₂) (op_rev (s := { s with heap := h₁.push { cls := .type "slice", data := .fields #[.none, .none, .int (-1) (tk₁ + 1)] }, toks := tk₁ + 1 + 1 }) (R₁.grow k2) (Heap.IsSliceOf.new ..) (S₂.vr R₁ noTupW_no hv) e) r⟩
theorem je_neg {k kd : Nat} {cp up : Pos} : JE G S A (.neg k) nm (.UnaryOp .USub (.Constant (.int k) kd cp) up) := fun env l σ p s Q Er hn X R h => UnaryOp_ (wpAny_Constant_int (PySem.P.neg_int (Post.same R ⟨_, .int _ _, h⟩)))
theorem je_cmp (H : PF G fa K mg mb) (hA : Room d A) {op : Cop} {a b : E} {y z : Expr} {pos : Pos} (hz : plainX z = true) (iha : JE G S A a nm y) (ihb : JE G S A b nm z) : JE G S A (.cmp op a b) nm (.Compare y [cmpOf op] [z] pos) := fun env l σ p s Q Er hn X R h =>
  wpAny_Compare1 (cmp_wp (Q := fun r σ => Q (.bool r) σ) H hA iha ihb hn X R h fun r σ₁ h₁ tk p₁ S₁ R₁ q => ⟨σ₁, h₁, tk, p₁, S₁, R₁, .bool r, .bool r, q⟩) (behind_plain hz)
theorem je_and {a b : E} {y z : Expr} {pos : Pos} (iha : JE G S A a nm y) (ihb : JE G S A b nm z) : JE G S A (.and a b) nm (.BoolOp .And [y, z] pos) := fun env l σ p s Q Er hn X R h => by
  refine BoolOp_and (iha.go hn X R h fun c v σ₁ h₁ tk₁ p₁ S₁ R₁ X₁ hv r => ?_)
  obtain ⟨t, et, r⟩ := opt_some r
  cases V.bool?_eq et
  cases hv.bool_inv
  cases t with
  | false => exact wpAny_truthy_bool (show Post G noW p σ s (RE G Q) (.bool false) _ from ⟨σ₁, h₁, tk₁, p₁, S₁, R₁, _, .bool _, r⟩)
  | true => exact wpAny_truthy_bool (show wpAny _ _ _ _ _ _ from BoolOp_one (ihb.end hn X₁ R₁ S₁ r))
theorem je_or {a b : E} {y z : Expr} {pos : Pos} (iha : JE G S A a nm y) (ihb : JE G S A b nm z) : JE G S A (.or a b) nm (.BoolOp .Or [y, z] pos) := fun env l σ p s Q Er hn X R h => by
  refine BoolOp_or (iha.go hn X R h fun c v σ₁ h₁ tk₁ p₁ S₁ R₁ X₁ hv r => ?_)
  obtain ⟨t, et, r⟩ := opt_some r
  cases V.bool?_eq et
  cases hv.bool_inv
  cases t with
  | true => exact wpAny_truthy_bool (show Post G noW p σ s (RE G Q) (.bool true) _ from ⟨σ₁, h₁, tk₁, p₁, S₁, R₁, _, .bool _, r⟩)
  | false => exact wpAny_truthy_bool (show wpAny _ _ _ _ _ _ from BoolOp_one (ihb.end hn X₁ R₁ S₁ r))
theorem je_ite {c a b : E} {t y z : Expr} {pos : Pos} (iht : JT G S A c nm t) (iha : JE G S A a nm y) (ihb : JE G S A b nm z) : JE G S A (.ite c a b) nm (.IfExp t y z pos) := fun env l σ p s Q Er hn X R h => by
  refine IfExp_ (Post.map (iht env l σ p s _ Er hn X R h) fun r σ₁ h₁ tk₁ p₁ S₁ R₁ r₁ => ?_)
  cases r with
  | true => exact iha.end hn (X.step R S₁) R₁ S₁ r₁
  | false => exact ihb.end hn (X.step R S₁) R₁ S₁ r₁
theorem je_bin {op : Bop} {a b : E} {y z : Expr} {pos : Pos} (iha : JE G S A a nm y) (ihb : JE G S A b nm z) : JE G S A (.bin op a b) nm (.BinOp y (opOf op) z pos) := fun env l σ p s Q Er hn X R h => by
  refine wpAny_BinOp (iha.go hn X R h fun c v σ₁ h₁ tk₁ p₁ S₁ R₁ X₁ hv r => ?_)
  refine ihb.go (s := { s with heap := h₁, toks := tk₁ }) hn X₁ R₁ r fun c' k σ₂ h₂ tk₂ p₂ S₂ R₂ X₂ hk r => ?_
  obtain ⟨u, e, q⟩ := opt_some r
  exact op_end (S₁.transN S₂) (op_bin (s := { s with heap := h₂, toks := tk₂ }) R₂ (S₂.vr R₁ noTupW_no hv) hk e) q
theorem je_new (H : PF G fa K mg mb) (HS : CallOk G fa S d) (hA : Room d A) {c : Cls} {es : List E} {xs : List Expr} {np pos : Pos} (hg : isG nm c.str = true) (hx : okEs es nm xs = true) (ihs : JEs G S A es nm xs) : JE G S A (.new c es) nm (.Call (.Name c.str np) xs [] pos) := fun env l σ p s Q Er hn X R h => by
  refine Call_Name rfl (ld_g H X R (hn ▸ hg) (H.gcl c) (cls_debug c) ?_)
  refine calls_mach hx ihs hn X R h (fun _ _ _ R' => keeper_cls (R'.kin H) (H.mks c)) fun cs us σ₁ h₁ tk₁ p₁ S₁ R₁ hv q => ?_
  have hi : findIn K (.ref (G.ca c)) "__init__" = some (some (.ref (fa c.init))) ∧ typeIn K (.ref (fa c.init)) = some (.type "function") := by
    cases c
    · exact ⟨H.init.1, H.init.2.1⟩
    · exact H.init.2.2
  exact wp_to (new_step (s := { s with heap := h₁, toks := tk₁ }) H HS hA R₁ hi.1 hi.2 hv q) fun _ _ z => z.after S₁
theorem je_bi (H : PF G fa K mg mb) (hA : Room d A) {b : Bi} {es : List E} {xs : List Expr} {np pos : Pos} (hg : isG nm b.nam = true) (hx : okEs es nm xs = true) (ihs : JEs G S A es nm xs) : JE G S A (.bi b es) nm (.Call (.Name b.nam np) xs [] pos) := fun env l σ p s Q Er hn X R h => by
  obtain ⟨g1, g2⟩ := H.gbi b
  refine Call_Name rfl (ld_b H X R (hn ▸ hg) g1 g2 (bi_debug b) ?_)
  refine calls_mach hx ihs hn X R h (fun _ _ _ _ => by cases b <;> first | exact keeper_builtin | exact keeper_type) fun cs us σ₁ h₁ tk₁ p₁ S₁ R₁ hv r => ?_
  obtain ⟨q, e, r⟩ := opt_some r
  exact op_end S₁ (op_bi (s := { s with heap := h₁, toks := tk₁ }) H.gok R₁ hA.handled hv e) r
theorem je_sortedset (H : PF G fa K mg mb) (hA : Room d A) {e : E} {z : Expr} {np np' pos pos' : Pos} (hg : isG nm "sorted" = true) (hg' : isG nm "set" = true) (hz : plainX z = true) (ih : JE G S A e nm z) :
    JE G S A (.sortedset e) nm (.Call (.Name "sorted" np) [.Call (.Name "set" np') [z] [] pos'] [] pos) := fun env l σ p s Q Er hn X R h => by
  refine Call_Name rfl (ld_b H X R (hn ▸ hg) (H.gbi .sorted).1 (H.gbi .sorted).2 (by decide +kernel) ?_)
  refine callWith_mach (xs := [.Call (.Name "set" np') [z] [] pos']) (T := fun vs s' => ∃ d, vs = [d] ∧ wpAny (model G.prog G.w) A (call (.builtin "sorted") [d]) (Post G noW p σ s (RE G Q)) Er s') rfl ?_ (fun vs s' z => keeper_builtin) fun vs s' z => ?_
  · refine wpAny_items_cons (Call_Name rfl (ld_b H X R (hn ▸ hg') H.gset.1 H.gset.2 (by decide +kernel) ?_)) rfl
    have hz1 : ([z] : List Expr).all plainX = true := by rw [List.all_cons, hz]; rfl
    refine callWith_mach hz1 (T := fun cs s' => ∃ c, cs = [c] ∧ wpAny (model G.prog G.w) A (call (.type "set") [c]) (fun d s' => wpAny (model G.prog G.w) A (call (.builtin "sorted") [d]) (Post G noW p σ s (RE G Q)) Er s') Er s') ?_ (fun vs s' z => keeper_type) fun vs s' w => ?_
    · refine wpAny_items_cons (ih.go hn X R h fun c v σ₁ h₁ tk₁ p₁ S₁ R₁ X₁ hv r => wpAny_items_nil ⟨c, rfl, ?_⟩) (star_cons hz [] env)
      obtain ⟨q, e, r⟩ := opt_some r
      exact wp_to (op_sortedset (s := { s with heap := h₁, toks := tk₁ }) H.gok R₁ hA.handled hv e) fun d s' z => wp_to z fun _ _ z => (z.post r).after S₁
    · obtain ⟨c, rfl, w⟩ := w
      exact wp_to w fun d s' z => wpAny_items_nil ⟨d, rfl, z⟩
  · obtain ⟨d, rfl, z⟩ := z
    exact z
theorem je_lm (H : PF G fa K mg mb) (hA : Room d A) {m : Lm} {e : E} {es : List E} {b : Expr} {xs : List Expr} {ap pos : Pos} (hb : baseX b = true) (hl : (ap.endLine == pos.line) = true) (hn29 : xs.length < 29) (hx : okEs es nm xs = true) (ih : JE G S A e nm b) (ihs : JEs G S A es nm xs) :
    JE G S A (.lm m e es) nm (.Call (.Attribute b m.str ap) xs [] pos) := fun env l σ p s Q Er hn X R h => by
  refine Call_meth hb (oks_plain hx) hl hn29 (ih.go hn X R h fun c u σ₁ h₁ tk₁ p₁ S₁ R₁ X₁ hu r => ?_)
  split at r
  case isFalse => exact r.elim
  rename_i hm
  refine op_getm (s := { s with heap := h₁, toks := tk₁ }) R₁ hu hm ?_
  refine calls_mach (s := { s with heap := h₁, toks := tk₁ }) hx ihs hn X₁ R₁ r (fun _ _ _ _ => keeper_builtin) fun cs us σ₂ h₂ tk₂ p₂ S₂ R₂ hv r => ?_
  obtain ⟨q, e, r⟩ := opt_some r
  exact op_end (S₁.transN S₂) (op_lm (s := { s with heap := h₂, toks := tk₂ }) H.gok R₂ (by have := hA.units; (first | lia | omega)) (S₂.vr R₁ noTupW_no hu) hv e) r
theorem je_fstr {a b : String} {e : E} {y : Expr} {uk vk : Nat} {up yp vp pos : Pos} (ha : (Str.ofString a).length < 100) (hb : (Str.ofString b).length < 100) (ih : JE G S A e nm y) :
    JE G S A (.fstr a e b) nm (.JoinedStr [.Constant (.str (Str.ofString a)) uk up, .FormattedValue y (-1) none yp, .Constant (.str (Str.ofString b)) vk vp] pos) := fun env l σ p s Q Er hn X R h => by
  refine wpAny_JoinedStr ?_
  show wpAny _ _ (eval (.Constant (.str (Str.ofString a)) uk up) env) _ _ _
  refine wpAny_Constant_str ⟨_, _, rfl, ?_, ?_⟩
  · rw [Str.empty_append]; exact le_line (Nat.le_trans (Nat.le_of_lt ha) (by decide))
  show wpAny _ _ (eval (.FormattedValue y (-1) none yp) env) _ _ _
  refine wpAny_FormattedValue_plain (ih.go (s := { s with toks := s.toks + 1 }) hn X R h fun c v σ₁ h₁ tk₁ p₁ S₁ R₁ X₁ hv r => ?_)
  obtain ⟨w, e, q⟩ := opt_some r
  obtain ⟨i, hi, e⟩ := bnd e
  obtain ⟨t, rfl⟩ := hv.int? hi
  obtain ⟨hi, rfl⟩ := gdK (P := fun w => (0 ≤ i ∧ i < 10 ^ 9) ∧ w = .str (Str.ofString a ++ Str.ofString (toString i) ++ Str.ofString b)) e fun h => ⟨h, rfl⟩
  have hab : i.natAbs < 10 ^ 9 := by (first | lia | omega)
  have hlen : (Str.ofString (toString i)).length ≤ 20 := by
    have e := int_text_length_le10 (k := 9) (by decide) hab
    rw [PySem.ofString_length]; (first | lia | omega)
  have l2 : (Str.empty ++ Str.ofString a ++ Str.ofString (toString i)).length ≤ 120 := by rw [Str.empty_append, strLen_append]; (first | lia | omega)
  have l3 : (Str.empty ++ Str.ofString a ++ Str.ofString (toString i) ++ Str.ofString b).length ≤ 220 := by rw [strLen_append]; (first | lia | omega)
  refine wpAny_formatField_int (log2_small hab) ⟨_, _, rfl, le_line (Nat.le_trans l2 (by decide)), ?_⟩
  show wpAny _ _ (eval (.Constant (.str (Str.ofString b)) vk vp) env) _ _ _
  refine wpAny_Constant_str ⟨_, _, rfl, le_line (Nat.le_trans l3 (by decide)), le_line (Nat.le_trans l3 (by decide)), ?_⟩
  refine ⟨σ₁, h₁, _, p₁, S₁, R₁, _, ?_, q⟩
  rw [Str.empty_append]
  exact .str _ _

theorem jes_nil : JEs G S A [] nm [] := fun env l σ p s Q Er ps hn X R h => wpAny_items_nil ⟨σ, s.heap, s.toks, p, .refl, R, [], .nil, h, rfl⟩
theorem jes_cons {e : E} {r : List E} {x : Expr} {ys : List Expr} (hx : plainX x = true) (ih : JE G S A e nm x) (ihs : JEs G S A r nm ys) : JEs G S A (e :: r) nm (x :: ys) := fun env l σ p s Q Er ps hn X R h => by
  refine wpAny_items_cons (ih.go hn X R h fun c v σ₁ h₁ tk₁ p₁ S₁ R₁ X₁ hv r => ?_) (star_cons hx ys env)
  refine wp_to (ihs env l σ₁ p₁ { s with heap := h₁, toks := tk₁ } _ Er ps hn X₁ R₁ r) fun cs s' z => ?_
  obtain ⟨σ', h', tk', p', S', R', us, hus, q, hl⟩ := z
  exact ⟨σ', h', tk', p', S₁.transN S', R', v :: us, .cons (S'.vr R₁ noTupW_no hv) hus, q, congrArg Nat.succ hl⟩
theorem jps_nil {ks : List Str} {keys : List (Option Expr)} (hk : okKeys ks keys = true) (hl : ks.length = 0) : JPs G S A [] nm ks keys [] := fun env l σ p s Q Er ps hn X R h => by
  cases List.eq_nil_of_length_eq_zero hl
  cases List.eq_nil_of_length_eq_zero (okKeys_some hk).2
  exact pairTrees_nil_walk ⟨σ, s.heap, s.toks, p, .refl, R, [], .nil, rfl, rfl, rfl, h⟩
theorem jps_cons {e : E} {r : List E} {k : Str} {kr : List Str} {keyr : List (Option Expr)} {x : Expr} {ys : List Expr} {kk : Nat} {kp : Pos} (ih : JE G S A e nm x) (ihs : JPs G S A r nm kr keyr ys) : JPs G S A (e :: r) nm (k :: kr) (some (.Constant (.str k) kk kp) :: keyr) (x :: ys) := fun env l σ p s Q Er ps hn X R h => by
  refine pairTrees_cons_walk (wpAny_Constant_str ?_)
  refine ih.go (s := { s with toks := s.toks + 1 }) hn X R h fun c v σ₁ h₁ tk₁ p₁ S₁ R₁ X₁ hv r => ?_
  refine wp_to (ihs env l σ₁ p₁ { s with heap := h₁, toks := tk₁ } _ Er ps hn X₁ R₁ r) fun cs s' z => ?_
  obtain ⟨σ', h', tk', p', S', R', us, hus, h1, h2, h3, q⟩ := z
  exact ⟨σ', h', tk', p', S₁.transN S', R', v :: us, .cons (S'.vr R₁ noTupW_no hv) hus, h1, by simp [strPairs, h2], by simp [strPairs, h3], q⟩
theorem jts_nil : JTs G S A [] nm [] := fun env l σ p s Q Er hn X R h => wpAny_tests_nil ⟨σ, s.heap, s.toks, p, .refl, R, h⟩
theorem jts_cons {e : E} {r : List E} {x : Expr} {ys : List Expr} (ih : JT G S A e nm x) (ihs : JTs G S A r nm ys) : JTs G S A (e :: r) nm (x :: ys) := fun env l σ p s Q Er hn X R h => by
  unfold tests
  rw [List.forIn_cons, if_pos rfl]
  refine wpAny_bind (wpAny_bind (Post.map (ih env l σ p s _ Er hn X R h) fun b σ₁ h₁ tk₁ p₁ S₁ R₁ r₁ => wpAny_pure ?_))
  cases b with
  | true => exact wp_to (ihs env l σ₁ p₁ { s with heap := h₁, toks := tk₁ } _ Er hn (X.step R S₁) R₁ r₁) fun _ _ z => z.after S₁
  | false => exact wpAny_of_eq (tests_false env ys) (show Post G noW p σ s (RB Q) false _ from ⟨σ₁, h₁, tk₁, p₁, S₁, R₁, r₁⟩)
theorem jt_not {e : E} {z : Expr} {pos : Pos} (ih : JT G S A e nm z) : JT G S A (.not e) nm (.UnaryOp .Not z pos) := fun env l σ p s Q Er hn X R h => isTrue_not (Post.map (ih env l σ p s _ Er hn X R h) fun b σ₁ h₁ tk₁ p₁ S₁ R₁ r₁ => ⟨σ₁, h₁, tk₁, p₁, S₁, R₁, r₁⟩)
theorem jt_and {a b : E} {y z : Expr} {pos : Pos} (iha : JT G S A a nm y) (ihb : JT G S A b nm z) : JT G S A (.and a b) nm (.BoolOp .And [y, z] pos) := fun env l σ p s Q Er hn X R h => by
  refine isTrue_and (Post.map (iha env l σ p s _ Er hn X R h) fun t σ₁ h₁ tk₁ p₁ S₁ R₁ r₁ => ?_)
  cases t with
  | false => exact ⟨σ₁, h₁, tk₁, p₁, S₁, R₁, r₁⟩
  | true =>
    refine isTrue_and (Post.map (ihb env l σ₁ p₁ { s with heap := h₁, toks := tk₁ } _ Er hn (X.step R S₁) R₁ r₁) fun t σ₂ h₂ tk₂ p₂ S₂ R₂ r₂ => ?_)
    cases t with
    | false => exact ⟨σ₂, h₂, tk₂, p₂, S₁.transN S₂, R₂, r₂⟩
    | true => exact isTrue_and_nil ⟨σ₂, h₂, tk₂, p₂, S₁.transN S₂, R₂, r₂⟩
theorem jt_or {a b : E} {y z : Expr} {pos : Pos} (iha : JT G S A a nm y) (ihb : JT G S A b nm z) : JT G S A (.or a b) nm (.BoolOp .Or [y, z] pos) := fun env l σ p s Q Er hn X R h => by
  refine isTrue_or (Post.map (iha env l σ p s _ Er hn X R h) fun t σ₁ h₁ tk₁ p₁ S₁ R₁ r₁ => ?_)
  cases t with
  | true => exact ⟨σ₁, h₁, tk₁, p₁, S₁, R₁, r₁⟩
  | false =>
    refine isTrue_or (Post.map (ihb env l σ₁ p₁ { s with heap := h₁, toks := tk₁ } _ Er hn (X.step R S₁) R₁ r₁) fun t σ₂ h₂ tk₂ p₂ S₂ R₂ r₂ => ?_)
    cases t with
    | true => exact ⟨σ₂, h₂, tk₂, p₂, S₁.transN S₂, R₂, r₂⟩
    | false => exact isTrue_or_nil ⟨σ₂, h₂, tk₂, p₂, S₁.transN S₂, R₂, r₂⟩
theorem jt_cmp (H : PF G fa K mg mb) (hA : Room d A) {op : Cop} {a b : E} {y z : Expr} {pos : Pos} (hz : plainX z = true) (iha : JE G S A a nm y) (ihb : JE G S A b nm z) : JT G S A (.cmp op a b) nm (.Compare y [cmpOf op] [z] pos) := fun env l σ p s Q Er hn X R h =>
  wpAny_isTrue_Compare1 (cmp_wp H hA iha ihb hn X R h fun r σ₁ h₁ tk p₁ S₁ R₁ q => wpAny_truthy_bool (show Post G noW p σ s (RB Q) r _ from ⟨σ₁, h₁, tk, p₁, S₁, R₁, q⟩)) (behind_plain hz)
theorem jt_loc {n : Nm} {np : Pos} (hb : bound (nm.lookup n.str) = true) : JT G S A (.loc n) nm (.Name n.str np) := fun env l σ p s Q Er hn X R h => by
  obtain ⟨v, e, q⟩ := opt_some h
  obtain ⟨t, et, q⟩ := opt_some q
  cases V.bool?_eq et
  refine isTrue_plain (wpAny_Name (X.load (show bound (env.scope.names.lookup n.str) = true from hn ▸ hb) e fun c hc => ?_) (nm_debug n))
  cases hc.bool_inv
  exact wpAny_truthy_bool (Post.same (tk := s.toks) R q)
theorem jt_of {x : Expr} {env : Env} {σ : Sto} {p : Pl} {s : Shared} {Er : Value → Shared → Prop} {Q : Bool → Sto → Prop} (hx : ∀ {T : Bool → Shared → Prop}, wpAny (model G.prog G.w) A (eval x env) (fun v s₁ => wpAny (model G.prog G.w) A (truthy v) T Er s₁) Er s → wpAny (model G.prog G.w) A (isTrue x env (eval x env)) T Er s)
    (w : wpAny (model G.prog G.w) A (eval x env) (Post G noW p σ s (RE G fun v σ => opt v.bool? fun b => Q b σ)) Er s) : wpAny (model G.prog G.w) A (isTrue x env (eval x env)) (Post G noW p σ s (RB Q)) Er s :=
  hx (Post.map w fun c σ₁ h₁ tk₁ p₁ S₁ R₁ r => by
    obtain ⟨v, hv, q⟩ := r
    obtain ⟨t, et, q⟩ := opt_some q
    cases V.bool?_eq et
    cases hv.bool_inv
    exact wpAny_truthy_bool (show Post G noW p σ s (RB Q) t _ from ⟨σ₁, h₁, tk₁, p₁, S₁, R₁, q⟩))
theorem jt_call (H : PF G fa K mg mb) (HS : CallOk G fa S d) (hA : Room d A) {f : Fn} {es : List E} {xs : List Expr} {np pos : Pos} (hf : f.isFun = true) (hg : isG nm f.nm = true) (hx : okEs es nm xs = true) (ihs : JEs G S A es nm xs) : JT G S A (.call f es) nm (.Call (.Name f.nm np) xs [] pos) :=
  fun env l σ p s Q Er hn X R h => jt_of isTrue_plain (call_fn H HS hA hf hg hx ihs hn X R h)
theorem jt_meth (H : PF G fa K mg mb) (HS : CallOk G fa S d) (hA : Room d A) {f : Fn} {e : E} {es : List E} {b : Expr} {xs : List Expr} {ap pos : Pos} (hb : baseX b = true) (hf : f.isMeth = true) (hl : (ap.endLine == pos.line) = true) (hn29 : xs.length < 29) (hx : okEs es nm xs = true) (ih : JE G S A e nm b) (ihs : JEs G S A es nm xs) :
    JT G S A (.meth e f es) nm (.Call (.Attribute b f.nm ap) xs [] pos) := fun env l σ p s Q Er hn X R h => jt_of isTrue_plain (call_me H HS hA hb hf hl hn29 hx ih ihs hn X R h)

mutual
theorem sE (H : PF G fa K mg mb) (HS : CallOk G fa S d) (hA : Room d A) : ∀ (e : E) (nm : Nms) (x : Expr), okE e nm x = true → JE G S A e nm x
  | .lit v, nm, x, hok => onConst_el (P := JE G S A _ nm) hok fun c ck pos hok => by rw [of_decide_eq_true hok]; exact je_lit
  | .loc n, nm, x, hok => onNm_el (P := JE G S A _ nm) hok fun _ h => je_loc h
  | .gl g, nm, x, hok => onNm_el (P := JE G S A _ nm) hok fun _ h => je_gl H h
  | .attr e f, nm, x, hok => onAttrM_el (P := JE G S A _ nm) hok fun b _ h => je_attr H (and2 h).1 (sE H HS hA e nm b (and2 h).2)
  | .tup es, nm, x, hok => onTuple_el (P := JE G S A _ nm) hok fun xs _ _ h => je_tup (of_decide_eq_true (and2 h).1) (and2 h).2 (sEs H HS hA es nm xs (and2 h).2)
  | .list es, nm, x, hok => onList_el (P := JE G S A _ nm) hok fun xs _ h => je_list (of_decide_eq_true (and2 h).1) (and2 h).2 (sEs H HS hA es nm xs (and2 h).2)
  | .dict k ks es, nm, x, hok => onDict_el (P := JE G S A _ nm) hok fun keys vals pos h => by
    obtain ⟨h1, h⟩ := and2 h
    obtain ⟨h2, h⟩ := and2 h
    obtain ⟨h3, h4⟩ := and2 h
    exact fun env l σ p s Q Er hn X R h => dict_wp ks keys vals (sPs H HS hA es nm ks keys vals h3 (of_decide_eq_true h1) h4) h3 (oks_length h4) (of_decide_eq_true h1) (of_decide_eq_true h2) hn X R h
  | .idx e i, nm, x, hok => onSub_el (P := JE G S A _ nm) hok fun a b _ h => je_idx (ok_plain (and2 h).2) (sE H HS hA e nm a (and2 h).1) (sE H HS hA i nm b (and2 h).2)
  | .upto e k, nm, x, hok => onSub_el (P := JE G S A _ nm) hok fun a sl pos h => onSlice_el (P := fun sl => JE G S A _ nm (.Subscript a sl pos)) h fun lw up st sp h => onNone_el (P := fun lw => JE G S A _ nm (.Subscript a (.Slice lw up st sp) pos)) h fun h =>
      onSome_el (P := fun up => JE G S A _ nm (.Subscript a (.Slice none up st sp) pos)) h fun cx h => onIntI_el (P := fun cx => JE G S A _ nm (.Subscript a (.Slice none (some cx) st sp) pos)) h fun kd cp h =>
      onNone_el (P := fun st => JE G S A _ nm (.Subscript a (.Slice none (some (.Constant (.int k) kd cp)) st sp) pos)) h fun h => je_upto (and2 h).1 (of_decide_eq_true (and2 (and2 h).2).1) (sE H HS hA e nm a (and2 (and2 h).2).2)
  | .rev e, nm, x, hok => onSub_el (P := JE G S A _ nm) hok fun a sl pos h => onSlice_el (P := fun sl => JE G S A _ nm (.Subscript a sl pos)) h fun lw up st sp h => onNone_el (P := fun lw => JE G S A _ nm (.Subscript a (.Slice lw up st sp) pos)) h fun h =>
      onNone_el (P := fun up => JE G S A _ nm (.Subscript a (.Slice none up st sp) pos)) h fun h => onSome_el (P := fun st => JE G S A _ nm (.Subscript a (.Slice none none st sp) pos)) h fun cx h =>
      onUnO_el (P := fun cx => JE G S A _ nm (.Subscript a (.Slice none none (some cx) sp) pos)) h fun z up h => onIntI_el (P := fun z => JE G S A _ nm (.Subscript a (.Slice none none (some (.UnaryOp .USub z up)) sp) pos)) h fun kd cp h => je_rev (and2 h).1 (sE H HS hA e nm a (and2 h).2)
  | .neg k, nm, x, hok => onUnO_el (P := JE G S A _ nm) hok fun z up h => onIntI_el (P := fun z => JE G S A _ nm (.UnaryOp .USub z up)) h fun _ _ _ => je_neg
  | .not e, nm, x, hok => no_true hok
  | .cmp op a b, nm, x, hok => onCmp1_el (P := JE G S A _ nm) hok fun y z _ h => je_cmp H hA (ok_plain (and2 h).2) (sE H HS hA a nm y (and2 h).1) (sE H HS hA b nm z (and2 h).2)
  | .and a b, nm, x, hok => onBool2_el (P := JE G S A _ nm) hok fun y z _ h => je_and (sE H HS hA a nm y (and2 h).1) (sE H HS hA b nm z (and2 h).2)
  | .or a b, nm, x, hok => onBool2_el (P := JE G S A _ nm) hok fun y z _ h => je_or (sE H HS hA a nm y (and2 h).1) (sE H HS hA b nm z (and2 h).2)
  | .ite c a b, nm, x, hok => onIfE_el (P := JE G S A _ nm) hok fun t y z _ h => je_ite (sT H HS hA c nm t (and2 h).1) (sE H HS hA a nm y (and2 (and2 h).2).1) (sE H HS hA b nm z (and2 (and2 h).2).2)
  | .bin op a b, nm, x, hok => onBinO_el (P := JE G S A _ nm) hok fun y z _ h => je_bin (sE H HS hA a nm y (and2 h).1) (sE H HS hA b nm z (and2 h).2)
  | .call f es, nm, x, hok => onCallNm_el (P := JE G S A _ nm) hok fun np xs pos h => fun env l σ p s Q Er hn X R e => call_fn H HS hA (and2 h).1 (and2 (and2 h).2).1 (and2 (and2 h).2).2 (sEs H HS hA es nm xs (and2 (and2 h).2).2) hn X R e
  | .new c es, nm, x, hok => onCallNm_el (P := JE G S A _ nm) hok fun np xs pos h => je_new H HS hA (and2 h).1 (and2 h).2 (sEs H HS hA es nm xs (and2 h).2)
  | .meth e f es, nm, x, hok => onCallAm_el (P := JE G S A _ nm) hok fun b ap xs pos h => by
    obtain ⟨hb, h⟩ := and2 h
    obtain ⟨hf, h⟩ := and2 h
    obtain ⟨hl, h⟩ := and2 h
    obtain ⟨h29, h⟩ := and2 h
    obtain ⟨he, hx⟩ := and2 h
    exact fun env l σ p s Q Er hn X R h => call_me H HS hA hb hf hl (of_decide_eq_true h29) hx (sE H HS hA e nm b he) (sEs H HS hA es nm xs hx) hn X R h
  | .bi b es, nm, x, hok => onCallNm_el (P := JE G S A _ nm) hok fun np xs pos h => je_bi H hA (and2 h).1 (and2 h).2 (sEs H HS hA es nm xs (and2 h).2)
  | .sortedset e, nm, x, hok => onCallNm_el (P := JE G S A _ nm) hok fun np xs pos h => on1_el (P := fun xs => JE G S A _ nm (.Call (.Name "sorted" np) xs [] pos)) h fun cx h =>
      onCallNm_el (P := fun cx => JE G S A _ nm (.Call (.Name "sorted" np) [cx] [] pos)) h fun np' zs pos' h => on1_el (P := fun zs => JE G S A _ nm (.Call (.Name "sorted" np) [.Call (.Name "set" np') zs [] pos'] [] pos)) h fun z h =>
      je_sortedset H hA (and2 h).1 (and2 (and2 h).2).1 (ok_plain (and2 (and2 h).2).2) (sE H HS hA e nm z (and2 (and2 h).2).2)
  | .lm m e es, nm, x, hok => onCallAm_el (P := JE G S A _ nm) hok fun b ap xs pos h => by
    obtain ⟨hb, h⟩ := and2 h
    obtain ⟨hl, h⟩ := and2 h
    obtain ⟨h29, h⟩ := and2 h
    obtain ⟨he, hx⟩ := and2 h
    exact je_lm H hA hb hl (of_decide_eq_true h29) hx (sE H HS hA e nm b he) (sEs H HS hA es nm xs hx)
  | .comp elt y it ifs, nm, x, hok => onLC_el (P := JE G S A _ nm) hok fun el gs sc pos h => on1_el (P := fun gs => JE G S A _ nm (.ListComp el gs sc pos)) h fun g h => onComp_el (P := fun g => JE G S A _ nm (.ListComp el [g] sc pos)) h fun tg ix fx ga h =>
      onNm_el (P := fun tg => JE G S A _ nm (.ListComp el [⟨tg, ix, fx, ga⟩] sc pos)) h fun zp h => isK (P := fun ga => JE G S A _ nm (.ListComp el [⟨.Name y.str zp, ix, fx, ga⟩] sc pos)) h fun h => by
    obtain ⟨hsc, h⟩ := and2 h
    obtain ⟨hi, h⟩ := and2 h
    obtain ⟨hel, hfx⟩ := and2 h
    intro env l σ p s Q Er hn X R e
    subst hn
    exact lc_eval (gens := [⟨.Name y.str zp, ix, fx, 0⟩]) rfl (ok_plain hi) X (okSc_of hsc) (comp1_blk hA.handled (sE H HS hA it _ ix hi) (sE H HS hA elt _ el hel) (sTs H HS hA ifs _ fx hfx) (okSc_of hsc) X R e)
  | .comp2 elt y it y2 it2 ifs, nm, x, hok => onLC_el (P := JE G S A _ nm) hok fun el gs sc pos h => on2_el (P := fun gs => JE G S A _ nm (.ListComp el gs sc pos)) h fun g g2 h => onComp_el (P := fun g => JE G S A _ nm (.ListComp el [g, g2] sc pos)) h fun tg ix gf ga h =>
      onComp_el (P := fun g2 => JE G S A _ nm (.ListComp el [⟨tg, ix, gf, ga⟩, g2] sc pos)) h fun tg2 ix2 fx ga2 h => onNm_el (P := fun tg => JE G S A _ nm (.ListComp el [⟨tg, ix, gf, ga⟩, ⟨tg2, ix2, fx, ga2⟩] sc pos)) h fun zp h =>
      onNm_el (P := fun tg2 => JE G S A _ nm (.ListComp el [⟨.Name y.str zp, ix, gf, ga⟩, ⟨tg2, ix2, fx, ga2⟩] sc pos)) h fun zp2 h => onNil_el (P := fun gf => JE G S A _ nm (.ListComp el [⟨.Name y.str zp, ix, gf, ga⟩, ⟨.Name y2.str zp2, ix2, fx, ga2⟩] sc pos)) h fun h =>
      isK (P := fun ga => JE G S A _ nm (.ListComp el [⟨.Name y.str zp, ix, [], ga⟩, ⟨.Name y2.str zp2, ix2, fx, ga2⟩] sc pos)) h fun h => isK (P := fun ga2 => JE G S A _ nm (.ListComp el [⟨.Name y.str zp, ix, [], 0⟩, ⟨.Name y2.str zp2, ix2, fx, ga2⟩] sc pos)) h fun h => by
    obtain ⟨hsc, h⟩ := and2 h
    obtain ⟨hi, h⟩ := and2 h
    obtain ⟨hi2, h⟩ := and2 h
    obtain ⟨hel, hfx⟩ := and2 h
    intro env l σ p s Q Er hn X R e
    subst hn
    exact lc_eval (gens := [⟨.Name y.str zp, ix, [], 0⟩, ⟨.Name y2.str zp2, ix2, fx, 0⟩]) rfl (ok_plain hi) X (okSc_of hsc) (comp2_blk hA.handled (ok_plain hi2) (sE H HS hA it _ ix hi) (sE H HS hA it2 _ ix2 hi2) (sE H HS hA elt _ el hel) (sTs H HS hA ifs _ fx hfx) (okSc_of hsc) X R e)
  | .fstr a e b, nm, x, hok => onJs_el (P := JE G S A _ nm) hok fun vs pos h => onCons_el (P := fun vs => JE G S A _ nm (.JoinedStr vs pos)) h fun c1 r h => on2_el (P := fun r => JE G S A _ nm (.JoinedStr (c1 :: r) pos)) h fun c2 c3 h =>
      onStrC_el (P := fun c1 => JE G S A _ nm (.JoinedStr [c1, c2, c3] pos)) h fun u uk up h => onFv_el (P := fun c2 => JE G S A _ nm (.JoinedStr [.Constant (.str u) uk up, c2, c3] pos)) h fun y cv sp yp h =>
      onNone_el (P := fun sp => JE G S A _ nm (.JoinedStr [.Constant (.str u) uk up, .FormattedValue y cv sp yp, c3] pos)) h fun h => onStrC_el (P := fun c3 => JE G S A _ nm (.JoinedStr [.Constant (.str u) uk up, .FormattedValue y cv none yp, c3] pos)) h fun v vk vp h =>
      isK (P := fun cv => JE G S A _ nm (.JoinedStr [.Constant (.str u) uk up, .FormattedValue y cv none yp, .Constant (.str v) vk vp] pos)) h fun h => isK (P := fun u => JE G S A _ nm (.JoinedStr [.Constant (.str u) uk up, .FormattedValue y (-1) none yp, .Constant (.str v) vk vp] pos)) h fun h =>
      isK (P := fun v => JE G S A _ nm (.JoinedStr [.Constant (.str (Str.ofString a)) uk up, .FormattedValue y (-1) none yp, .Constant (.str v) vk vp] pos)) h fun h => je_fstr (of_decide_eq_true (and2 h).1) (of_decide_eq_true (and2 (and2 h).2).1) (sE H HS hA e nm y (and2 (and2 h).2).2)
theorem sEs (H : PF G fa K mg mb) (HS : CallOk G fa S d) (hA : Room d A) : ∀ (es : List E) (nm : Nms) (xs : List Expr), okEs es nm xs = true → JEs G S A es nm xs
  | [], nm, xs, hok => onNil_el (P := JEs G S A [] nm) hok fun _ => jes_nil
  | e :: r, nm, xs, hok => onCons_el (P := JEs G S A (e :: r) nm) hok fun x ys h => jes_cons (ok_plain (and2 h).1) (sE H HS hA e nm x (and2 h).1) (sEs H HS hA r nm ys (and2 h).2)
theorem sPs (H : PF G fa K mg mb) (HS : CallOk G fa S d) (hA : Room d A) : ∀ (es : List E) (nm : Nms) (ks : List Str) (keys : List (Option Expr)) (xs : List Expr), okKeys ks keys = true → ks.length = es.length → okEs es nm xs = true → JPs G S A es nm ks keys xs
  | [], nm, ks, keys, xs, hk, hl, hok => onNil_el (P := JPs G S A [] nm ks keys) hok fun _ => jps_nil hk hl
  | e :: r, nm, [], keys, xs, hk, hl, hok => nomatch hl
  | e :: r, nm, k :: kr, keys, xs, hk, hl, hok => onCons_el (P := JPs G S A (e :: r) nm (k :: kr) keys) hok fun x ys h => onCons_el (P := fun keys => JPs G S A (e :: r) nm (k :: kr) keys (x :: ys)) hk fun ko keyr hk => onSome_el (P := fun ko => JPs G S A (e :: r) nm (k :: kr) (ko :: keyr) (x :: ys)) hk fun kx hk =>
      onStrC_el (P := fun kx => JPs G S A (e :: r) nm (k :: kr) (some kx :: keyr) (x :: ys)) hk fun ky kk kp hk => isK (P := fun k => JPs G S A (e :: r) nm (k :: kr) (some (.Constant (.str ky) kk kp) :: keyr) (x :: ys)) hk fun hk =>
      jps_cons (sE H HS hA e nm x (and2 h).1) (sPs H HS hA r nm kr keyr ys hk (Nat.succ.inj hl) (and2 h).2)
theorem sTs (H : PF G fa K mg mb) (HS : CallOk G fa S d) (hA : Room d A) : ∀ (es : List E) (nm : Nms) (xs : List Expr), okTs es nm xs = true → JTs G S A es nm xs
  | [], nm, xs, hok => onNil_el (P := JTs G S A [] nm) hok fun _ => jts_nil
  | e :: r, nm, xs, hok => onCons_el (P := JTs G S A (e :: r) nm) hok fun x ys h => jts_cons (sT H HS hA e nm x (and2 h).1) (sTs H HS hA r nm ys (and2 h).2)
theorem sT (H : PF G fa K mg mb) (HS : CallOk G fa S d) (hA : Room d A) : ∀ (e : E) (nm : Nms) (x : Expr), okT e nm x = true → JT G S A e nm x
  | .not e, nm, x, hok => onUnO_el (P := JT G S A _ nm) hok fun z _ h => jt_not (sT H HS hA e nm z h)
  | .and a b, nm, x, hok => onBool2_el (P := JT G S A _ nm) hok fun y z _ h => jt_and (sT H HS hA a nm y (and2 h).1) (sT H HS hA b nm z (and2 h).2)
  | .or a b, nm, x, hok => onBool2_el (P := JT G S A _ nm) hok fun y z _ h => jt_or (sT H HS hA a nm y (and2 h).1) (sT H HS hA b nm z (and2 h).2)
  | .cmp op a b, nm, x, hok => onCmp1_el (P := JT G S A _ nm) hok fun y z _ h => jt_cmp H hA (ok_plain (and2 h).2) (sE H HS hA a nm y (and2 h).1) (sE H HS hA b nm z (and2 h).2)
  | .loc n, nm, x, hok => onNm_el (P := JT G S A _ nm) hok fun _ h => jt_loc h
  | .call f es, nm, x, hok => onCallNm_el (P := JT G S A _ nm) hok fun np xs pos h => jt_call H HS hA (and2 h).1 (and2 (and2 h).2).1 (and2 (and2 h).2).2 (sEs H HS hA es nm xs (and2 (and2 h).2).2)
  | .meth e f es, nm, x, hok => onCallAm_el (P := JT G S A _ nm) hok fun b ap xs pos h => by
    obtain ⟨hb, h⟩ := and2 h
    obtain ⟨hf, h⟩ := and2 h
    obtain ⟨hl, h⟩ := and2 h
    obtain ⟨h29, h⟩ := and2 h
    obtain ⟨he, hx⟩ := and2 h
    exact jt_meth H HS hA hb hf hl (of_decide_eq_true h29) hx (sE H HS hA e nm b he) (sEs H HS hA es nm xs hx)
  | .lit _, _, _, hok | .gl _, _, _, hok | .attr _ _, _, _, hok | .tup _, _, _, hok | .list _, _, _, hok | .dict _ _ _, _, _, hok | .idx _ _, _, _, hok | .upto _ _, _, _, hok | .rev _, _, _, hok | .neg _, _, _, hok
  | .ite _ _ _, _, _, hok | .bin _ _ _, _, _, hok | .new _ _, _, _, hok | .bi _ _, _, _, hok | .sortedset _, _, _, hok | .lm _ _ _, _, _, hok | .comp _ _ _ _, _, _, hok | .comp2 _ _ _ _ _ _, _, _, hok | .fstr _ _ _, _, _, hok => no_true hok
end
end
end Mine
namespace Mine
open PySem PySem.W PySem.Calls PyProof.Rows

noncomputable def JB (G : G0) (S : Spec) (A : Around) (b : List Stm) (nm : Nms) (bx : List Stmt) : Prop :=
  ∀ (env : Env) (l : Locs) (σ : Sto) (p : Pl) (s : Shared) (Q : Fl → Locs → Sto → Prop) (E : Value → Shared → Prop), env.scope.names = nm → ER G env p σ.length s.heap l → Rp G p σ s.heap → evB S b l σ Q →
    wpAny (model G.prog G.w) A (execs bx env) (Post G (Own env) p σ s (RF G env Q)) E s
noncomputable def JS (G : G0) (S : Spec) (A : Around) (b : Stm) (nm : Nms) (bx : Stmt) : Prop :=
  ∀ (env : Env) (l : Locs) (σ : Sto) (p : Pl) (s : Shared) (Q : Fl → Locs → Sto → Prop) (E : Value → Shared → Prop), env.scope.names = nm → ER G env p σ.length s.heap l → Rp G p σ s.heap → evS S b l σ Q →
    wpAny (model G.prog G.w) A (exec bx env) (Post G (Own env) p σ s (RF G env Q)) E s

inductive ITP (G : G0) (A : Around) (p : Pl) (σ : Sto) (s : Shared) (Q : List V → Option (Nat × List V) → Sto → Prop) : Value → Shared → Prop
  | mk (I : Addr) (σ' : Sto) (h' : Heap) (tk : Nat) (p' : Pl) (vs : List V) (g : Option (Nat × List V)) (Cur : Pl → Sto → Heap → Nat → Prop) : Stp noW p σ.length s.heap p' σ'.length h' → Rp G p' σ' h' → ItS G A I g vs Cur → Cur p' σ' h' 0 → stays g σ' →
    s.heap.get? I = none → (∀ j, j < σ'.length → p'.φ j ≠ I ∧ p'.δ j ≠ I) → Q vs g σ' → ITP G A p σ s Q (.ref I) { s with heap := h', toks := tk }

theorem st_of {nm : Nms} {x : Nm} (h : st nm x = true) : nm.lookup x.str = some .local ∨ nm.lookup x.str = some .cell := by
  unfold st at h
  rw [Bool.or_eq_true, beq_iff_eq, beq_iff_eq] at h
  exact h

section
variable {G : G0} {fa : Fn → Addr} {K : Frag} {mg mb : Str → Option Value} {A : Around} {S : Spec} {d : Nat} {env : Env} {Er : Value → Shared → Prop}

theorem it_rev (hh : A.handled = none) {s : Shared} {p : Pl} {σ : Sto} {c : Value} {vs : List V} {M : Value → Shared → Prop} (R : Rp G p σ s.heap) (hc : VR G.base p σ.length s.heap c (.tup vs)) (hz : vs.length < 2000)
    (q : ∀ it s', ITP G A p σ s (fun us g σ' => us = vs.reverse ∧ g = none ∧ σ' = σ) it s' → M it s') :
    wpAny (model G.prog G.w) A (call (.type "reversed") [c]) (fun x s₁ => wpAny (model G.prog G.w) A (pyIter x) M Er s₁) Er s := by
  obtain ⟨a, its, rfl, ht, hv⟩ := hc.tup_inv
  have hsz := size_of_vrs hv
  refine call_rev ht (by rw [hsz]; (first | lia | omega)) fun tk => ?_
  have k : ∀ b o, s.heap.get? b = some o → (s.heap.push (revO a (its.size - 1))).get? b = some o := fun b o e => Heap.get?_push_of_some _ e
  have hI : (s.heap.push (revO a (its.size - 1))).get? s.heap.objs.size = some (revO a (its.size - 1)) := Heap.get?_push_size _ rfl
  refine iter_rev (s := { s with heap := s.heap.push (revO a (its.size - 1)), toks := tk }) hI (q _ _ ?_)
  have nI : s.heap.get? s.heap.objs.size = none := none_at (Nat.le_refl _)
  have T : Tups s.heap (s.heap.push (revO a (its.size - 1))) := fun a its => Exists.imp fun o => And.imp (k _ _) id
  refine .mk s.heap.objs.size σ _ tk p vs.reverse none _ (Stp.grow k) (R.grow k) (ItS.rev hh a vs (by (first | lia | omega))) ⟨?_, its, T _ _ ht, VRs.tups hv T⟩ trivial nI (fun j hj => R.off nI hj) ⟨rfl, rfl, rfl⟩
  rw [hI, hsz]; simp

theorem ITP.after {p p₁ : Pl} {σ σ₁ : Sto} {s : Shared} {h₁ : Heap} {tk : Nat} {Q : List V → Option (Nat × List V) → Sto → Prop} {it : Value} {s' : Shared} (S : Stp noW p σ.length s.heap p₁ σ₁.length h₁)
    (h : ITP G A p₁ σ₁ { s with heap := h₁, toks := tk } Q it s') : ITP G A p σ s Q it s' := by
  obtain ⟨I, σ', h', tk', p', vs, g, Cur, S', R', T, c, st, nI, oI, q⟩ := h
  exact ⟨I, σ', h', tk', p', vs, g, Cur, S.transN S', R', T, c, st, none_back S nI, oI, q⟩

/-- what is asked of an iteration's expression -/
noncomputable def JI (G : G0) (S : Spec) (A : Around) (it : It) (nm : Nms) (x : Expr) : Prop := ∀ (env : Env) (l : Locs) (σ : Sto) (p : Pl) (s : Shared) (Q : List V → Option (Nat × List V) → Sto → Prop) (Er : Value → Shared → Prop), env.scope.names = nm → ER G env p σ.length s.heap l → Rp G p σ s.heap → evIt S it l σ Q →
    plainX x = true ∧ wpAny (model G.prog G.w) A (eval x env) (fun xv s₁ => wpAny (model G.prog G.w) A (pyIter xv) (ITP G A p σ s Q) Er s₁) Er s
theorem ji_e (hA : A.handled = none) {e : E} {nm : Nms} {x : Expr} (hx : plainX x = true) (ih : JE G S A e nm x) : JI G S A (.e e) nm x := fun env l σ p s Q Er hn X R h => by
  refine ⟨hx, ih.go hn X R h fun c u σ₁ h₁ tk₁ p₁ S₁ R₁ X₁ hu r => ?_⟩
  obtain ⟨⟨vs, g⟩, e₁, q⟩ := opt_some r
  exact iter_of (s := { s with heap := h₁, toks := tk₁ }) hA R₁ hu e₁ fun I h' Cur nI k T c st _ => ITP.after (tk := tk₁) S₁ ⟨I, σ₁, h', tk₁, p₁, vs, g, Cur, Stp.grow k, R₁.grow k, T, c, st, nI, fun _ => R₁.off nI, q⟩
theorem ji_range (H : PF G fa K mg mb) (hA : A.handled = none) {e : E} {nm : Nms} {z : Expr} {np pos : Pos} (hg : isG nm "range" = true) (hz : plainX z = true) (ih : JE G S A e nm z) : JI G S A (.range e) nm (.Call (.Name "range" np) [z] [] pos) := fun env l σ p s Q Er hn X R h => by
  refine ⟨rfl, Call_Name rfl (ld_b H X R (hn ▸ hg) H.grange.1 H.grange.2 (by decide +kernel) ?_)⟩
  refine callWith_mach (show [z].all plainX = true by rw [List.all_cons, hz]; rfl) (T := fun cs s' => ∃ c, cs = [c] ∧ wpAny (model G.prog G.w) A (call (.type "range") [c]) (fun xv s₁ => wpAny (model G.prog G.w) A (pyIter xv) (ITP G A p σ s Q) Er s₁) Er s') ?_ (fun vs s' z => keeper_type) fun vs s' w => ?_
  · refine wpAny_items_cons (ih.go hn X R h fun c v σ₁ h₁ tk₁ p₁ S₁ R₁ X₁ hv r => wpAny_items_nil ⟨c, rfl, ?_⟩) (star_cons hz [] env)
    obtain ⟨n, en, r⟩ := opt_some r
    obtain ⟨t, rfl⟩ := hv.int? en
    split at r
    case isFalse => exact r.elim
    rename_i hn
    obtain ⟨h0, hn⟩ := hn
    refine call_range_1 ?_
    have k1 : ∀ b o, h₁.get? b = some o → (h₁.push { cls := .type "range", data := .fields #[.int 0 tk₁, .int n t, .int 1 (tk₁ + 1)] }).get? b = some o := fun b o e => Heap.get?_push_of_some _ e
    have hr := IsRange.new h₁ 0 n 1 tk₁ t (tk₁ + 1)
    refine wpAny_pyIter_range (s := { s with heap := h₁.push { cls := .type "range", data := .fields #[.int 0 tk₁, .int n t, .int 1 (tk₁ + 1)] }, toks := tk₁ + 1 + 1 }) hr (small_one (by decide) (by decide) (by (first | lia | omega)) (by (first | lia | omega))) ?_
    generalize h₁.push { cls := .type "range", data := .fields #[.int 0 tk₁, .int n t, .int 1 (tk₁ + 1)] } = h₂ at k1
    have hsz : Builtin.Range.rangeSize 0 n 1 = n := by rw [rangeSize_one]; split <;> (first | lia | omega)
    rw [hsz]
    have k2 : ∀ b o, h₁.get? b = some o → (h₂.push { cls := .type "range_iterator", data := .fields #[rawInt 0, rawInt n, rawInt 1] }).get? b = some o := fun b o e => Heap.get?_push_of_some _ (k1 b o e)
    have nI : h₁.get? h₂.objs.size = none := none_of_alive (fun z => (Option.isSome_iff_exists.mp z).elim fun o z => isSome_of (k1 _ o z)) (none_at (Nat.le_refl _))
    refine ITP.after (tk := tk₁) S₁ (.mk h₂.objs.size σ₁ _ _ p₁ _ none _ (Stp.grow k2) (R₁.grow k2) (ItS.range hA n.toNat) ?_ trivial nI (fun _ => R₁.off nI) r)
    show (h₂.push _).get? _ = _
    rw [show ((0 : Int) + (0 : Nat) * 1) = 0 by simp, Int.toNat_of_nonneg h0, show (n - (0 : Nat)) = n by simp]
    exact Heap.get?_push_size _ rfl
  · obtain ⟨c, rfl, w⟩ := w
    exact w
theorem ji_rev (H : PF G fa K mg mb) (hA : A.handled = none) {e : E} {nm : Nms} {z : Expr} {np pos : Pos} (hg : isG nm "reversed" = true) (hz : plainX z = true) (ih : JE G S A e nm z) : JI G S A (.rev e) nm (.Call (.Name "reversed" np) [z] [] pos) := fun env l σ p s Q Er hn X R h => by
  refine ⟨rfl, Call_Name rfl (ld_b H X R (hn ▸ hg) H.grev.1 H.grev.2 (by decide +kernel) ?_)⟩
  refine callWith_mach (show [z].all plainX = true by rw [List.all_cons, hz]; rfl) (T := fun cs s' => ∃ c, cs = [c] ∧ wpAny (model G.prog G.w) A (call (.type "reversed") [c]) (fun xv s₁ => wpAny (model G.prog G.w) A (pyIter xv) (ITP G A p σ s Q) Er s₁) Er s') ?_ (fun vs s' z => keeper_type) fun vs s' w => ?_
  · refine wpAny_items_cons (ih.go hn X R h fun c v σ₁ h₁ tk₁ p₁ S₁ R₁ X₁ hv r => wpAny_items_nil ⟨c, rfl, ?_⟩) (star_cons hz [] env)
    obtain ⟨us, eu, r'⟩ := opt_some r
    clear r
    cases V.tup?_eq eu
    split at r'
    case isFalse => exact r'.elim
    rename_i hz'
    refine it_rev (s := { s with heap := h₁, toks := tk₁ }) hA R₁ hv hz' fun it s' z => ITP.after (tk := tk₁) S₁ ?_
    obtain ⟨I, σ', h', tk', p', vs, g, Cur, S', R', T, c, st, nI, oI, rfl, rfl, rfl⟩ := z
    exact ⟨I, _, h', tk', p', _, _, Cur, S', R', T, c, st, nI, oI, r'⟩
  · obtain ⟨c, rfl, w⟩ := w
    exact w
theorem sI (H : PF G fa K mg mb) (HS : CallOk G fa S d) (hA : Room d A) : ∀ (it : It) (nm : Nms) (x : Expr), okIt it nm x = true → JI G S A it nm x
  | .e e, nm, x, hok => ji_e hA.handled (ok_plain hok) (sE H HS hA e nm x hok)
  | .range e, nm, x, hok => onCallNm_el (P := JI G S A _ nm) hok fun np xs pos h => on1_el (P := fun xs => JI G S A _ nm (.Call (.Name "range" np) xs [] pos)) h fun z h => ji_range H hA.handled (and2 h).1 (ok_plain (and2 h).2) (sE H HS hA e nm z (and2 h).2)
  | .rev e, nm, x, hok => onCallNm_el (P := JI G S A _ nm) hok fun np xs pos h => on1_el (P := fun xs => JI G S A _ nm (.Call (.Name "reversed" np) xs [] pos)) h fun z h => ji_rev H hA.handled (and2 h).1 (ok_plain (and2 h).2) (sE H HS hA e nm z (and2 h).2)

/-- stores to names in order -/
theorem store_all : ∀ (xs : List Nm) (ts : List Expr) (cs : List Value) (vs : List V) (l l' : Locs) {p : Pl} {σ : Sto} {s : Shared} {Q : Unit → Shared → Prop}, okNs env.scope.names xs ts = true → ER G env p σ.length s.heap l → Rp G p σ s.heap → VRs G.base p σ.length s.heap cs vs → bindL xs vs l = some l' →
    (∀ h' tk, Stp (Own env) p σ.length s.heap p σ.length h' → Rp G p σ h' → ER G env p σ.length h' l' → Q () { s with heap := h', toks := tk }) →
    wpAny (model G.prog G.w) A (assignInOrder ((assignEach ts env).map (·.2)) cs) Q Er s
  | [], ts, cs, vs, l, l', p, σ, s, Q, hok, X, R, hv, e, q => onNil_el (P := fun ts => wpAny (model G.prog G.w) A (assignInOrder ((assignEach ts env).map (·.2)) cs) Q Er s) hok fun _ => by
    revert hv
    refine nilO_el (P := fun vs => F2 _ cs vs → _) e fun e hv => ?_
    cases e
    cases hv.nil_inv
    exact wpAny_pure (q s.heap s.toks .refl R X)
  | x :: r, ts, cs, vs, l, l', p, σ, s, Q, hok, X, R, hv, e, q => onCons_el (P := fun ts => wpAny (model G.prog G.w) A (assignInOrder ((assignEach ts env).map (·.2)) cs) Q Er s) hok fun t tr h =>
    onNm_el (P := fun t => wpAny (model G.prog G.w) A (assignInOrder ((assignEach (t :: tr) env).map (·.2)) cs) Q Er s) h fun yp h => by
    revert hv
    refine unc_el (P := fun vs => F2 _ cs vs → _) e fun v vr e hv => ?_
    obtain ⟨c, cr, rfl, h1, hr⟩ := hv.uncons
    refine wpAny_bind (wpAny_holding (wpAny_assign_Name (X.store R (st_of (and2 h).1) h1 fun h₁ tk₁ S₁ R₁ X₁ => ?_)))
    exact store_all r tr _ _ _ l' (s := { s with heap := h₁, toks := tk₁ }) (and2 h).2 X₁ R₁ (S₁.vrs R X.noTup hr) e fun h₂ tk₂ S₂ R₂ X₂ => q h₂ tk₂ (S₁.transW S₂) R₂ X₂
theorem okNs_len : ∀ {nm : Nms} {xs : List Nm} {ts : List Expr}, okNs nm xs ts = true → ts.length = xs.length
  | _, [], _, h => onNil_el (P := fun ts : List Expr => ts.length = 0) h fun _ => rfl
  | nm, x :: r, _, h => onCons_el (P := fun ts : List Expr => ts.length = (x :: r).length) h fun t tr h => onNm_el (P := fun t => (t :: tr).length = (x :: r).length) h fun yp h => congrArg (· + 1) (okNs_len (and2 h).2)
theorem okNs_star (env : Env) : ∀ {nm : Nms} {xs : List Nm} {ts : List Expr}, okNs nm xs ts = true → (assignEach ts env).findIdx? (·.1) = none ∧ (assignEach ts env).length = ts.length
  | _, [], _, h => onNil_el (P := fun ts : List Expr => (assignEach ts env).findIdx? (·.1) = none ∧ (assignEach ts env).length = ts.length) h fun _ => ⟨rfl, rfl⟩
  | nm, x :: r, _, h => onCons_el (P := fun ts : List Expr => (assignEach ts env).findIdx? (·.1) = none ∧ (assignEach ts env).length = ts.length) h fun t tr h =>
    onNm_el (P := fun t => (assignEach (t :: tr) env).findIdx? (·.1) = none ∧ (assignEach (t :: tr) env).length = (t :: tr).length) h fun yp h => by
    have ih := okNs_star env (and2 h).2
    have e : assignEach (.Name x.str yp :: tr) env = (false, assign (.Name x.str yp) env) :: assignEach tr env := rfl
    rw [e, List.findIdx?_cons, ih.1]
    exact ⟨rfl, congrArg Nat.succ ih.2⟩
theorem bindL_len : ∀ {xs : List Nm} {vs : List V} {l l' : Locs}, bindL xs vs l = some l' → vs.length = xs.length
  | [], _, _, _, h => nilO_el (P := fun vs => vs.length = 0) h fun _ => rfl
  | x :: r, _, _, _, h => unc_el (P := fun vs => vs.length = (x :: r).length) h fun v vr h => congrArg Nat.succ (bindL_len h)

theorem assign_tup (hh : A.handled = none) {xs : List Nm} {ts : List Expr} {k : Nat} {pos : Pos} {c : Value} {vs : List V} {l l' : Locs} {p : Pl} {σ : Sto} {s : Shared} {Q : Unit → Shared → Prop} (hok : okNs env.scope.names xs ts = true) (X : ER G env p σ.length s.heap l) (R : Rp G p σ s.heap)
    (hc : VR G.base p σ.length s.heap c (.tup vs)) (e : bindL xs vs l = some l')
    (q : ∀ h' tk, Stp (Own env) p σ.length s.heap p σ.length h' → Rp G p σ h' → ER G env p σ.length h' l' → Q () { s with heap := h', toks := tk }) :
    wpAny (model G.prog G.w) A (assign (.Tuple ts k pos) env c) Q Er s := by
  obtain ⟨a, its, rfl, ht, hv⟩ := hc.tup_inv
  rw [arm_assign_Tuple]
  have hst := okNs_star env hok
  have hl : its.size = ts.length := by rw [size_of_vrs hv, bindL_len e, okNs_len hok]
  refine wpAny_bind (wpAny_standAt (wpAny_unpack_tuple hh ht (by rw [hst.2, hl]) hst.1 fun h' hx => ?_))
  have k₀ : ∀ b o, s.heap.get? b = some o → h'.get? b = some o := fun b o e => hx b o (Nat.ne_of_lt (Heap.lt_size e)) e
  exact store_all xs ts _ vs l l' (s := { s with heap := h' }) hok (X.step R (Stp.grow k₀)) (R.grow k₀) ((Stp.grow (W := noW) k₀).vrs (σ' := σ) R noTupW_no hv) e fun h₂ tk₂ S₂ R₂ X₂ => q h₂ tk₂ ((Stp.grow k₀).transW S₂) R₂ X₂
end
end Mine
namespace Mine
open PySem PySem.W PySem.Calls PyProof.Rows
section
variable {G : G0} {A : Around} {env : Env} {Er : Value → Shared → Prop}

theorem filt_names {f : Expr → Option Str} (hf : ∀ t i, f t = some i → ∃ q, t = .Name i q) : ∀ {nm : Nms} {xs : List Nm} {ts : List Expr}, okNs nm xs ts = true → (ts.filterMap f).length = ts.length → ts.filterMap f = xs.map Nm.str
  | _, [], ts, h, hl => onNil_el (P := fun ts : List Expr => ts.filterMap f = ([] : List Nm).map Nm.str) h fun _ => rfl
  | nm, x :: r, ts, h, hl => by
    revert hl
    refine onCons_el (P := fun ts : List Expr => (ts.filterMap f).length = ts.length → ts.filterMap f = (x :: r).map Nm.str) h fun t tr h => ?_
    refine onNm_el (P := fun t => ((t :: tr).filterMap f).length = (t :: tr).length → (t :: tr).filterMap f = (x :: r).map Nm.str) h fun yp h hl => ?_
    cases e : f (.Name x.str yp) with
    | none =>
      rw [List.filterMap_cons_none e] at hl
      have := List.length_filterMap_le f tr
      rw [hl] at this
      exact absurd this (Nat.not_succ_le_self _)
    | some i =>
      obtain ⟨q, hq⟩ := hf _ _ e
      cases hq
      rw [List.filterMap_cons_some e] at hl ⊢
      rw [filt_names hf (and2 h).2 (Nat.succ.inj hl)]
      rfl

theorem ite_some {c : Prop} [Decidable c] {i j : Str} (e : (if c then some j else none) = some i) : j = i := by
  by_cases h : c
  · rw [if_pos h] at e; exact Option.some.inj e
  · rw [if_neg h] at e; cases e
theorem if_or {P : Sem (Option (List Str)) → Prop} {c : Prop} [Decidable c] {A B : Sem (Option (List Str))} (hA : P A) (hB : ¬ c → P B) : P (if c then A else B) := by
  by_cases h : c
  · rw [if_pos h]; exact hA
  · rw [if_neg h]; exact hB h
theorem swap_none {ts : List Expr} {k : Nat} {pos : Pos} {v : Expr} {ns : List Nm} (hns : okNs env.scope.names ns ts = true) (hsw : okSw v = true) :
    swappedStores [.Tuple ts k pos] v env = pure none ∨ (swappedStores [.Tuple ts k pos] v env = pure (some (ns.map Nm.str)) ∧ (ns.length = 2 ∨ ns.length = 3)) := by
  have hl := okNs_len hns
  by_cases hT : v.ctorIdx = 25
  case neg => exact .inl (by cases v <;> first | exact absurd rfl hT | rfl)
  have hsw : onTuple (fun vs _ _ => !(vs.all (foldedForSure 8)) && !(vs.all (constantsAlone 8))) v = true := (Bool.or_eq_true_iff.mp hsw).resolve_left fun z => by
    rw [hT] at z; exact nomatch z
  refine onTuple_el (P := fun v => swappedStores [.Tuple ts k pos] v env = pure none ∨ (swappedStores [.Tuple ts k pos] v env = pure (some (ns.map Nm.str)) ∧ (ns.length = 2 ∨ ns.length = 3))) hsw fun vs k' pos' hsw => ?_
  simp only [Bool.and_eq_true, Bool.not_eq_true'] at hsw
  unfold swappedStores
  refine if_or (P := fun z => z = pure none ∨ (z = pure (some (ns.map Nm.str)) ∧ (ns.length = 2 ∨ ns.length = 3))) ?_ fun h1 => ?_
  · exact .inl rfl
  refine if_or (P := fun z => z = pure none ∨ (z = pure (some (ns.map Nm.str)) ∧ (ns.length = 2 ∨ ns.length = 3))) ?_ fun _ => ?_
  · exact .inl rfl
  refine if_or (P := fun z => z = pure none ∨ (z = pure (some (ns.map Nm.str)) ∧ (ns.length = 2 ∨ ns.length = 3))) ?_ fun h3 => ?_
  · exact .inl rfl
  rw [hsw.1]
  refine .inr ⟨?_, ?_⟩
  · rw [if_neg Bool.false_ne_true, hsw.2]
    refine congrArg (fun x => pure (some x)) (filt_names (fun t i e => ?_) hns ?_)
    · cases t <;> first
        | exact no_some e
        | (cases ite_some e; exact ⟨_, rfl⟩)
    · exact bne_eq_false_iff_eq.mp (Bool.or_eq_false_iff.mp (Bool.eq_false_iff.mpr h3)).1
  · simp only [Bool.or_eq_true, not_or, Bool.not_eq_true', Bool.not_eq_true, Bool.or_eq_false_iff] at h1
    rw [hl] at h1
    have := h1.1.1
    exact Decidable.or_iff_not_imp_left.mpr (by simpa using this)

theorem len2_el {α : Type} {P : List α → Prop} {l : List α} (h : l.length = 2) (k : ∀ x y, P [x, y]) : P l := by
  cases l with
  | nil => cases h
  | cons x r => cases r with
    | nil => cases h
    | cons y r => cases List.eq_nil_of_length_eq_zero (Nat.succ.inj (Nat.succ.inj h)); exact k x y
theorem len3_el {α : Type} {P : List α → Prop} {l : List α} (h : l.length = 3) (k : ∀ x y z, P [x, y, z]) : P l := by
  cases l with
  | nil => cases h
  | cons x r => exact len2_el (P := fun r => P (x :: r)) (Nat.succ.inj h) (k x)
theorem upd_comm {l : Locs} {x y : Nm} {a b : V} (h : x ≠ y) : upd (upd l x a) y b = upd (upd l y b) x a := funext fun z => by
  unfold upd
  by_cases hx : z = x
  · rw [if_pos hx, if_neg (hx ▸ h), if_pos hx]
  · rw [if_neg hx, if_neg hx]
theorem store_rev {ns : List Nm} {cs : List Value} {vs : List V} {l l' : Locs} {p : Pl} {σ : Sto} {s : Shared} {Q : Unit → Shared → Prop} (hl : ns.length = 2 ∨ ns.length = 3) (hnd : ns.Nodup) (hk : ∀ x ∈ ns, env.kindOf x.str = some .local ∨ env.kindOf x.str = some .cell)
    (X : ER G env p σ.length s.heap l) (R : Rp G p σ s.heap) (hv : VRs G.base p σ.length s.heap cs vs) (e : bindL ns vs l = some l')
    (q : ∀ h' tk, Stp (Own env) p σ.length s.heap p σ.length h' → Rp G p σ h' → ER G env p σ.length h' l' → Q () { s with heap := h', toks := tk }) :
    wpAny (model G.prog G.w) A (assignInOrder ((ns.map Nm.str).reverse.map fun n => bindName env n) cs.reverse) Q Er s := by
  rcases hl with hl | hl
  · refine len2_el (P := fun ns => ns.Nodup → (∀ x ∈ ns, env.kindOf x.str = some .local ∨ env.kindOf x.str = some .cell) → bindL ns vs l = some l' → wpAny (model G.prog G.w) A (assignInOrder ((ns.map Nm.str).reverse.map fun n => bindName env n) cs.reverse) Q Er s) hl (fun x y hnd hk e => ?_) hnd hk e
    revert hv
    refine unc_el (P := fun vs => F2 _ cs vs → _) e fun v1 r e hv => ?_
    obtain ⟨c1, cr, rfl, h1, hv⟩ := hv.uncons
    revert hv
    refine unc_el (P := fun vs => F2 _ cr vs → _) e fun v2 r e hv => ?_
    obtain ⟨c2, cr, rfl, h2, hv⟩ := hv.uncons
    revert hv
    refine nilO_el (P := fun vs => F2 _ cr vs → _) e fun e hv => ?_
    cases e; cases hv.nil_inv
    have hxy : x ≠ y := fun z => (List.nodup_cons.mp hnd).1 (z ▸ List.mem_cons_self)
    refine wpAny_bind (wpAny_holding (wpAny_bindName (X.store R (hk y (by simp)) h2 fun h₁ tk₁ S₁ R₁ X₁ => ?_)))
    refine wpAny_bind (wpAny_holding (wpAny_bindName (X₁.store (s := { s with heap := h₁, toks := tk₁ }) R₁ (hk x (by simp)) (S₁.vr R X.noTup h1) fun h₂ tk₂ S₂ R₂ X₂ => wpAny_pure ?_)))
    exact q h₂ tk₂ (S₁.transW S₂) R₂ (upd_comm hxy ▸ X₂)
  · refine len3_el (P := fun ns => ns.Nodup → (∀ x ∈ ns, env.kindOf x.str = some .local ∨ env.kindOf x.str = some .cell) → bindL ns vs l = some l' → wpAny (model G.prog G.w) A (assignInOrder ((ns.map Nm.str).reverse.map fun n => bindName env n) cs.reverse) Q Er s) hl (fun x y u hnd hk e => ?_) hnd hk e
    revert hv
    refine unc_el (P := fun vs => F2 _ cs vs → _) e fun v1 r e hv => ?_
    obtain ⟨c1, cr, rfl, h1, hv⟩ := hv.uncons
    revert hv
    refine unc_el (P := fun vs => F2 _ cr vs → _) e fun v2 r e hv => ?_
    obtain ⟨c2, cr, rfl, h2, hv⟩ := hv.uncons
    revert hv
    refine unc_el (P := fun vs => F2 _ cr vs → _) e fun v3 r e hv => ?_
    obtain ⟨c3, cr, rfl, h3, hv⟩ := hv.uncons
    revert hv
    refine nilO_el (P := fun vs => F2 _ cr vs → _) e fun e hv => ?_
    cases e; cases hv.nil_inv
    have ⟨n1, n2⟩ := List.nodup_cons.mp hnd
    have hxy : x ≠ y := fun z => n1 (z ▸ List.mem_cons_self)
    have hxu : x ≠ u := fun z => n1 (z ▸ List.mem_cons_of_mem _ List.mem_cons_self)
    have hyu : y ≠ u := fun z => (List.nodup_cons.mp n2).1 (z ▸ List.mem_cons_self)
    have e : upd (upd (upd l x v1) y v2) u v3 = upd (upd (upd l u v3) y v2) x v1 := (upd_comm hyu).trans ((congrArg (upd · y v2) (upd_comm hxu)).trans (upd_comm hxy))
    refine wpAny_bind (wpAny_holding (wpAny_bindName (X.store R (hk u (by simp)) h3 fun h₁ tk₁ S₁ R₁ X₁ => ?_)))
    refine wpAny_bind (wpAny_holding (wpAny_bindName (X₁.store (s := { s with heap := h₁, toks := tk₁ }) R₁ (hk y (by simp)) (S₁.vr R X.noTup h2) fun h₂ tk₂ S₂ R₂ X₂ => ?_)))
    refine wpAny_bind (wpAny_holding (wpAny_bindName (X₂.store (s := { s with heap := h₂, toks := tk₂ }) R₂ (hk x (by simp)) (S₂.vr R₁ X₁.noTup (S₁.vr R X.noTup h1)) fun h₃ tk₃ S₃ R₃ X₃ => wpAny_pure ?_)))
    exact q h₃ tk₃ ((S₁.transW S₂).transW S₃) R₃ (e ▸ X₃)
end
end Mine
namespace Mine
open PySem PySem.W PySem.Calls PyProof.Rows

structure Lop (G : G0) (env : Env) (I : Addr) (Cur : Pl → Sto → Heap → Nat → Prop) (pB : Pl) (nB : Nat) (hB : Heap) (i : Nat) (p : Pl) (σ : Sto) (h : Heap) (l : Locs) : Prop where
  S : Stp (Own env) pB nB hB p σ.length h
  R : Rp G p σ h
  X : ER G env p σ.length h l
  cur : Cur p σ h i
  oI : ∀ j, j < σ.length → p.φ j ≠ I ∧ p.δ j ≠ I

theorem swapsWith_lc {el : Expr} {gens : List Comprehension} {sc : Scope} {pos tp : Pos} {t : Str} {line : Nat} {env : Env} : ∃ b, swapsWith (.ListComp el gens sc pos) (some (.Name t tp)) line env = pure b := ⟨_, rfl⟩
/-- a value that is no list comprehension is stored plainly -/
theorem ok_comp {x : Expr} (h : plainX x = true) : (∀ t line env, swapsWith x t line env = pure false) ∨ isLC x = true :=
  plainX_el (P := fun x => (∀ t line env, swapsWith x t line env = pure false) ∨ isLC x = true) h (fun _ _ => .inl fun _ _ _ => rfl) (fun _ _ _ _ => .inl fun _ _ _ => rfl) (fun _ _ _ => .inl fun _ _ _ => rfl) (fun _ _ _ => .inl fun _ _ _ => rfl) (fun _ _ _ => .inl fun _ _ _ => rfl)
    (fun _ _ => .inl fun _ _ _ => rfl) (fun _ _ _ => .inl fun _ _ _ => rfl) (fun _ _ _ => .inl fun _ _ _ => rfl) (fun _ _ _ => .inl fun _ _ _ => rfl) (fun _ _ _ _ => .inl fun _ _ _ => rfl) (fun _ _ _ _ => .inl fun _ _ _ => rfl) (fun _ _ _ => .inl fun _ _ _ => rfl) (fun _ _ _ _ => .inl fun _ _ _ => rfl) (fun _ _ _ _ => .inr rfl) (fun _ _ => .inl fun _ _ _ => rfl)
theorem lc_el {x : Expr} {P : Expr → Prop} (h : isLC x = true) (k : ∀ el gens sc pos, P (.ListComp el gens sc pos)) : P x := PySem.Expr.ListComp.elim (motive_1 := P) x (eq_of_beq h) k
/-- no swap for a target that is no name -/
theorem no_swap {x t : Expr} {line : Nat} {env : Env} (h : plainX x = true) (ht : nameX t = false) : swapsWith x (some t) line env = pure false :=
  (ok_comp h).elim (fun z => z _ _ _) fun z => lc_el (P := fun x => swapsWith x (some t) line env = pure false) z fun _ _ _ _ => by cases t <;> first | rfl | cases ht

theorem ok_comp2 {elt it it2 : E} {y y2 : Nm} {ifs : List E} {nm : Nms} {el : Expr} {gens : List Comprehension} {sc : Scope} {pos : Pos} (h : okE (.comp2 elt y it y2 it2 ifs) nm (.ListComp el gens sc pos) = true) :
    ∃ zp zp2 ix ix2 fx, gens = [⟨.Name y.str zp, ix, [], 0⟩, ⟨.Name y2.str zp2, ix2, fx, 0⟩] ∧ okSc nm sc [y, y2] = true ∧ okE it nm ix = true ∧ okE it2 (inner nm sc) ix2 = true ∧ okE elt (inner nm sc) el = true ∧ okTs ifs (inner nm sc) fx = true := by
  generalize hP : (fun gens : List Comprehension => ∃ zp zp2 ix ix2 fx, gens = [⟨.Name y.str zp, ix, [], 0⟩, ⟨.Name y2.str zp2, ix2, fx, 0⟩] ∧ okSc nm sc [y, y2] = true ∧ okE it nm ix = true ∧ okE it2 (inner nm sc) ix2 = true ∧ okE elt (inner nm sc) el = true ∧ okTs ifs (inner nm sc) fx = true) = P
  have goal : P gens := on2_el h fun g g2 h => onComp_el (P := fun g => P [g, g2]) h fun tg ix gf ga h => onComp_el (P := fun g2 => P [⟨tg, ix, gf, ga⟩, g2]) h fun tg2 ix2 fx ga2 h => onNm_el (P := fun tg => P [⟨tg, ix, gf, ga⟩, ⟨tg2, ix2, fx, ga2⟩]) h fun zp h =>
    onNm_el (P := fun tg2 => P [⟨.Name y.str zp, ix, gf, ga⟩, ⟨tg2, ix2, fx, ga2⟩]) h fun zp2 h => onNil_el (P := fun gf => P [⟨.Name y.str zp, ix, gf, ga⟩, ⟨.Name y2.str zp2, ix2, fx, ga2⟩]) h fun h => isK (P := fun ga => P [⟨.Name y.str zp, ix, [], ga⟩, ⟨.Name y2.str zp2, ix2, fx, ga2⟩]) h fun h =>
    isK (P := fun ga2 => P [⟨.Name y.str zp, ix, [], 0⟩, ⟨.Name y2.str zp2, ix2, fx, ga2⟩]) h fun h => by
    rw [← hP]
    have a := and2 h
    have b := and2 a.2
    have c := and2 b.2
    have d := and2 c.2
    exact ⟨zp, zp2, ix, ix2, fx, rfl, a.1, b.1, c.1, d.1, d.2⟩
  rw [← hP] at goal
  exact goal
/-- a loop's end is no error -/
noncomputable def Oks (T : Flow → Shared → Prop) (r : Result) (s' : Shared) : Prop := match r with
  | .ok f => T f s'
  | .error _ => False

section
variable {G : G0} {fa : Fn → Addr} {K : Frag} {mg mb : Str → Option Value} {A : Around} {S : Spec} {d : Nat} {env : Env} {Er : Value → Shared → Prop}

theorem lc_go (H : PF G fa K mg mb) (HS : CallOk G fa S d) (hA : Room d A) {e : E} {el : Expr} {gens : List Comprehension} {scope : Scope} {pos spos pz : Pos} {n : Nm} {p : Pl} {σ : Sto} {s : Shared} {l : Locs} {Q : Fl → Locs → Sto → Prop}
    (hsw : swapsWith (.ListComp el gens scope pos) (some (.Name n.str pz)) spos.line env = pure true) (hz : env.kindOf n.str = some .local ∨ env.kindOf n.str = some .cell)
    (hok : okE e env.scope.names (.ListComp el gens scope pos) = true) (X : ER G env p σ.length s.heap l) (R : Rp G p σ s.heap) (h : evE S e l σ fun u σ => Q .next (upd l n u) σ) :
    wpAny (model G.prog G.w) A (exec (.Assign [.Name n.str pz] (.ListComp el gens scope pos) spos) env) (Post G (Own env) p σ s (RF G env Q)) Er s := by
  cases e <;> try exact no_true hok
  · rename_i elt y it ifs
    revert hsw
    refine on1_el (P := fun gens => swapsWith (.ListComp el gens scope pos) _ _ _ = _ → wpAny _ _ (exec (.Assign _ (.ListComp el gens scope pos) spos) env) (Post G (Own env) p σ s (RF G env Q)) Er s) hok fun g h' => onComp_el (P := fun g => swapsWith (.ListComp el [g] scope pos) _ _ _ = _ → wpAny _ _ (exec (.Assign _ (.ListComp el [g] scope pos) spos) env) (Post G (Own env) p σ s (RF G env Q)) Er s) h' fun tg ix fx ga h' =>
      onNm_el (P := fun tg => swapsWith (.ListComp el [⟨tg, ix, fx, ga⟩] scope pos) _ _ _ = _ → wpAny _ _ (exec (.Assign _ (.ListComp el [⟨tg, ix, fx, ga⟩] scope pos) spos) env) (Post G (Own env) p σ s (RF G env Q)) Er s) h' fun zp h' =>
      isK (P := fun ga => swapsWith (.ListComp el [⟨.Name y.str zp, ix, fx, ga⟩] scope pos) _ _ _ = _ → wpAny _ _ (exec (.Assign _ (.ListComp el [⟨.Name y.str zp, ix, fx, ga⟩] scope pos) spos) env) (Post G (Own env) p σ s (RF G env Q)) Er s) h' fun h' hsw => ?_
    obtain ⟨hsc, h'⟩ := and2 h'
    obtain ⟨hi, h'⟩ := and2 h'
    obtain ⟨hel, hfx⟩ := and2 h'
    exact lc_assign (gens := [⟨.Name y.str zp, ix, fx, 0⟩]) rfl (ok_plain hi) X R (okSc_of hsc) hsw hz (fun u σ z => z) (comp1_blk hA.handled (sE H HS hA it _ ix hi) (sE H HS hA elt _ _ hel) (sTs H HS hA ifs _ fx hfx) (okSc_of hsc) X R h)
  · rename_i elt y it y2 it2 ifs
    have go : ∀ zp zp2 ix ix2 fx, okSc env.scope.names scope [y, y2] = true → okE it env.scope.names ix = true → okE it2 (inner env.scope.names scope) ix2 = true → okE elt (inner env.scope.names scope) el = true → okTs ifs (inner env.scope.names scope) fx = true →
        swapsWith (.ListComp el [⟨.Name y.str zp, ix, [], 0⟩, ⟨.Name y2.str zp2, ix2, fx, 0⟩] scope pos) (some (.Name n.str pz)) spos.line env = pure true →
        wpAny (model G.prog G.w) A (exec (.Assign [.Name n.str pz] (.ListComp el [⟨.Name y.str zp, ix, [], 0⟩, ⟨.Name y2.str zp2, ix2, fx, 0⟩] scope pos) spos) env) (Post G (Own env) p σ s (RF G env Q)) Er s := fun zp zp2 ix ix2 fx hsc hi hi2 hel hfx hsw =>
      lc_assign (gens := [⟨.Name y.str zp, ix, [], 0⟩, ⟨.Name y2.str zp2, ix2, fx, 0⟩]) rfl (ok_plain hi) X R (okSc_of hsc) hsw hz (fun u σ z => z)
        (comp2_blk hA.handled (ok_plain hi2) (sE H HS hA it _ ix hi) (sE H HS hA it2 _ ix2 hi2) (sE H HS hA elt _ _ hel) (sTs H HS hA ifs _ fx hfx) (okSc_of hsc) X R h)
    obtain ⟨zp, zp2, ix, ix2, fx, rfl, hsc, hi, hi2, hel, hfx⟩ : ∃ zp zp2 ix ix2 fx, gens = [⟨.Name y.str zp, ix, [], 0⟩, ⟨.Name y2.str zp2, ix2, fx, 0⟩] ∧ okSc env.scope.names scope [y, y2] = true ∧ okE it env.scope.names ix = true ∧ okE it2 (inner env.scope.names scope) ix2 = true ∧
        okE elt (inner env.scope.names scope) el = true ∧ okTs ifs (inner env.scope.names scope) fx = true := ok_comp2 hok
    exact go zp zp2 ix ix2 fx hsc hi hi2 hel hfx hsw

theorem okNs_two {nm : Nms} {x y : Nm} {p1 p2 : Pos} (h1 : st nm x = true) (h2 : st nm y = true) : okNs nm [x, y] [.Name x.str p1, .Name y.str p2] = true :=
  show (decide _ && (st nm x && (decide _ && (st nm y && true)))) = true by rw [h1, h2, decide_eq_true rfl, decide_eq_true rfl]; rfl
theorem tgt_wp (hh : A.handled = none) {t : Tg} {tx : Expr} {c : Value} {v : V} {l l' : Locs} {p : Pl} {σ : Sto} {s : Shared} {Q : Unit → Shared → Prop} (hok : okTg env.scope.names t tx = true) (X : ER G env p σ.length s.heap l) (R : Rp G p σ s.heap)
    (hc : VR G.base p σ.length s.heap c v) (e : bindT t v l = some l')
    (q : ∀ h' tk, Stp (Own env) p σ.length s.heap p σ.length h' → Rp G p σ h' → ER G env p σ.length h' l' → Q () { s with heap := h', toks := tk }) :
    wpAny (model G.prog G.w) A (assign tx env c) Q Er s := by
  cases t with
  | nm x =>
    cases e
    exact onNm_el (P := fun tx => wpAny _ _ (assign tx env c) Q Er s) hok fun yp hst => wpAny_assign_Name (X.store R (st_of hst) hc q)
  | pair x y =>
    refine onTuple_el (P := fun tx => wpAny _ _ (assign tx env c) Q Er s) hok fun ts kk pp h => on2_el (P := fun ts => wpAny _ _ (assign (.Tuple ts kk pp) env c) Q Er s) h fun t1 t2 h =>
      onNm_el (P := fun t1 => wpAny _ _ (assign (.Tuple [t1, t2] kk pp) env c) Q Er s) h fun p1 h => onNm_el (P := fun t2 => wpAny _ _ (assign (.Tuple [.Name x.str p1, t2] kk pp) env c) Q Er s) h fun p2 h => ?_
    obtain ⟨vs, hv, e⟩ := bnd e
    rw [V.tup?_eq hv] at hc
    exact assign_tup hh (xs := [x, y]) (okNs_two (and2 h).1 (and2 h).2) X R hc e q

/-- where a for loop of n rounds stands -/
inductive LpS (n : Nat) (sB : Shared) (inv : Nat → Pl → Sto → Heap → Locs → Prop) : Nat → Shared → Prop
  | mk (i : Nat) (p : Pl) (σ : Sto) (h : Heap) (tk : Nat) (l : Locs) : inv i p σ h l → LpS n sB inv (n - i) { sB with heap := h, toks := tk }
structure FInv (G : G0) (S : Spec) (env : Env) (I : Addr) (Cur : Pl → Sto → Heap → Nat → Prop) (pB : Pl) (nB : Nat) (hB : Heap) (t : Tg) (b : List Stm) (g : Option (Nat × List V)) (vs : List V) (Q : Fl → Locs → Sto → Prop) (i : Nat) (p : Pl) (σ : Sto) (h : Heap) (l : Locs) : Prop where
  le : i ≤ vs.length
  C : Lop G env I Cur pB nB hB i p σ h l
  st : stays g σ
  go : goFor (fun v l σ k => opt (bindT t v l) fun l => evB S b l σ k) g (vs.drop i) l σ Q

theorem for_loop (hh : A.handled = none) {t : Tg} {tx : Expr} {b : List Stm} {bx : List Stmt} (ihb : JB G S A b env.scope.names bx) (hok : okTg env.scope.names t tx = true) {I : Addr} {Cur : Pl → Sto → Heap → Nat → Prop} {vs : List V} {g : Option (Nat × List V)} (T : ItS G A I g vs Cur)
    {pB p : Pl} {σ₀ : Sto} {sB : Shared} {σ : Sto} {h : Heap} {tk : Nat} {l : Locs} {Q : Fl → Locs → Sto → Prop} {i : Nat} (bI : G.base.get? I = none) (hBI : sB.heap.get? I = none) (oI : ¬ Own env I)
    (Z : FInv G S env I Cur pB σ₀.length sB.heap t b g vs Q i p σ h l) :
    codeAny (model G.prog G.w) A (.forLoop tx (.ref I) bx [] env) (Oks (Post G (Own env) pB σ₀ sB (RF G env Q))) { sB with heap := h, toks := tk } := by
  refine codeAny_forLoop_any (LpS vs.length sB (FInv G S env I Cur pB σ₀.length sB.heap t b g vs Q)) ?_ _ (.mk i p σ h tk l Z)
  clear Z
  rintro _ _ ⟨i, p, σ, h, tk, l, Z⟩
  have C := Z.C
  have hgo := Z.go
  rcases Nat.lt_or_ge i vs.length with hlt | hge
  · rw [List.drop_eq_getElem_cons hlt] at hgo
    obtain ⟨l', e, hgo⟩ := opt_some hgo
    refine T.item (s := { sB with heap := h, toks := tk }) C.cur C.R Z.st (List.getElem?_eq_getElem hlt) fun c h₁ tk₁ hc hcur k => ?_
    have tp := tups_but (T.noTup C.cur) k
    have R₁ := C.R.other k (T.noTup C.cur) bI C.oI
    have X₁ := C.X.keep (fun b hb o e => k b o (fun z => oI (z ▸ hb)) e) tp (Nat.le_refl _) (fun _ _ => ⟨rfl, rfl⟩) (fun j h1 h2 => absurd h2 (Nat.not_lt.mpr h1))
    refine T.own (s := { sB with heap := h₁, toks := tk₁ }) hcur ?_
    refine tgt_wp (s := { sB with heap := h₁, toks := tk₁ }) hh hok X₁ R₁ hc e fun h₂ tk₂ S₂ R₂ X₂ => ?_
    have S₂' := (C.S.other hBI k).transW S₂
    have cur₂ : Cur p σ h₂ (i + 1) := T.frame hcur (fun o e => S₂.kept I o e C.oI oI) (Nat.le_refl _) (fun _ _ => rfl) (S₂.tups R₁ X₁.noTup)
    refine Post.map (ihb env l' σ p { sB with heap := h₂, toks := tk₂ } _ _ rfl X₂ R₂ hgo) fun f σ₃ h₃ tk₃ p₃ S₃ R₃ r₃ => ?_
    obtain ⟨fl, l₃, hf, X₃, q⟩ := r₃
    have S₃' := S₂'.transW S₃
    have nextI : chk g σ₃ (goFor (fun v l σ k => opt (bindT t v l) fun l => evB S b l σ k) g (vs.drop (i + 1)) l₃ σ₃ Q) → ∃ m, m < vs.length - i ∧ LpS vs.length sB (FInv G S env I Cur pB σ₀.length sB.heap t b g vs Q) m { sB with heap := h₃, toks := tk₃ } := fun hq =>
      ⟨_, Nat.sub_lt_sub_left hlt (Nat.lt_succ_self i), .mk (i + 1) p₃ σ₃ h₃ tk₃ l₃ ⟨hlt, ⟨S₃', R₃, X₃, T.frame cur₂ (fun o e => S₃.kept I o e C.oI oI) S₃.len (fun k hk => (S₃.agree k hk).1) (S₃.tups R₂ X₂.noTup), off_step S₃ (T.alive cur₂) C.oI⟩, hq.1, hq.2⟩⟩
    cases hf with
    | next => exact nextI q
    | cont => exact nextI q
    | brk => exact Post.mk σ₃ h₃ tk₃ p₃ S₃' R₃ ⟨.next, l₃, .next, X₃, q⟩
    | ret hc => exact Post.mk σ₃ h₃ tk₃ p₃ S₃' R₃ ⟨_, l₃, .ret hc, X₃, q⟩
  · cases Nat.le_antisymm Z.le hge
    rw [List.drop_length] at hgo
    refine T.done (s := { sB with heap := h, toks := tk }) C.cur C.R Z.st fun h₁ tk₁ k => wpAny_execs_nil ?_
    exact Post.mk σ h₁ tk₁ p (C.S.other hBI k) (C.R.other k (T.noTup C.cur) bI C.oI) ⟨.next, l, .next, C.X.keep (fun b hb o e => k b o (fun z => oI (z ▸ hb)) e) (tups_but (T.noTup C.cur) k) (Nat.le_refl _) (fun _ _ => ⟨rfl, rfl⟩) (fun j h1 h2 => absurd h2 (Nat.not_lt.mpr h1)), hgo⟩

inductive LpW (sB : Shared) (inv : Nat → Pl → Sto → Heap → Locs → Prop) : Nat → Shared → Prop
  | mk (n : Nat) (p : Pl) (σ : Sto) (h : Heap) (tk : Nat) (l : Locs) : inv n p σ h l → LpW sB inv n { sB with heap := h, toks := tk }
structure WInv (G : G0) (S : Spec) (env : Env) (pB : Pl) (nB : Nat) (hB : Heap) (c : E) (b : List Stm) (Q : Fl → Locs → Sto → Prop) (n : Nat) (p : Pl) (σ : Sto) (h : Heap) (l : Locs) : Prop where
  St : Stp (Own env) pB nB hB p σ.length h
  R : Rp G p σ h
  X : ER G env p σ.length h l
  go : goWhile (fun l σ k => evT S c l σ k) (fun l σ k => evB S b l σ k) n l σ Q
theorem while_loop {c : E} {cx : Expr} {b : List Stm} {bx : List Stmt} (ihc : JT G S A c env.scope.names cx) (ihb : JB G S A b env.scope.names bx) {pB p : Pl} {σ₀ : Sto} {sB : Shared} {σ : Sto} {h : Heap} {tk n : Nat} {l : Locs} {Q : Fl → Locs → Sto → Prop}
    (Z : WInv G S env pB σ₀.length sB.heap c b Q n p σ h l) : codeAny (model G.prog G.w) A (.whileLoop cx bx [] env) (Oks (Post G (Own env) pB σ₀ sB (RF G env Q))) { sB with heap := h, toks := tk } := by
  refine codeAny_whileLoop (LpW sB (WInv G S env pB σ₀.length sB.heap c b Q)) ?_ n (.mk n p σ h tk l Z)
  clear Z
  rintro n _ ⟨p, σ, h, tk, l, Z⟩
  cases n with
  | zero => exact Z.go.elim
  | succ n =>
    refine Post.map (ihc env l σ p { sB with heap := h, toks := tk } _ _ rfl Z.X Z.R Z.go) fun t σ₁ h₁ tk₁ p₁ S₁ R₁ r₁ => ?_
    have X₁ := Z.X.step Z.R S₁
    have S₁' := Z.St.transN S₁
    cases t with
    | false => exact wpAny_execs_nil (Post.mk σ₁ h₁ tk₁ p₁ S₁' R₁ ⟨.next, l, .next, X₁, r₁⟩)
    | true =>
      refine Post.map (ihb env l σ₁ p₁ { sB with heap := h₁, toks := tk₁ } _ _ rfl X₁ R₁ r₁) fun f σ₃ h₃ tk₃ p₃ S₃ R₃ r₃ => ?_
      obtain ⟨fl, l₃, hf, X₃, q⟩ := r₃
      have S₃' := S₁'.transW S₃
      cases hf with
      | next => exact ⟨n, Nat.lt_succ_self _, .mk n p₃ σ₃ h₃ tk₃ l₃ ⟨S₃', R₃, X₃, q⟩⟩
      | cont => exact ⟨n, Nat.lt_succ_self _, .mk n p₃ σ₃ h₃ tk₃ l₃ ⟨S₃', R₃, X₃, q⟩⟩
      | brk => exact Post.mk σ₃ h₃ tk₃ p₃ S₃' R₃ ⟨.next, l₃, .next, X₃, q⟩
      | ret hc => exact Post.mk σ₃ h₃ tk₃ p₃ S₃' R₃ ⟨_, l₃, .ret hc, X₃, q⟩

theorem okNs_kind : ∀ {nm : Nms} {xs : List Nm} {ts : List Expr}, okNs nm xs ts = true → ∀ x ∈ xs, nm.lookup x.str = some .local ∨ nm.lookup x.str = some .cell
  | _, [], _, _, x, hx => nomatch hx
  | nm, y :: r, ts, h, x, hx => onCons_el (P := fun _ => nm.lookup x.str = some .local ∨ nm.lookup x.str = some .cell) h fun t tr h => onNm_el (P := fun _ => nm.lookup x.str = some .local ∨ nm.lookup x.str = some .cell) h fun zp h =>
    (List.mem_cons.mp hx).elim (fun z => z ▸ st_of (and2 h).1) (okNs_kind (and2 h).2 x)

noncomputable def WantsOk (G : G0) (S : Spec) (A : Around) : Prop := ∀ (nm : Nms) (x : Stmt), okS .wants nm x = true → JS G S A .wants nm x

/-! each statement once -/
variable {nm : Nms}
theorem Stp.own {W : Addr → Prop} {p p' : Pl} {n n' : Nat} {h h' : Heap} (S : Stp noW p n h p' n' h') : Stp W p n h p' n' h' := S.weak fun _ _ w => w.elim
theorem js_asg (H : PF G fa K mg mb) (HS : CallOk G fa S d) (hA : Room d A) {n : Nm} {e : E} {v : Expr} {yp pos : Pos} (hst : st nm n = true) (hok : okE e nm v = true) : JS G S A (.asg n e) nm (.Assign [.Name n.str yp] v pos) := fun env l σ p s Q Er hn X R h => by
  subst hn
  have plainWay : swapsWith v (some (.Name n.str yp)) pos.line env = pure false → wpAny (model G.prog G.w) A (exec (.Assign [.Name n.str yp] v pos) env) (Post G (Own env) p σ s (RF G env Q)) Er s := fun hs =>
    wpAny_Assign_Name ((sE H HS hA e _ v hok).go rfl X R h fun c u σ₁ h₁ tk₁ p₁ S₁ R₁ X₁ hu q => X₁.store (s := { s with heap := h₁, toks := tk₁ }) R₁ (st_of hst) hu fun h₂ tk₂ S₂ R₂ X₂ =>
      ⟨σ₁, h₂, tk₂, p₁, S₁.own.transW S₂, R₂, .next, _, .next, X₂, q⟩) hs
  rcases ok_comp (ok_plain hok) with hs | hlc
  · exact plainWay (hs _ _ _)
  · revert hok plainWay
    refine lc_el (P := fun v => okE e env.scope.names v = true → (swapsWith v _ _ _ = _ → wpAny _ _ (exec (.Assign _ v pos) env) (Post G (Own env) p σ s (RF G env Q)) Er s) → wpAny _ _ (exec (.Assign _ v pos) env) (Post G (Own env) p σ s (RF G env Q)) Er s) hlc fun el gens sc lpos hok plainWay => ?_
    obtain ⟨b, hb⟩ := swapsWith_lc (el := el) (gens := gens) (sc := sc) (pos := lpos) (t := n.str) (tp := yp) (line := pos.line) (env := env)
    cases b with
    | false => exact plainWay hb
    | true => exact lc_go H HS hA hb (st_of hst) hok X R h
theorem js_asgT (hA : A.handled = none) {ns : List Nm} {e : E} {ts : List Expr} {k : Nat} {tp : Pos} {v : Expr} {pos : Pos} (hns : okNs nm ns ts = true) (hnd : ns.Nodup) (hsw : okSw v = true) (hv : plainX v = true) (ih : JE G S A e nm v) : JS G S A (.asgT ns e) nm (.Assign [.Tuple ts k tp] v pos) := fun env l σ p s Q Er hn X R h => by
  subst hn
  rw [arm_exec_Assign]
  have hs1 : swapsWithSole [.Tuple ts k tp] v pos.line env = pure false := show swapsWith v (some (.Tuple ts k tp)) pos.line env = pure false from no_swap hv rfl
  refine wpAny_bind (wpAny_standAt (wpAny_bind (wpAny_of_eq hs1 ?_)))
  rw [if_neg Bool.false_ne_true]
  refine wpAny_bind (ih.go rfl X R h fun c u σ₁ h₁ tk₁ p₁ S₁ R₁ X₁ hu r => ?_)
  obtain ⟨vs, ev, r'⟩ := opt_some r
  obtain ⟨l', e', q⟩ := opt_some r'
  clear r r'
  cases V.tup?_eq ev
  have fin : ∀ h₂ tk₂, Stp (Own env) p₁ σ₁.length h₁ p₁ σ₁.length h₂ → Rp G p₁ σ₁ h₂ → ER G env p₁ σ₁.length h₂ l' → Post G (Own env) p σ s (RF G env Q) .next { s with heap := h₂, toks := tk₂ } := fun h₂ tk₂ S₂ R₂ X₂ =>
    ⟨σ₁, h₂, tk₂, p₁, S₁.own.transW S₂, R₂, .next, _, .next, X₂, q⟩
  rcases swap_none (k := k) (pos := tp) hns hsw with hsn | ⟨hsn, hl23⟩
  · refine wpAny_bind (wpAny_of_eq hsn ?_)
    unfold assignStores
    refine wpAny_bind (show wpAny _ _ (assign (.Tuple ts k tp) env c) _ _ _ from ?_)
    exact assign_tup (s := { s with heap := h₁, toks := tk₁ }) hA hns X₁ R₁ hu e' fun h₂ tk₂ S₂ R₂ X₂ => wpAny_pure (fin h₂ tk₂ S₂ R₂ X₂)
  · refine wpAny_bind (wpAny_of_eq hsn ?_)
    unfold assignStores
    refine wpAny_bind (wpAny_rule (wpAny_bind ?_))
    obtain ⟨a, its, rfl, ht, hv⟩ := hu.tup_inv
    rw [show (ns.map Nm.str).length = its.size by rw [List.length_map, size_of_vrs hv, bindL_len e']]
    refine wpAny_unpackItems_tuple (s := { s with heap := h₁, toks := tk₁ }) hA ht fun h' hx => ?_
    have k₀ : ∀ b o, h₁.get? b = some o → h'.get? b = some o := fun b o e => hx b o (Nat.ne_of_lt (Heap.lt_size e)) e
    refine wpAny_bind ?_
    exact store_rev (s := { s with heap := h', toks := tk₁ }) hl23 hnd (okNs_kind hns) (X₁.step R₁ (Stp.grow k₀)) (R₁.grow k₀) ((Stp.grow (W := noW) k₀).vrs (σ' := σ₁) R₁ noTupW_no hv) e' fun h₂ tk₂ S₂ R₂ X₂ => wpAny_pure (fin h₂ tk₂ ((Stp.grow k₀).transW S₂) R₂ X₂)
theorem js_seta (H : PF G fa K mg mb) {o e : E} {f : Fd} {b v : Expr} {ap pos : Pos} (hv : plainX v = true) (iho : JE G S A o nm b) (ih : JE G S A e nm v) : JS G S A (.seta o f e) nm (.Assign [.Attribute b f.str ap] v pos) := fun env l σ p s Q Er hn X R h => by
  refine plainObj_wpAny_Assign_Attribute (ih.go hn X R h fun c u σ₁ h₁ tk₁ p₁ S₁ R₁ X₁ hu r => ?_) (no_swap hv rfl)
  refine iho.go (s := { s with heap := h₁, toks := tk₁ }) hn X₁ R₁ r fun c' w σ₂ h₂ tk₂ p₂ S₂ R₂ X₂ hw r => ?_
  obtain ⟨σ₃, e₃, q⟩ := opt_some r
  refine wp_to (op_setattr (s := { s with heap := h₂, toks := tk₂ }) (R₂.kin H) H.cls rfl R₂ (S₂.vr R₁ noTupW_no hu) hw e₃) fun _ s' z => ?_
  obtain ⟨h₃, tk₃, p₃, S₃, R₃⟩ := z
  exact ⟨σ₃, h₃, tk₃, p₃, ((S₁.transN S₂).transN S₃).own, R₃, .next, l, .next, X₂.step R₂ S₃, q⟩
theorem js_seti (hu : A.units + 2 < cLine) {o i e : E} {b j v : Expr} {ap pos : Pos} (hv : plainX v = true) (iho : JE G S A o nm b) (ihi : JE G S A i nm j) (ih : JE G S A e nm v) : JS G S A (.seti o i e) nm (.Assign [.Subscript b j ap] v pos) := fun env l σ p s Q Er hn X R h => by
  refine wpAny_Assign_Subscript (ih.go hn X R h fun c u σ₁ h₁ tk₁ p₁ S₁ R₁ X₁ hu r => ?_) (no_swap hv rfl)
  refine iho.go (s := { s with heap := h₁, toks := tk₁ }) hn X₁ R₁ r fun c' w σ₂ h₂ tk₂ p₂ S₂ R₂ X₂ hw r => ?_
  refine ihi.go (s := { s with heap := h₂, toks := tk₂ }) hn X₂ R₂ r fun c'' k σ₃ h₃ tk₃ p₃ S₃ R₃ X₃ hk r => ?_
  obtain ⟨σ₄, e₄, q⟩ := opt_some r
  refine wp_to (op_setIdx (s := { s with heap := h₃, toks := tk₃ }) R₃ ‹_› (S₃.vr R₂ noTupW_no hw) hk (S₃.vr R₂ noTupW_no (S₂.vr R₁ noTupW_no hu)) e₄) fun _ s' z => ?_
  obtain ⟨h₄, tk₄, p₄, S₄, R₄⟩ := z
  exact ⟨σ₄, h₄, tk₄, p₄, (((S₁.transN S₂).transN S₃).transN S₄).own, R₄, .next, l, .next, X₃.step R₃ S₄, q⟩
theorem call_el {v : Expr} {P : Expr → Prop} (h : notLC v = true) (k : ∀ f a ks p, P (.Call f a ks p)) : P v := PySem.Expr.Call.elim (motive_1 := P) v (eq_of_beq h) k
theorem js_expr {e : E} {v : Expr} {pos : Pos} (hv : notLC v = true) (ih : JE G S A e nm v) : JS G S A (.expr e) nm (.Expr v pos) := fun env l σ p s Q Er hn X R h => by
  have hi : interactive env = false := by unfold interactive; rw [X.kind]; rfl
  revert ih
  refine call_el (P := fun v => JE G S A e nm v → wpAny _ _ (exec (.Expr v pos) env) (Post G (Own env) p σ s (RF G env Q)) Er s) hv fun f a ks q ih => ?_
  exact wpAny_Expr_any (ih.go hn X R h fun c u σ₁ h₁ tk₁ p₁ S₁ R₁ X₁ hu q => ⟨σ₁, h₁, tk₁, p₁, S₁.own, R₁, .next, l, .next, X₁, q⟩) hi rfl
theorem js_ite {c : E} {a b : List Stm} {t : Expr} {y z : List Stmt} {pos : Pos} (iht : JT G S A c nm t) (iha : JB G S A a nm y) (ihb : JB G S A b nm z) : JS G S A (.ite c a b) nm (.If t y z pos) := fun env l σ p s Q Er hn X R h => by
  refine wpAny_If (Post.map (iht env l σ p s _ Er hn X R h) fun r σ₁ h₁ tk₁ p₁ S₁ R₁ r₁ => ?_)
  have X₁ := X.step R S₁
  cases r with
  | true => exact wp_to (iha env l σ₁ p₁ { s with heap := h₁, toks := tk₁ } _ Er hn X₁ R₁ r₁) fun c s' w => w.after S₁
  | false => exact wp_to (ihb env l σ₁ p₁ { s with heap := h₁, toks := tk₁ } _ Er hn X₁ R₁ r₁) fun c s' w => w.after S₁
theorem oks_to {T : Flow → Shared → Prop} {r : Result} {s' : Shared} : Oks T r s' → (match r with | .ok f => T f s' | .error e => cameBackBy (model G.prog G.w) A env Er e s') := by
  cases r with
  | ok f => exact id
  | error e => exact False.elim
theorem js_for (hA : A.handled = none) {t : Tg} {it : It} {b : List Stm} {tx ix : Expr} {bx : List Stmt} {pos : Pos} (ht : okTg nm t tx = true) (ihi : JI G S A it nm ix) (ihb : JB G S A b nm bx) : JS G S A (.for t it b) nm (.For tx ix bx [] pos) := fun env l σ p s Q Er hn X R h => by
  subst hn
  obtain ⟨hp, hw⟩ := ihi env l σ p s _ Er rfl X R h
  refine wpAny_For (wp_to hw fun xv s₁ h₁ => wp_to h₁ fun itv s₂ h₂ => ?_) (fun v => folded_plain hp env v)
  obtain ⟨I, σ', h', tk', p', vs, g, Cur, S', R', T, c, st, nI, oI, q⟩ := h₂
  have X' := X.step R S'
  exact codeAny_mono (for_loop hA ihb ht T (R.none_of nI) nI (noOwn_fresh X nI) ⟨Nat.zero_le _, ⟨S'.own, R', X', c, oI⟩, st, by rw [List.drop_zero]; exact q⟩) fun _ _ z => oks_to z
theorem js_while {c : E} {b : List Stm} {t : Expr} {bx : List Stmt} {pos : Pos} (iht : JT G S A c nm t) (ihb : JB G S A b nm bx) : JS G S A (.while c b) nm (.While t bx [] pos) := fun env l σ p s Q Er hn X R h => by
  subst hn
  obtain ⟨n, h⟩ := h
  exact wpAny_While (codeAny_mono (while_loop (sB := s) (h := s.heap) (tk := s.toks) iht ihb ⟨.refl, R, X, h⟩) fun _ _ z => oks_to z)
theorem js_ret {e : E} {v : Expr} {pos : Pos} (ih : JE G S A e nm v) : JS G S A (.ret e) nm (.Return (some v) pos) := fun env l σ p s Q Er hn X R h =>
  wpAny_Return_some (ih.go hn X R h fun c u σ₁ h₁ tk₁ p₁ S₁ R₁ X₁ hu q => ⟨σ₁, h₁, tk₁, p₁, S₁.own, R₁, _, l, .ret hu, X₁, q⟩)
theorem js_retn {pos : Pos} : JS G S A .retn nm (.Return none pos) := fun env l σ p s Q Er hn X R h => wpAny_Return_none ⟨σ, s.heap, s.toks, p, .refl, R, _, l, .ret .none, X, h⟩
theorem js_cont {pos : Pos} : JS G S A .cont nm (.Continue pos) := fun env l σ p s Q Er hn X R h => by
  rw [arm_exec_Continue]
  exact wpAny_bind (wpAny_standAt (wpAny_pure ⟨σ, s.heap, s.toks, p, .refl, R, _, l, .cont, X, h⟩))
theorem jb_nil : JB G S A [] nm [] := fun env l σ p s Q Er hn X R h => wpAny_execs_nil ⟨σ, s.heap, s.toks, p, .refl, R, .next, l, .next, X, h⟩
theorem jb_cons {st : Stm} {r : List Stm} {x : Stmt} {ys : List Stmt} (ih : JS G S A st nm x) (ihs : JB G S A r nm ys) : JB G S A (st :: r) nm (x :: ys) := fun env l σ p s Q Er hn X R h => by
  refine wpAny_execs_cons (Post.map (ih env l σ p s _ Er hn X R h) fun f σ₁ h₁ tk₁ p₁ S₁ R₁ r₁ => ?_)
  obtain ⟨fl, l₁, hf, X₁, q⟩ := r₁
  cases hf with
  | next => exact wp_to (ihs env l₁ σ₁ p₁ { s with heap := h₁, toks := tk₁ } _ Er hn X₁ R₁ q) fun f s' w => w.afterW S₁
  | brk => exact ⟨σ₁, h₁, tk₁, p₁, S₁, R₁, .brk, l₁, .brk, X₁, q⟩
  | cont => exact ⟨σ₁, h₁, tk₁, p₁, S₁, R₁, .cont, l₁, .cont, X₁, q⟩
  | ret hc => exact ⟨σ₁, h₁, tk₁, p₁, S₁, R₁, _, l₁, .ret hc, X₁, q⟩

mutual
theorem sS (H : PF G fa K mg mb) (HS : CallOk G fa S d) (hA : Room d A) (HW : WantsOk G S A) : ∀ (st : Stm) (nm : Nms) (x : Stmt), okS st nm x = true → JS G S A st nm x
  | .asg n e, nm, x, hok => onAsg_el (P := JS G S A _ nm) hok fun ts v pos h => on1_el (P := fun ts => JS G S A _ nm (.Assign ts v pos)) h fun t1 h => onNm_el (P := fun t1 => JS G S A _ nm (.Assign [t1] v pos)) h fun yp h => js_asg H HS hA (and2 h).1 (and2 h).2
  | .asgT ns e, nm, x, hok => onAsg_el (P := JS G S A _ nm) hok fun ts v pos h => on1_el (P := fun ts => JS G S A _ nm (.Assign ts v pos)) h fun t1 h => onTuple_el (P := fun t1 => JS G S A _ nm (.Assign [t1] v pos)) h fun ts k tp h => by
    obtain ⟨h1, h⟩ := and2 h
    obtain ⟨h2, h⟩ := and2 h
    obtain ⟨h3, h4⟩ := and2 h
    exact js_asgT hA.handled h1 (of_decide_eq_true h2) h3 (ok_plain h4) (sE H HS hA e nm v h4)
  | .seta o f e, nm, x, hok => onAsg_el (P := JS G S A _ nm) hok fun ts v pos h => on1_el (P := fun ts => JS G S A _ nm (.Assign ts v pos)) h fun t1 h => onAttrM_el (P := fun t1 => JS G S A _ nm (.Assign [t1] v pos)) h fun b ap h =>
      js_seta H (ok_plain (and2 h).2) (sE H HS hA o nm b (and2 h).1) (sE H HS hA e nm v (and2 h).2)
  | .seti o i e, nm, x, hok => onAsg_el (P := JS G S A _ nm) hok fun ts v pos h => on1_el (P := fun ts => JS G S A _ nm (.Assign ts v pos)) h fun t1 h => onSub_el (P := fun t1 => JS G S A _ nm (.Assign [t1] v pos)) h fun b j ap h =>
      js_seti (by have := hA.units; (first | lia | omega)) (ok_plain (and2 (and2 h).2).2) (sE H HS hA o nm b (and2 h).1) (sE H HS hA i nm j (and2 (and2 h).2).1) (sE H HS hA e nm v (and2 (and2 h).2).2)
  | .expr e, nm, x, hok => onEx_el (P := JS G S A _ nm) hok fun v pos h => js_expr (and2 h).1 (sE H HS hA e nm v (and2 h).2)
  | .ite c a b, nm, x, hok => onIf_el (P := JS G S A _ nm) hok fun t y z pos h => js_ite (sT H HS hA c nm t (and2 h).1) (sB H HS hA HW a nm y (and2 (and2 h).2).1) (sB H HS hA HW b nm z (and2 (and2 h).2).2)
  | .for t it b, nm, x, hok => onFor_el (P := JS G S A _ nm) hok fun tx ix bx es pos h => onNil_el (P := fun es => JS G S A _ nm (.For tx ix bx es pos)) h fun h => js_for hA.handled (and2 h).1 (sI H HS hA it nm ix (and2 (and2 h).2).1) (sB H HS hA HW b nm bx (and2 (and2 h).2).2)
  | .while c b, nm, x, hok => onWhile_el (P := JS G S A _ nm) hok fun t bx es pos h => onNil_el (P := fun es => JS G S A _ nm (.While t bx es pos)) h fun h => js_while (sT H HS hA c nm t (and2 h).1) (sB H HS hA HW b nm bx (and2 h).2)
  | .ret e, nm, x, hok => onRet_el (P := JS G S A _ nm) hok fun r pos h => onSome_el (P := fun r => JS G S A _ nm (.Return r pos)) h fun v h => js_ret (sE H HS hA e nm v h)
  | .retn, nm, x, hok => onRet_el (P := JS G S A _ nm) hok fun r pos h => onNone_el (P := fun r => JS G S A _ nm (.Return r pos)) h fun _ => js_retn
  | .cont, nm, x, hok => onCont_el (P := JS G S A _ nm) hok fun pos _ => js_cont
  | .wants, nm, x, hok => HW nm x hok
  | .bad, nm, x, hok => fun env l σ p s Q Er hn X R h => h.elim
theorem sB (H : PF G fa K mg mb) (HS : CallOk G fa S d) (hA : Room d A) (HW : WantsOk G S A) : ∀ (b : List Stm) (nm : Nms) (xs : List Stmt), okB b nm xs = true → JB G S A b nm xs
  | [], nm, xs, hok => onNil_el (P := JB G S A [] nm) hok fun _ => jb_nil
  | st :: r, nm, xs, hok => onCons_el (P := JB G S A (st :: r) nm) hok fun x ys h => jb_cons (sS H HS hA HW st nm x (and2 h).1) (sB H HS hA HW r nm ys (and2 h).2)
end
end
end Mine
namespace Mine
open PySem PySem.W PySem.Calls PyProof.Rows

/-- the facts of a function -/
structure FFx (G : G0) (fa : Fn → Addr) (f : Fn) (o : Obj) (fd : FuncData) (bx : List Stmt) : Prop where
  ho : G.base.get? (fa f) = some o
  hd : o.data = .func fd
  body : fd.body = .stmts bx
  ok : okB f.body fd.scope.names bx = true
  clo : fd.closure = []
  kind : fd.scope.kind = .function
  gen : fd.scope.isGenerator = false
  cor : fd.scope.isCoroutine = false
  glob : fd.globals = mainGlobals
  bi : fd.builtins = builtinsNs
  free : (fd.scope.names.all fun x => x.2 != .free) = true
  st : (f.params.all fun x => st fd.scope.names x) = true
  bind : ∀ cs : List Value, cs.length = f.params.length → bindArgs fd ⟨cs, []⟩ = pure ((f.params.map Nm.str).zip cs)
  code : G.base.CodeRec fd.code fd.qualname
structure FF (G : G0) (fa : Fn → Addr) (f : Fn) : Prop where
  ex : ∃ o fd bx, FFx G fa f o fd bx
  nodup : f.params.Nodup

theorem bindP_len : ∀ {xs : List Nm} {vs : List V} {l : Locs}, bindP xs vs = some l → vs.length = xs.length
  | [], _, _, h => nilO_el (P := fun vs => vs.length = 0) h fun _ => rfl
  | x :: r, _, _, h => unc_el (P := fun vs => vs.length = (x :: r).length) h fun v vr h => (Option.map_eq_some_iff.mp h).elim fun _ z => congrArg Nat.succ (bindP_len z.1)

section
variable {base : Heap} {p : Pl} {n : Nat} {h : Heap} {kindOf : Str → Option NameKind}
theorem bindL_other (xs : List Nm) (cs : List Value) (m : Str → Option Value) (y : Nm) (hy : y ∉ xs) : PySem.bindL kindOf ((xs.map Nm.str).zip cs) m y.str = m y.str := by
  induction xs generalizing cs m with
  | nil => rfl
  | cons x r ih => cases cs with
    | nil => rfl
    | cons c cr =>
      show PySem.bindL kindOf ((r.map Nm.str).zip cr) (if kindOf x.str = some .local then fun z => if z = x.str then some c else m z else m) y.str = _
      rw [ih cr _ fun z => hy (List.mem_cons_of_mem _ z)]
      by_cases h : kindOf x.str = some .local
      · rw [if_pos h]; exact if_neg fun z => hy (by rw [nm_inj z]; exact List.mem_cons_self)
      · rw [if_neg h]
theorem bindC_other (xs : List Nm) (cs : List Value) (m : Str → Option Value) (y : Nm) (hy : y ∉ xs) : PySem.bindC kindOf ((xs.map Nm.str).zip cs) m y.str = m y.str := by
  induction xs generalizing cs m with
  | nil => rfl
  | cons x r ih => cases cs with
    | nil => rfl
    | cons c cr =>
      show PySem.bindC kindOf ((r.map Nm.str).zip cr) (if kindOf x.str = some .local then m else fun z => if z = x.str then some c else m z) y.str = _
      rw [ih cr _ fun z => hy (List.mem_cons_of_mem _ z)]
      by_cases h : kindOf x.str = some .local
      · rw [if_pos h]
      · rw [if_neg h]; exact if_neg fun z => hy (by rw [nm_inj z]; exact List.mem_cons_self)
theorem bind_ok (xs : List Nm) (cs : List Value) (vs : List V) (l : Locs) (m cm : Str → Option Value) (hnd : xs.Nodup) (hv : VRs base p n h cs vs) (e : bindP xs vs = some l) (y : Nm) (v : V) (hy : l y = some v) :
    (kindOf y.str = some .local → ∃ c, PySem.bindL kindOf ((xs.map Nm.str).zip cs) m y.str = some c ∧ VR base p n h c v) ∧
    (kindOf y.str ≠ some .local → ∃ c, PySem.bindC kindOf ((xs.map Nm.str).zip cs) cm y.str = some c ∧ VR base p n h c v) := by
  induction xs generalizing cs vs l m cm with
  | nil =>
    have : l y = none := nilO_el (P := fun _ => l y = none) e fun e => by cases e; rfl
    exact nomatch this.symm.trans hy
  | cons x r ih =>
    revert hv
    refine unc_el (P := fun vs => VRs base p n h cs vs → _) e fun u vr e hv => ?_
    obtain ⟨c, cr, rfl, h1, h2⟩ := hv.uncons
    obtain ⟨l₀, e', rfl⟩ := Option.map_eq_some_iff.mp e
    have ⟨n1, n2⟩ := List.nodup_cons.mp hnd
    unfold upd at hy
    by_cases hxy : y = x
    · subst hxy
      rw [if_pos rfl] at hy; cases hy
      refine ⟨fun hk => ⟨c, ?_, h1⟩, fun hk => ⟨c, ?_, h1⟩⟩
      · exact (bindL_other r cr _ y n1).trans (by rw [if_pos hk]; exact if_pos rfl)
      · exact (bindC_other r cr _ y n1).trans (by rw [if_neg hk]; exact if_pos rfl)
    · rw [if_neg hxy] at hy
      exact ih cr vr l₀ _ _ n2 h2 e' hy
end

section
variable {G : G0} {fa : Fn → Addr} {K : Frag} {mg mb : Str → Option Value} {d : Nat}

theorem er_call {A : Around} {s s₁ : Shared} {p : Pl} {σ : Sto} {fd : FuncData} {a : Addr} {xs : List Nm} {cs : List Value} {vs : List V} {l : Locs} (hk : fd.scope.kind = .function) (hg : fd.globals = mainGlobals) (hb : fd.builtins = builtinsNs) (hfree : (fd.scope.names.all fun x => x.2 != .free) = true)
    (hst : (xs.all fun x => st fd.scope.names x) = true) (hnd : xs.Nodup) (R : Rp G p σ s.heap) (hv : VRs G.base p σ.length s.heap cs vs) (e : bindP xs vs = some l)
    (x : InCallC s (callEnvC fd s.heap.objs.size a).locals (PySem.bindL (callEnvC fd s.heap.objs.size a).kindOf ((xs.map Nm.str).zip cs) fun _ => none) (callEnvC fd s.heap.objs.size a).cells
      (PySem.bindC (callEnvC fd s.heap.objs.size a).kindOf ((xs.map Nm.str).zip cs) fun _ => none) s₁) :
    ER G (callEnvC fd s.heap.objs.size a) p σ.length s₁.heap l := by
  have kall := x.toInCall.keep
  have T : Tups s.heap s₁.heap := fun a its => Exists.imp fun o => And.imp (kall a o) id
  have hv' := VRs.tups hv T
  have offNew : ∀ a, s.heap.objs.size ≤ a → ∀ k, k < σ.length → p.φ k ≠ a ∧ p.δ k ≠ a := fun a ha k => R.off (none_at ha)
  have isC : ∀ y, (callEnvC fd s.heap.objs.size a).kindOf y = some .cell → ((callEnvC fd s.heap.objs.size a).cells.lookup y).isSome = true := fun y hy => by
    have c := cells_ok fd.scope.names (s.heap.push { cls := .type "frame", data := .dict #[] }) [] (fun x a e => by cases e) (fun x y a e => by cases e)
    rw [Heap.size_push] at c
    exact c.has y (.inl (lookup_mem hy))
  have noFree : ∀ y, (callEnvC fd s.heap.objs.size a).kindOf y ≠ some .free := fun y hy => by
    have := List.all_eq_true.mp hfree _ (lookup_mem hy)
    simp at this
  refine ⟨hk, hg, hb, ⟨_, x.toInCall.ns, fun y v hy => ?_⟩, offNew _ (Nat.le_refl _), R.none_of (none_at (Nat.le_refl _)), fun y b hb => ?_, fun y hy => ?_, fun y z b h1 h2 => ?_⟩
  · have q := bind_ok (kindOf := (callEnvC fd s.heap.objs.size a).kindOf) xs cs vs l (fun _ => none) (fun _ => none) hnd hv' e y v hy
    refine ⟨q.1, fun hk => ?_⟩
    rcases hk with hk | hk
    · obtain ⟨c, h1, h2⟩ := q.2 (by rw [hk]; decide)
      obtain ⟨b, hb⟩ := Option.isSome_iff_exists.mp (isC _ hk)
      exact ⟨b, c, hb, h1 ▸ x.cell _ _ hb, h2⟩
    · exact absurd hk (noFree _)
  · have hlt : s.heap.objs.size < b := x.above _ _ (lookup_mem hb)
    exact ⟨⟨_, x.cell _ _ hb⟩, Nat.ne_of_gt hlt, R.none_of (none_at (Nat.le_of_lt hlt)), offNew _ (Nat.le_of_lt hlt)⟩
  · rcases hy with hy | hy
    · exact isC _ hy
    · exact absurd hy (noFree _)
  · exact name_of_addr x.apart (lookup_mem h1) (lookup_mem h2)

theorem own_new {fd : FuncData} {s : Shared} {a : Addr} {b : Addr} (hcl : ∀ x c, (callEnvC fd s.heap.objs.size a).cells.lookup x = some c → s.heap.objs.size < c) (h : Own (callEnvC fd s.heap.objs.size a) b) : s.heap.get? b = none := by
  rcases h with rfl | ⟨x, h⟩
  · exact none_at (Nat.le_refl _)
  · exact none_at (Nat.le_of_lt (hcl x b h))

theorem params_kind {sc : Scope} {xs : List Nm} {cs : List Value} {h : Heap} (hst : (xs.all fun x => st sc.names x) = true) (x : Str × Value) (hx : x ∈ (xs.map Nm.str).zip cs) :
    sc.names.lookup x.1 = some .local ∨ (sc.names.lookup x.1 = some .cell ∧ ((cellsFrom (h.objs.size + 1) sc.names []).lookup x.1).isSome = true) := by
  obtain ⟨y, hy, e⟩ := List.mem_map.mp (List.of_mem_zip (a := x.1) (b := x.2) hx).1
  rw [← e]
  refine (st_of (List.all_eq_true.mp hst y hy)).imp id fun z => ⟨z, ?_⟩
  have c := cells_ok sc.names (h.push { cls := .type "frame", data := .dict #[] }) [] (fun x a e => by cases e) (fun x y a e => by cases e)
  rw [Heap.size_push] at c
  exact c.has _ (.inl (lookup_mem z))
theorem call_body {f : Fn} (H : PF G fa K mg mb) (hF : FF G fa f) (hlim : G.base.NoLimit) (HS : CallOk G fa (Sp d) d) (HW : ∀ A, Room d A → WantsOk G (Sp d) A) {vs : List V} {σ : Sto} {Q : V → Sto → Prop} {p : Pl} {s : Shared} {A : Around} {cs : List Value} (hA : CRoom (d + 1) A)
    (R : Rp G p σ s.heap) (hv : VRs G.base p σ.length s.heap cs vs) (e : Sp (d + 1) f vs σ Q) :
    codeAny (model G.prog G.w) A (.call (.ref (fa f)) ⟨cs, []⟩) (fun r s' => ∃ c, r = .ok (.ret c) ∧ Post G noW p σ s (RE G Q) c s') s := by
  obtain ⟨l, el, hb⟩ := opt_some e
  obtain ⟨o, fd, bx, F⟩ := hF.ex
  have hlen : cs.length = f.params.length := (VRs.length hv).trans (bindP_len el)
  refine codeAny_call_cells (by have := hA.depth; (first | lia | omega)) (R.base _ _ F.ho) F.hd (Heap.NoLimit.at hlim fun o e => R.base _ _ e) (F.code.keeps R.base) F.body (F.bind cs hlen) F.clo (params_kind F.st) (fun s₁ x => ?_) F.cor F.gen F.kind
  have X := er_call (A := A) F.kind F.glob F.bi F.free F.st hF.nodup R hv el x
  have R₁ : Rp G p σ s₁.heap := R.grow x.toInCall.keep
  have hA' := hA.body (callEnvC fd s.heap.objs.size (fa f))
  obtain ⟨h₁, tk₁, hs₁⟩ := x.toInCall.same
  refine Post.map (sB H HS hA' (HW _ hA') f.body fd.scope.names bx F.ok (callEnvC fd s.heap.objs.size (fa f)) l σ p s₁ _ _ rfl X R₁ hb) fun fl σ₂ h₂ tk₂ p₂ S₂ R₂ r₂ => ?_
  obtain ⟨fl', l₂, hf, X₂, q⟩ := r₂
  have S₀ : Stp noW p σ.length s.heap p₂ σ₂.length h₂ := ((Stp.grow (W := Own (callEnvC fd s.heap.objs.size (fa f))) x.toInCall.keep).transW S₂).weak fun b hb w => by
    exact not_here (own_new (fun y c hc => x.above y c (lookup_mem hc)) w) hb rfl
  have he : ({ s₁ with heap := h₂, toks := tk₂ } : Shared) = { s with heap := h₂, toks := tk₂ } := by rw [hs₁]
  rw [he]
  cases hf with
  | next => exact ⟨.none, rfl, σ₂, h₂, tk₂, p₂, S₀, R₂, _, .none, q⟩
  | brk => exact q.elim
  | cont => exact q.elim
  | ret hc => exact ⟨_, rfl, σ₂, h₂, tk₂, p₂, S₀, R₂, _, hc, q⟩

/-- TermBank.__init__ -/
noncomputable def TermInit (G : G0) (fa : Fn → Addr) (d : Nat) : Prop := ∀ (S : Spec) (vs : List V) (σ : Sto) (Q : V → Sto → Prop) (p : Pl) (s : Shared) (A : Around) (cs : List Value), CRoom (d + 1) A → CallOk G fa (Sp d) d → Rp G p σ s.heap → VRs G.base p σ.length s.heap cs vs → Sp (d + 1) .termbank_init vs σ Q →
    codeAny (model G.prog G.w) A (.call (.ref (fa .termbank_init)) ⟨cs, []⟩) (fun r s' => ∃ c, r = .ok (.ret c) ∧ Post G noW p σ s (RE G Q) c s') s

theorem callOk (H : PF G fa K mg mb) (hF : ∀ f, f ≠ .termbank_init → FF G fa f) (hlim : G.base.NoLimit) (hW : ∀ d A, Room d A → WantsOk G (Sp d) A) (hT : ∀ d, TermInit G fa d) : ∀ d, CallOk G fa (Sp d) d
  | 0 => fun f vs σ Q p s A cs _ _ _ e => e.elim
  | d + 1 => fun f vs σ Q p s A cs hA R hv e => by
    by_cases hf : f = .termbank_init
    · subst hf
      exact hT d (Sp d) vs σ Q p s A cs hA (callOk H hF hlim hW hT d) R hv e
    · exact call_body H (hF f hf) hlim (callOk H hF hlim hW hT d) (hW d) hA R hv e
end
end Mine
open PySem PySem.W PyProof.Rows
namespace Mine
noncomputable def topT (tb : String → Option Builtin) (p : Program) (w : World) (n₀ : Nat) (ann : Option Value) : Nat → SharedT → Thread → Option SharedT
  | 0, _, _ => none
  | n + 1, s, t => match through t with
    | true => some s
    | false => match PySem.W.Fast.tw6613529449190102663 n₀ ann t with
      | false => none
      | true => match PySem.W.Fast.tw10156331382660048174 (PySem.W.Fast.tw11892475500146522536 tb) p w s t with
        | some (s', t') => topT tb p w n₀ ann n s' t'
        | none => none
theorem topT_of {tb : String → Option Builtin} {p : Program} {w : World} {n₀ : Nat} {ann : Option Value} : ∀ {n : Nat} {s s' : SharedT} {t : Thread}, topT tb p w n₀ ann n s t = some s' → topRun tb p w n₀ ann n s.abs t = some s'.abs
  | 0, _, _, _, h => by cases h
  | n + 1, s, s', t, h => by
    unfold topT at h
    rw [← PySem.W.Fast.te6613529449190102663, ← PySem.W.Fast.te10156331382660048174, ← PySem.W.Fast.te11892475500146522536] at h
    unfold topRun
    cases he : through t with
    | true => rw [he] at h; cases h; rfl
    | false =>
      rw [he] at h
      cases hk : stepOk n₀ ann t with
      | false => rw [hk] at h; cases h
      | true =>
        rw [hk] at h
        cases hs : stepT (denote tb) p w s t with
        | none => rw [hs] at h; cases h
        | some r => obtain ⟨s₂, t₂⟩ := r; rw [hs] at h; rw [stepT_spec hs]; exact topT_of h
/-- a tree from a list -/
noncomputable def treeOf : List Obj → BT → Nat → BT
  | [], t, _ => t
  | o :: r, t, i => treeOf r (t.ins i o) (i + 1)
noncomputable def boot0 (w : World) (os : OsState) : SharedT := ⟨treeOf (boot_heap w.params).objs.toList .nil 0, 11, (boot_heap w.params).life, #[], boot_drawn, boot_toks, os⟩
theorem boot0_abs (w : World) (os : OsState) : (boot0 w os).abs = ⟨boot_heap w.params, #[], boot_drawn, boot_toks, os⟩ := by kernel_rfl
end Mine
namespace Mine
open PySem PySem.W PySem.Calls PyProof.Rows

/-! the facts of the program, read off the heap that its top leaves -/
noncomputable def fa : Fn → Addr
  | .bank_init => 102 | .bk_declare_sort => 116 | .bk_width_of => 123 | .bk_is_number_sort => 130 | .bk_declare_fun => 144
  | .bk_fresh_const => 158 | .bk_op => 193 | .bk_args => 200 | .bk_sort => 207 | .bk_data => 214 | .bk_width => 221 | .bk_make => 235 | .bk_want => 256
  | .bk_want_all => 263 | .bk_parts => 291 | .bk_parts_of_all => 298 | .bk_eq => 361 | .bk_ite => 375 | .bk_app => 382 | .bk_want_number => 429
  | .bk_plus => 436 | .bk_bv_sort => 520 | .sharing_init => 630 | .sh_has_shared_sort => 637 | .sh_add_term => 644 | .sh_enter_part => 651
  | .sh_is_shared => 658 | .sh_shared_terms => 665 | .law_sift => 749 | .law_shapes => 754 | .law_terms => 759 | .law_is_number => 766
  | .law_due => 771 | .law_told => 776 | .law => 781 | .termbank_init => 513
noncomputable def ca : Cls → Addr
  | .TermBank => 614 | .Sharing => 738
noncomputable def asK : List Addr := [2, 3, 101, 102, 115, 116, 122, 123, 129, 130, 143, 144, 157, 158, 192, 193, 199, 200, 206, 207, 213, 214, 220, 221, 234, 235, 255, 256, 262, 263, 290, 291, 297, 298, 300, 301, 360, 361, 374, 375, 381, 382, 405, 406, 428, 429, 435, 436, 494, 495, 501, 512, 513, 519, 520, 613, 614, 629, 630, 636, 637, 643, 644, 650, 651, 657, 658, 664, 665, 737, 738, 748, 749, 753, 754, 758, 759, 765, 766, 770, 771, 775, 776, 780, 781]
noncomputable def fragOf (h : Heap) : Frag := asK.filterMap fun a => (h.get? a).map fun o => (a, o)
noncomputable def G1 (w : World) (h : Heap) : G0 := ⟨Challenge.rw_rg0214_01.row.prog, w, h, ca⟩
theorem lookup_in {K : Frag} {a : Addr} {o : Obj} (h : K.lookup a = some o) : (a, o) ∈ K := by
  induction K with
  | nil => cases h
  | cons p r ih =>
    obtain ⟨b, x⟩ := p
    simp only [List.lookup] at h
    split at h
    · rename_i q; cases h; rw [beq_iff_eq.mp q]; exact List.mem_cons_self
    · exact List.mem_cons_of_mem _ (ih h)
theorem fragOf_in (h : Heap) : (fragOf h).In h := fun a o e => by
  obtain ⟨b, _, hb⟩ := List.mem_filterMap.mp (lookup_in e)
  obtain ⟨o', h1, h2⟩ := Option.map_eq_some_iff.mp hb
  cases h2; exact h1

noncomputable def allCls : List Cls := [.TermBank, .Sharing]
noncomputable def allGl : List Gl := [.INT, .REAL, .BOOL, .WIDEST]
noncomputable def allBi : List Bi := [.len, .tuple, .min, .max, .sorted, .list, .int, .str]
noncomputable def allFn : List Fn := [.bank_init, .bk_declare_sort, .bk_width_of, .bk_is_number_sort, .bk_declare_fun, .bk_fresh_const, .bk_op, .bk_args, .bk_sort, .bk_data, .bk_width, .bk_make, .bk_want, .bk_want_all, .bk_parts, .bk_parts_of_all, .bk_eq, .bk_ite, .bk_app, .bk_want_number, .bk_plus, .bk_bv_sort, .sharing_init, .sh_has_shared_sort, .sh_add_term, .sh_enter_part, .sh_is_shared, .sh_shared_terms, .law_sift, .law_shapes, .law_terms, .law_is_number, .law_due, .law_told, .law, .termbank_init]
theorem mem_allCls (x : Cls) : x ∈ allCls := by cases x <;> decide
theorem mem_allGl (x : Gl) : x ∈ allGl := by cases x <;> decide
theorem mem_allBi (x : Bi) : x ∈ allBi := by cases x <;> repeat (first | exact List.Mem.head _ | apply List.Mem.tail)
theorem mem_allFn (f : Fn) : f ∈ allFn := by cases f <;> decide

noncomputable def fdAt (K : Frag) (a : Addr) : Option FuncData := match K.lookup a with
  | some o => (match o.data with
    | .func fd => some fd
    | _ => none)
  | none => none
theorem fd_of {K : Frag} {h : Heap} (X : K.In h) {a : Addr} {fd : FuncData} (e : fdAt K a = some fd) : ∃ o, h.get? a = some o ∧ o.data = .func fd := by
  unfold fdAt at e
  split at e
  · rename_i o ho
    split at e
    · rename_i d hd; cases e; exact ⟨o, X _ _ ho, hd⟩
    · cases e
  · cases e
noncomputable def onBody (f : List Stmt → Bool) (x : FuncBody) : Bool := FuncBody.casesOn x f fun _ => false
theorem onBody_el {f : List Stmt → Bool} {x : FuncBody} (h : onBody f x = true) : ∃ bx, x = .stmts bx ∧ f bx = true := by
  cases x with
  | stmts bx => exact ⟨bx, rfl, h⟩
  | expr _ => cases h
noncomputable def bodyOk (f : Fn) (fd : FuncData) : Bool := onBody (okB f.body fd.scope.names) fd.body
noncomputable def onRefV (f : Addr → Option (Array Value)) (v : Value) : Option (Array Value) := match v with
  | .ref c => f c
  | _ => none
theorem onRefV_el {f : Addr → Option (Array Value)} {v : Value} {vs : Array Value} (h : onRefV f v = some vs) : ∃ c, v = .ref c ∧ f c = some vs := by
  cases v <;> first | exact ⟨_, rfl, h⟩ | exact nomatch (show none = some vs from h)
noncomputable def flds (d : Data) : Option (Array Value) := match d with
  | .fields vs => some vs
  | _ => none
theorem flds_el {d : Data} {vs : Array Value} (h : flds d = some vs) : d = .fields vs := by
  cases d <;> first | exact congrArg _ (Option.some.inj h) | exact nomatch (show none = some vs from h)
noncomputable def codeVs (K : Frag) (v : Value) : Option (Array Value) := onRefV (fun c => (K.lookup c).bind fun o => flds o.data) v
noncomputable def strAt (vs : Array Value) (i : Nat) : Option Str := match (vs[i]? : Option Value) with
  | some (Value.str q _) => some q
  | _ => none
theorem codeVs_of {K : Frag} {h : Heap} (X : K.In h) {v : Value} {vs : Array Value} (e : codeVs K v = some vs) : ∃ c o, v = .ref c ∧ h.get? c = some o ∧ o.data = .fields vs :=
  let ⟨c, hc, e⟩ := onRefV_el e
  let ⟨o, ho, e⟩ := Option.bind_eq_some_iff.mp e
  ⟨c, o, hc, X _ _ ho, flds_el e⟩
theorem strAt_of {vs : Array Value} {i : Nat} {q : Str} (e : strAt vs i = some q) : ∃ t, vs[i]? = some (.str q t) := by
  unfold strAt at e
  split at e
  · rename_i x t h; cases e; exact ⟨t, h⟩
  · cases e
noncomputable def ffOk (K : Frag) (f : Fn) (fd : FuncData) : Bool := bodyOk f fd && (fd.closure.isEmpty && ((fd.scope.kind == .function) && (!fd.scope.isGenerator && (!fd.scope.isCoroutine && ((fd.globals == mainGlobals) && ((fd.builtins == builtinsNs) &&
    ((fd.scope.names.all fun x => x.2 != .free) && ((f.params.all fun x => st fd.scope.names x) && ((codeVs K fd.code).bind (strAt · 1) == some fd.qualname)))))))))
/-- plain parameters -/
noncomputable def bindOk (f : Fn) (fd : FuncData) : Bool := fd.params.posonlyargs.isEmpty && (decide (fd.params.args.map (·.arg) = f.params.map Nm.str) && (fd.params.vararg.isNone && (fd.params.kwonlyargs.isEmpty && (fd.params.kwarg.isNone && decide (fd.defaults = .none)))))

/-- the shape of TermBank.__init__ -/
noncomputable def tiBody : FuncBody → Bool := onBody (on2 fun s1 s2 => onEx (fun c _ => onCallA (fun o ini ap xs ps => onNil (onCallN (fun su _ ys _ => onNil (decide (su = ("super" : Str)) && (decide (ini = ("__init__" : Str)) && (ap.endLine == ps.line))) ys) o) xs) c) s1 &&
  onAsg (fun ts v _ => on1 (onAttr fun b a _ => onName (fun se _ => onDict (fun ks vs _ => onNil (onNil (decide (se = Nm.n_self.str) && decide (a = Fd.f_bv_numbers.str)) vs) ks) v) b) ts) s2)
noncomputable def tiCode (K : Frag) (file : Str) (q : Str) (v : Value) : Bool := onSome (fun vs => (strAt vs 2 == some file) && (strAt vs 1 == some q)) (codeVs K v)
noncomputable def tiOk (K : Frag) (file : Str) (fd : FuncData) : Bool := tiBody fd.body && (decide (fd.closure = [(("__class__" : Str), 501)]) && ((fd.scope.kind == .function) && (!fd.scope.isGenerator && (!fd.scope.isCoroutine && ((fd.globals == mainGlobals) && ((fd.builtins == builtinsNs) &&
    ((fd.scope.names.all fun x => x.2 != .cell) && ((fd.scope.names.lookup Nm.n_self.str == some .local) && ((fd.scope.names.lookup ("super" : Str) == some .globalImplicit) && ((fd.scope.names.lookup ("__class__" : Str) == some .free) &&
    (((fd.params.posonlyargs ++ fd.params.args).head?.map (·.arg) == some Nm.n_self.str) && tiCode K file fd.qualname fd.code)))))))))))
noncomputable def cellAt (K : Frag) (a : Addr) : Option Value := match K.lookup a with
  | some o => (match o.data with
    | .cell v => v
    | _ => none)
  | none => none
theorem cell_of {K : Frag} {h : Heap} (X : K.In h) {a : Addr} {v : Value} (e : cellAt K a = some v) : h.IsCell a (some v) := by
  unfold cellAt at e
  split at e
  · rename_i o ho
    split at e
    · rename_i u hu; subst e; exact ⟨o, X _ _ ho, hu⟩
    · cases e
  · cases e

theorem filterMap_all {β : Type} {f : Str → Option β} : ∀ {xs : List Str} {ys : List β}, xs.map f = ys.map some → xs.filterMap f = ys
  | [], [], _ => rfl
  | [], _ :: _, h => by cases h
  | _ :: _, [], h => by cases h
  | x :: r, y :: s, h => by
    rw [List.filterMap_cons, (List.cons.inj h).1]
    exact congrArg (y :: ·) (filterMap_all (List.cons.inj h).2)
theorem lookup_zip : ∀ {xs : List Str} {cs : List Value}, xs.Nodup → cs.length = xs.length → (xs.map fun n => (xs.zip cs).lookup n) = cs.map some
  | [], [], _, _ => rfl
  | [], _ :: _, _, h => by cases h
  | _ :: _, [], _, h => by cases h
  | x :: r, c :: cr, hn, hl => by
    have ⟨hx, hr⟩ := List.nodup_cons.mp hn
    rw [List.map_cons, List.map_cons, ← lookup_zip hr (Nat.succ.inj hl)]
    refine congr (congrArg List.cons ?_) (List.map_congr_left fun n h => ?_)
    · show (match x == x with | true => some c | false => (r.zip cr).lookup x) = _
      rw [beq_self_eq_true]
    · show (match n == x with | true => some c | false => (r.zip cr).lookup n) = _
      rw [beq_eq_false_iff_ne.mpr fun e => hx (by rw [← e]; exact h)]
theorem zip_map {xs : List Str} {cs : List Value} (hl : cs.length = xs.length) {f : Str → Option Value} (h : xs.map f = cs.map some) : (xs.map fun n => (f n).map (n, ·)) = (xs.zip cs).map some := by
  induction xs generalizing cs with
  | nil => cases cs with
    | nil => rfl
    | cons _ _ => cases hl
  | cons x r ih => cases cs with
    | nil => cases hl
    | cons c cr =>
      have ⟨h1, h2⟩ := List.cons.inj h
      rw [List.map_cons, h1, ih (Nat.succ.inj hl) h2]; rfl
theorem bind_all {fd : FuncData} {cs : List Value} {ns : List Str} (h1 : fd.params.posonlyargs = []) (h2 : fd.params.args.map (·.arg) = ns) (h3 : fd.params.vararg = none) (h4 : fd.params.kwonlyargs = []) (h5 : fd.params.kwarg = none) (h6 : fd.defaults = .none)
    (hn : ns.Nodup) (hl : cs.length = ns.length) : bindArgs fd ⟨cs, []⟩ = pure (ns.zip cs) := by
  have i1 := lookup_zip hn hl
  have i2 := filterMap_all (zip_map hl i1)
  have m : (ns.filter fun n => ((ns.zip cs).lookup n).isNone) = [] := List.filter_eq_nil_iff.mpr fun n h => by
    have : (ns.zip cs).lookup n ∈ cs.map some := i1 ▸ List.mem_map_of_mem h
    obtain ⟨c, _, e⟩ := List.mem_map.mp this
    rw [← e]; exact Bool.false_ne_true
  obtain ⟨nm, q, ⟨po, ar, va, ko, kd, ka, df⟩, body, scope, gl, cl, de, kwd, d1, d2, d3, d4, d5, d6⟩ := fd
  cases h1; cases h3; cases h4; cases h5; cases h6
  dsimp only at h2
  unfold bindArgs
  dsimp only
  rw [show seqItems? Value.none = (pure none : Sem _) from rfl]
  simp only [h2, List.map_nil, List.nil_append, List.append_nil, List.forIn_nil, pure_bind, hl, Nat.lt_irrefl, gt_iff_lt, decide_false, Bool.false_and, Bool.false_eq_true, if_false, Option.getD_none, List.drop_nil, List.length_nil, Nat.sub_zero, List.take_length, m, List.isEmpty_nil, Bool.not_true, List.zip_nil_right, i2]
theorem k_nodup (f : Fn) : f.params.Nodup := by cases f <;> decide
theorem bind_of {f : Fn} {fd : FuncData} (h : bindOk f fd = true) {cs : List Value} (hl : cs.length = f.params.length) : bindArgs fd ⟨cs, []⟩ = pure ((f.params.map Nm.str).zip cs) := by
  unfold bindOk at h
  simp only [Bool.and_eq_true, List.isEmpty_iff, Option.isNone_iff_eq_none, decide_eq_true_eq] at h
  obtain ⟨h1, h2, h3, h4, h5, h6⟩ := h
  exact bind_all h1 h2 h3 h4 h5 h6 ((k_nodup f).map _ fun _ _ e z => e (nm_inj z)) (by rw [List.length_map, hl])
noncomputable def clsOk (K : Frag) (C : Cls) : Bool := (findIn K (.ref (ca C)) "__getattribute__" == some (some (.builtin "object.__getattribute__"))) && ((findIn K (.ref (ca C)) "__getattr__" == some none) &&
  ((findIn K (.ref (ca C)) "__setattr__" == some (some (.builtin "object.__setattr__"))) && (plainOver K (ca C) && (hasDictIn K (ca C) && (makesIn K (ca C) && ((allFd.all fun f => findIn K (.ref (ca C)) f.str == some none) &&
  (nsIn K mainGlobals C.str == some (some (.ref (ca C))))))))))
noncomputable def fnOk (K : Frag) (f : Fn) : Bool := (!f.isMeth || findIn K (.ref (ca f.owner)) f.nm == some (some (.ref (fa f)))) && ((typeIn K (.ref (fa f)) == some (.type "function")) && ((!f.isFun || nsIn K mainGlobals f.nm == some (some (.ref (fa f)))) &&
  (match fdAt K (fa f) with
    | some fd => bindOk f fd && (decide (f = .termbank_init) || ffOk K f fd)
    | none => false)))
noncomputable def glOk (K : Frag) (g : Gl) : Bool := match nsIn K mainGlobals g.str with
  | some (some (.int i _)) => i == g.val
  | _ => false
noncomputable def tisOk (K : Frag) : Bool := match fdAt K 513 with
  | some fd => tiOk K Challenge.rw_rg0214_01.row.prog.main.file fd
  | none => false
noncomputable def nones : List String := ["set", "range", "zip", "reversed", "super"]
noncomputable def allOk (K : Frag) : Bool := (allCls.all (clsOk K)) && ((allFn.all (fnOk K)) && ((allGl.all (glOk K)) && ((allBi.all fun b => nsIn K mainGlobals b.nam == some none) && ((nones.all fun b => nsIn K mainGlobals b == some none) &&
  ((findIn K (.ref (ca .TermBank)) "__init__" == some (some (.ref (fa .termbank_init)))) && ((findIn K (.ref (ca .Sharing)) "__init__" == some (some (.ref (fa .sharing_init)))) && (tisOk K && ((cellAt K 501 == some (.ref 614)) &&
  ((mroIn K 614 (.ref 614) == some true) && ((nsIn K cStatics "thirdparty.any" == some none) && ((ks_superIn K 614 614 "__init__" == some (some (.ref 102))) && fnIn K 102)))))))))))
structure Facts (K : Frag) : Prop where
  cls : ∀ C, clsOk K C = true
  fn : ∀ f, fnOk K f = true
  gl : ∀ g, glOk K g = true
  bi : ∀ b : Bi, nsIn K mainGlobals b.nam = some none
  no : ∀ b ∈ nones, nsIn K mainGlobals b = some none
  ini : findIn K (.ref (ca .TermBank)) "__init__" = some (some (.ref (fa .termbank_init)))
  ini2 : findIn K (.ref (ca .Sharing)) "__init__" = some (some (.ref (fa .sharing_init)))
  ti : tisOk K = true
  cell : cellAt K 501 = some (.ref 614)
  mro : mroIn K 614 (.ref 614) = some true
  opq : nsIn K cStatics "thirdparty.any" = some none
  sin : ks_superIn K 614 614 "__init__" = some (some (.ref 102))
  fn102 : fnIn K 102 = true
theorem facts_of {K : Frag} (h : allOk K = true) : Facts K := by
  unfold allOk at h
  simp only [Bool.and_eq_true, beq_iff_eq, List.all_eq_true] at h
  obtain ⟨h1, h2, h3, h4, h5, h6, h7, h8, h9, h10, h11, h12, h13⟩ := h
  exact ⟨fun C => h1 C (mem_allCls C), fun f => h2 f (mem_allFn f), fun g => h3 g (mem_allGl g), fun b => h4 b (mem_allBi b), h5, h6, h7, h8, h9, h10, h11, h12, h13⟩
end Mine
namespace Mine
open PySem PySem.W PySem.Calls PyProof.Rows

section
variable {prog : Program} {w : World} {A : Around} {E : Value → Shared → Prop} {s : Shared}

/-- the next of a tuple's iterator, asked by a built-in -/
theorem nextOf_tup {it t : Addr} {i : Nat} {its : Array Value} {x : Value} {Q : Value → Shared → Prop} (hit : s.heap.IsTupleIter it t i) (ht : s.heap.IsTuple t its) (hx : its[i]? = some x)
    (q : ∀ h', h'.IsTupleIter it t (i + 1) → Heap.SameBut it s.heap h' → Q x { s with heap := h' }) : wpAny (model prog w) A (Builtin.SmallTypes.nextOf (.ref it)) Q E s := by
  obtain ⟨o, ho, hc, hd⟩ := id hit
  obtain ⟨ot, hot, _, n, hdt⟩ := ht
  have hne : ¬ ((Value.ref t == Value.none) = true) := Bool.false_ne_true
  unfold Builtin.SmallTypes.nextOf
  refine wpAny_bind (wpAny_callSpecial?_slot (name := Str.ofString "__next__") hit.typeIs F.slot_tuple_iterator_next
    (wpAny_call_entry F.slot_tuple_iterator_next hit.typeIs F.entry_tuple_iterator_next ?_ (F.args_tuple_iterator_next_1 _)))
  show wpAny _ _ (field (.ref it) 0 >>= _) _ _ s
  refine wpAny_bind (wpAny_field ho hd (x := .ref t) rfl ?_)
  show wpAny _ _ (if (Value.ref t == Value.none) = true then _ else _) _ _ s
  rw [if_neg hne]
  show wpAny _ _ (field (.ref it) 1 >>= _) _ _ s
  refine wpAny_bind (wpAny_field ho hd (x := .int i 0) rfl ?_)
  show wpAny _ _ (seqItems? (.ref t) >>= _) _ _ s
  refine wpAny_bind (wpAny_seqItems hot hdt ?_)
  simp only [Int.toNat_natCast, hx]
  refine wpAny_bind (wpAny_setField ho hd (by simp) (wpAny_pure ⟨x, rfl, wpAny_pure (q _ ⟨_, Heap.get?_update_self _ ho (Obj.isFreed_of_fields (Obj.data_mapFields hd _)), (Obj.cls_mapFields ..).trans hc, ?_⟩ (Heap.SameBut.update ..))⟩))
  rw [Obj.data_mapFields hd]; simp [rawInt]

variable {z TI TO i1 i2 l1 l2 : Addr}
/-- an item of zip over a list and a tuple -/
theorem zl_item {k : Nat} {xs ys : Array Value} {x y a b : Value} {Q : Value → Shared → Prop} (D : ZipApart z TI TO i1 i2 l1 l2)
    (hz : IsZip s.heap z TI TO .none) (hTI : IsPair s.heap TI (.ref i1) (.ref i2)) (hTO : IsPair s.heap TO a b)
    (h1 : s.heap.IsListIter i1 l1 k) (h2 : s.heap.IsTupleIter i2 l2 k) (hl1 : s.heap.IsList l1 xs) (hl2 : s.heap.IsTuple l2 ys) (hx : xs[k]? = some x) (hy : ys[k]? = some y)
    (q : ∀ h', IsZip h' z TI TO (rawInt s.heap.objs.size) → IsPair h' TO x y → h'.IsListIter i1 l1 (k + 1) → h'.IsTupleIter i2 l2 (k + 1) → IsPair h' s.heap.objs.size x y →
      (∀ c o, c ≠ z → c ≠ TO → c ≠ i1 → c ≠ i2 → s.heap.get? c = some o → h'.get? c = some o) → Q (.ref s.heap.objs.size) { s with heap := h' }) :
    wpAny (model prog w) A (Builtin.«zip.__next__» ⟨[.ref z], []⟩) (fun fin s' => ∃ v, fin = .done (.ret v) ∧ Q v s') E s := by
  show wpAny _ _ (field (.ref z) 2 >>= _) _ _ _
  refine wpAny_bind (wpAny_field hz rfl (x := .bool false) rfl ?_)
  show wpAny _ _ (field (.ref z) 3 >>= _) _ _ _
  refine wpAny_bind (wpAny_field hz rfl (x := .ref TI) rfl ?_)
  refine wpAny_bind (wpAny_seqItems hTI rfl ?_)
  show wpAny _ _ (Builtin.SmallTypes.ownedTupleIsFree (.ref z) >>= _) _ _ _
  refine wpAny_bind ?_
  unfold Builtin.SmallTypes.ownedTupleIsFree
  refine wpAny_bind (wpAny_field hz rfl (x := .none) rfl (wpAny_pure ?_))
  simp only [if_true]
  refine wpAny_bind (wpAny_rule ?_)
  refine wpAny_bind (wpAny_field hz rfl (x := .ref TO) rfl ?_)
  refine wpAny_bind (wpAny_setField_rec hz (by simp) fun g1 z1 s1 => ?_)
  have z1 : IsZip g1 z TI TO .ellipsis := z1
  refine wpAny_bind ?_
  simp only [List.zipIdx_cons, List.zipIdx_nil, List.forIn_cons, List.forIn_nil]
  refine wpAny_bind (wpAny_bind (wpAny_onRaise ?_))
  show wpAny _ _ (Builtin.SmallTypes.nextOf (.ref i1) >>= _) _ _ _
  refine wpAny_bind (wpAny_nextOf_list_item (h1.extBut s1.extBut D.i1z) (hl1.extBut s1.extBut D.l1z) hx fun g2 a2 s2 => wpAny_pure ?_)
  have o2 : IsPair g2 TO a b := s2.extBut _ _ D.TOi1 (s1.extBut _ _ D.TOz hTO)
  refine wpAny_bind (wpAny_seqItems o2 rfl ?_)
  refine wpAny_bind (wpAny_updateSeq_pair o2 fun g3 o3 s3 => ?_)
  have o3 : IsPair g3 TO x b := o3
  refine wpAny_bind (wpAny_letGo (wpAny_pure ?_))
  refine wpAny_bind (wpAny_bind (wpAny_onRaise ?_))
  show wpAny _ _ (Builtin.SmallTypes.nextOf (.ref i2) >>= _) _ _ _
  have b3 : g3.IsTupleIter i2 l2 k := ((h2.extBut s1.extBut D.i2z).extBut s2.extBut D.i12.symm).extBut s3.extBut D.TOi2.symm
  have y3 : g3.IsTuple l2 ys := ((hl2.extBut s1.extBut D.l2z).extBut s2.extBut D.l2i1).extBut s3.extBut D.l2TO
  refine wpAny_bind (nextOf_tup (s := { s with heap := g3 }) b3 y3 hy fun g4 b4 s4 => wpAny_pure ?_)
  have o4 : IsPair g4 TO x b := s4.extBut _ _ D.TOi2 o3
  refine wpAny_bind (wpAny_seqItems o4 rfl ?_)
  refine wpAny_bind (wpAny_updateSeq_pair o4 fun g5 o5 s5 => ?_)
  have o5 : IsPair g5 TO x y := o5
  refine wpAny_bind (wpAny_letGo (wpAny_pure (wpAny_pure ?_)))
  refine wpAny_bind (wpAny_seqItems o5 rfl ?_)
  refine wpAny_bind (wpAny_newTuple ?_)
  have size : g5.objs.size = s.heap.objs.size := by rw [s5.1, s4.1, s3.1, s2.1, s1.1]
  have kept : ∀ c o, c ≠ z → c ≠ TO → c ≠ i1 → c ≠ i2 → s.heap.get? c = some o → g5.get? c = some o := fun c o q1 q2 q3 q4 e =>
    s5.extBut _ _ q2 (s4.extBut _ _ q4 (s3.extBut _ _ q2 (s2.extBut _ _ q3 (s1.extBut _ _ q1 e))))
  have z5 : IsZip g5 z TI TO .ellipsis := s5.extBut _ _ D.TOz.symm (s4.extBut _ _ D.i2z.symm (s3.extBut _ _ D.TOz.symm (s2.extBut _ _ D.i1z.symm z1)))
  have a5 : g5.IsListIter i1 l1 (k + 1) := ((a2.extBut s3.extBut D.TOi1.symm).extBut s4.extBut D.i12).extBut s5.extBut D.TOi1.symm
  have b5 : g5.IsTupleIter i2 l2 (k + 1) := b4.extBut s5.extBut D.TOi2.symm
  have zlt : z < g5.objs.size := Heap.lt_size z5
  show wpAny _ _ (Builtin.SmallTypes.ownedTupleHandOut (.ref z) (.ref g5.objs.size) >>= _) _ _ _
  refine wpAny_bind ?_
  unfold Builtin.SmallTypes.ownedTupleHandOut
  have z6 : IsZip (g5.push { cls := .type "tuple", data := .seq #[x, y] }) z TI TO .ellipsis := Heap.get?_push_of_some _ z5
  refine wpAny_bind (wpAny_setField_rec z6 (by simp) fun g7 z7 s7 => ?_)
  have z7 : IsZip g7 z TI TO (rawInt g5.objs.size) := z7
  refine wpAny_setField_rec z7 (by simp) fun g8 z8 s8 => ?_
  have z8 : IsZip g8 z TI TO (rawInt g5.objs.size) := z8
  have up : ∀ c o, c ≠ z → g5.get? c = some o → g8.get? c = some o := fun c o q1 e => s8.extBut _ _ q1 (s7.extBut _ _ q1 (Heap.get?_push_of_some _ e))
  have t8 : IsPair g8 g5.objs.size x y := s8.extBut _ _ (Nat.ne_of_gt zlt) (s7.extBut _ _ (Nat.ne_of_gt zlt) (Heap.get?_push_size _ rfl))
  rw [size] at z8 t8
  refine wpAny_pure ⟨_, rfl, ?_⟩
  show Q (.ref g5.objs.size) _
  rw [size]
  exact q g8 z8 (up _ _ D.TOz o5) (a5.at fun o e => up _ o D.i1z e) (let ⟨o, e, r⟩ := b5; ⟨o, up _ o D.i2z e, r⟩) t8 fun c o q1 q2 q3 q4 e => up c o q1 (kept c o q1 q2 q3 q4 e)

theorem zl_next {k : Nat} {xs ys : Array Value} {x y a b : Value} {Q : Option Value → Shared → Prop} (D : ZipApart z TI TO i1 i2 l1 l2)
    (hz : IsZip s.heap z TI TO .none) (hTI : IsPair s.heap TI (.ref i1) (.ref i2)) (hTO : IsPair s.heap TO a b)
    (h1 : s.heap.IsListIter i1 l1 k) (h2 : s.heap.IsTupleIter i2 l2 k) (hl1 : s.heap.IsList l1 xs) (hl2 : s.heap.IsTuple l2 ys) (hx : xs[k]? = some x) (hy : ys[k]? = some y)
    (q : ∀ h', IsZip h' z TI TO (rawInt s.heap.objs.size) → IsPair h' TO x y → h'.IsListIter i1 l1 (k + 1) → h'.IsTupleIter i2 l2 (k + 1) → IsPair h' s.heap.objs.size x y →
      (∀ c o, c ≠ z → c ≠ TO → c ≠ i1 → c ≠ i2 → s.heap.get? c = some o → h'.get? c = some o) → Q (some (.ref s.heap.objs.size)) { s with heap := h' }) :
    wpAny (model prog w) A (pyNext (.ref z)) Q E s := by
  have hT : s.TypeIs (.ref z) "zip" := ⟨_, hz, rfl⟩
  unfold pyNext
  exact wpAny_bind (wpAny_attempt (wpAny_callSpecial?_slot (name := Str.ofString "__next__") hT F.slot_zip_next
    (wpAny_call_entry F.slot_zip_next hT F.entry_zip_next (zl_item D hz hTI hTO h1 h2 hl1 hl2 hx hy fun h' q1 q2 q3 q4 q5 q6 => wpAny_pure (q h' q1 q2 q3 q4 q5 q6)) (F.args_zip_next_1 _))))

theorem zl_done {k : Nat} {xs : Array Value} {Q : Option Value → Shared → Prop} (hh : A.handled = none) (i1z : i1 ≠ z) (l1z : l1 ≠ z)
    (hz : IsZip s.heap z TI TO .none) (hTI : IsPair s.heap TI (.ref i1) (.ref i2)) (h1 : s.heap.IsListIter i1 l1 k) (hl1 : s.heap.IsList l1 xs) (hx : xs[k]? = none)
    (q : ∀ h', (∀ c o, c ≠ z → c ≠ i1 → s.heap.get? c = some o → h'.get? c = some o) → Q none { s with heap := h' }) : wpAny (model prog w) A (pyNext (.ref z)) Q E s := by
  have hT : s.TypeIs (.ref z) "zip" := ⟨_, hz, rfl⟩
  unfold pyNext
  refine wpAny_bind (wpAny_attempt (wpAny_callSpecial?_slot (name := Str.ofString "__next__") hT F.slot_zip_next
    (wpAny_call_entry F.slot_zip_next hT F.entry_zip_next ?_ (F.args_zip_next_1 _))))
  show wpAny _ _ (field (.ref z) 2 >>= _) _ _ _
  refine wpAny_bind (wpAny_field hz rfl (x := .bool false) rfl ?_)
  show wpAny _ _ (field (.ref z) 3 >>= _) _ _ _
  refine wpAny_bind (wpAny_field hz rfl (x := .ref TI) rfl ?_)
  refine wpAny_bind (wpAny_seqItems hTI rfl ?_)
  show wpAny _ _ (Builtin.SmallTypes.ownedTupleIsFree (.ref z) >>= _) _ _ _
  refine wpAny_bind ?_
  unfold Builtin.SmallTypes.ownedTupleIsFree
  refine wpAny_bind (wpAny_field hz rfl (x := .none) rfl (wpAny_pure ?_))
  simp only [if_true]
  refine wpAny_bind (wpAny_rule ?_)
  refine wpAny_bind (wpAny_field hz rfl (x := .ref TO) rfl ?_)
  refine wpAny_bind (wpAny_setField_rec hz (by simp) fun g1 z1 s1 => ?_)
  have z1 : IsZip g1 z TI TO .ellipsis := z1
  refine wpAny_bind ?_
  simp only [List.zipIdx_cons, List.zipIdx_nil, List.forIn_cons, List.forIn_nil]
  refine wpAny_bind (wpAny_bind (wpAny_onRaise ?_))
  show wpAny _ _ (Builtin.SmallTypes.nextOf (.ref i1) >>= _) _ _ _
  refine wpAny_bind (wpAny_nextOf_list_end hh (h1.extBut s1.extBut i1z) (hl1.extBut s1.extBut l1z) hx fun g2 e s2 he => ?_)
  obtain ⟨oe, hoe, hce⟩ := he
  have z2 : IsZip g2 z TI TO .ellipsis := s2 _ _ i1z.symm z1
  have hez : e ≠ z := fun y => by subst y; rw [z2] at hoe; cases hoe; simp at hce
  refine wpAny_setField_rec z2 (by simp) fun g3 _ s3 => ?_
  refine wpAny_bind (wpAny_isInstance (T := "StopIteration") (b := true) ⟨oe, s3.extBut _ _ hez hoe, hce⟩ isSubtype_stop ?_)
  exact wpAny_pure (q g3 fun c o q1 q2 y => s3.extBut _ _ q1 (s2 _ _ q2 (s1.extBut _ _ q1 y)))

noncomputable abbrev zg2 (h : Heap) (l1 l2 : Addr) : Heap := (h.push { cls := .type "list_iterator", data := .fields #[.ref l1, .int 0 0] }).push { cls := .type "tuple_iterator", data := .fields #[.ref l2, .int 0 0] }
noncomputable abbrev zg3 (h : Heap) (l1 l2 a b : Addr) : Heap := (zg2 h l1 l2).push { cls := .type "tuple", data := .seq #[.ref a, .ref b] }
noncomputable abbrev zg4 (h : Heap) (l1 l2 a b : Addr) : Heap := (zg3 h l1 l2 a b).push { cls := .type "tuple", data := .seq #[.none, .none] }
noncomputable abbrev zg5 (h : Heap) (l1 l2 a b c d : Addr) : Heap := (zg4 h l1 l2 a b).push { cls := .type "zip", data := .fields #[.none, .bool false, .bool false, .ref c, .ref d] }
/-- zip of a list and a tuple -/
theorem meets_zl (l1 l2 : Addr) (xs ys : Array Value) (n : Nat) : Meets (Builtin.«zip.__new__» ⟨[.type "zip", .ref l1, .ref l2], []⟩) (fun _ R s => s.heap.objs.size = n ∧ s.heap.IsList l1 xs ∧ s.heap.IsTuple l2 ys ∧
    ∀ h', IsZip h' (n + 4) (n + 2) (n + 3) .none → IsPair h' (n + 2) (.ref n) (.ref (n + 1)) → IsPair h' (n + 3) .none .none → h'.IsListIter n l1 0 → h'.IsTupleIter (n + 1) l2 0 →
      (∀ c o, s.heap.get? c = some o → h'.get? c = some o) → R (.ok (.ret (.ref (n + 4)))) { s with heap := h' }) :=
  .of_wp fun prog w A R s h => by
    obtain ⟨hp, g, d, tk, os⟩ := s
    obtain ⟨hn, h1, h2, h⟩ := h
    have hn : hp.objs.size = n := hn
    have hsub := sub_zip
    have L1 : Heap.IsList (Shared.heap ⟨hp, g, d, tk, os⟩) l1 xs := h1
    have L2 : Heap.IsTuple (Shared.heap ⟨hp.push { cls := .type "list_iterator", data := .fields #[.ref l1, .int 0 0] }, g, d, tk, os⟩) l2 ys := Heap.IsTuple.push h2 _
    have e1 : (hp.push { cls := .type "list_iterator", data := .fields #[.ref l1, .int 0 0] }).objs.size = n + 1 := by rw [Heap.size_push, hn]
    wp_walk using wpAny_pyIter_list L1, wpAny_pyIter_tuple L2
    refine ⟨_, rfl, ?_⟩
    have e2 : (zg2 hp l1 l2).objs.size = n + 2 := by unfold zg2; rw [Heap.size_push, e1]
    have e3 : ∀ a b, (zg3 hp l1 l2 a b).objs.size = n + 3 := fun a b => by unfold zg3; rw [Heap.size_push, e2]
    have e4 : ∀ a b, (zg4 hp l1 l2 a b).objs.size = n + 4 := fun a b => by unfold zg4; rw [Heap.size_push, e3]
    show R (.ok (.ret (.ref (zg4 hp l1 l2 hp.objs.size (hp.push { cls := .type "list_iterator", data := .fields #[.ref l1, .int 0 0] }).objs.size).objs.size)))
      ⟨zg5 hp l1 l2 hp.objs.size (hp.push { cls := .type "list_iterator", data := .fields #[.ref l1, .int 0 0] }).objs.size (zg2 hp l1 l2).objs.size (zg3 hp l1 l2 hp.objs.size (hp.push { cls := .type "list_iterator", data := .fields #[.ref l1, .int 0 0] }).objs.size).objs.size, g, d, tk, os⟩
    rw [e4, e3, e2, e1, hn]
    have up1 : ∀ c o, hp.get? c = some o → (hp.push { cls := .type "list_iterator", data := .fields #[.ref l1, .int 0 0] }).get? c = some o := fun c o x => Heap.get?_push_of_some _ x
    have up2 : ∀ c o, (hp.push { cls := .type "list_iterator", data := .fields #[.ref l1, .int 0 0] }).get? c = some o → (zg2 hp l1 l2).get? c = some o := fun c o x => Heap.get?_push_of_some _ x
    have up3 : ∀ c o, (zg2 hp l1 l2).get? c = some o → (zg3 hp l1 l2 n (n + 1)).get? c = some o := fun c o x => Heap.get?_push_of_some _ x
    have up4 : ∀ c o, (zg3 hp l1 l2 n (n + 1)).get? c = some o → (zg4 hp l1 l2 n (n + 1)).get? c = some o := fun c o x => Heap.get?_push_of_some _ x
    have up5 : ∀ c o, (zg4 hp l1 l2 n (n + 1)).get? c = some o → (zg5 hp l1 l2 n (n + 1) (n + 2) (n + 3)).get? c = some o := fun c o x => Heap.get?_push_of_some _ x
    have t1 : (hp.push { cls := .type "list_iterator", data := .fields #[.ref l1, .int 0 0] }).get? n = some { cls := .type "list_iterator", data := .fields #[.ref l1, .int 0 0] } := by rw [← hn]; exact Heap.get?_push_size _ rfl
    have t2 : (zg2 hp l1 l2).get? (n + 1) = some { cls := .type "tuple_iterator", data := .fields #[.ref l2, .int 0 0] } := by rw [← e1]; exact Heap.get?_push_size _ rfl
    have t3 : (zg3 hp l1 l2 n (n + 1)).get? (n + 2) = some { cls := .type "tuple", data := .seq #[.ref n, .ref (n + 1)] } := by rw [← e2]; exact Heap.get?_push_size _ rfl
    have t4 : (zg4 hp l1 l2 n (n + 1)).get? (n + 3) = some { cls := .type "tuple", data := .seq #[.none, .none] } := by rw [← e3 n (n + 1)]; exact Heap.get?_push_size _ rfl
    have t5 : (zg5 hp l1 l2 n (n + 1) (n + 2) (n + 3)).get? (n + 4) = some { cls := .type "zip", data := .fields #[.none, .bool false, .bool false, .ref (n + 2), .ref (n + 3)] } := by rw [← e4 n (n + 1)]; exact Heap.get?_push_size _ rfl
    exact h _ t5 (up5 _ _ (up4 _ _ t3)) (up5 _ _ t4) ⟨_, up5 _ _ (up4 _ _ (up3 _ _ (up2 _ _ t1))), rfl, rfl⟩ ⟨_, up5 _ _ (up4 _ _ (up3 _ _ t2)), rfl, rfl⟩ fun c o x => up5 _ _ (up4 _ _ (up3 _ _ (up2 _ _ (up1 _ _ x))))
theorem call_zl {xs ys : Array Value} {Q : Value → Shared → Prop} (h1 : s.heap.IsList l1 xs) (h2 : s.heap.IsTuple l2 ys)
    (q : ∀ h' n, n = s.heap.objs.size → IsZip h' (n + 4) (n + 2) (n + 3) .none → IsPair h' (n + 2) (.ref n) (.ref (n + 1)) → IsPair h' (n + 3) .none .none → h'.IsListIter n l1 0 → h'.IsTupleIter (n + 1) l2 0 →
      (∀ c o, s.heap.get? c = some o → h'.get? c = some o) → Q (.ref (n + 4)) { s with heap := h' }) : wpAny (model prog w) A (call (.type "zip") [.ref l1, .ref l2]) Q E s :=
  callType_new F.called_zip (by decide) (F.typeCall_zip_2 _ _) (F.newCall_zip_2 _ _) (fun obj => F.args_object_init_3 obj _ _) F.entry_zip_new (meets_zl l1 l2 xs ys s.heap.objs.size)
    ⟨rfl, h1, h2, fun h' a1 a2 a3 a4 a5 a6 => ⟨⟨_, a1, rfl⟩, q h' _ rfl a1 a2 a3 a4 a5 a6⟩⟩
end
end Mine
namespace Mine
open PySem PySem.W PySem.Calls PyProof.Rows

section
variable {G : G0} {fa : Fn → Addr} {K : Frag} {mg mb : Str → Option Value} {A : Around} {Er : Value → Shared → Prop} {env : Env} {p : Pl} {σ : Sto} {s : Shared} {l : Locs}
theorem x_name (X : ER G env p σ.length s.heap l) {x : Nm} {pos : Pos} {v : V} (hk : bound (env.kindOf x.str) = true) (e : l x = some v) : wpAny (model G.prog G.w) A (eval (.Name x.str pos) env) (XQ G p σ.length s v) Er s :=
  wpAny_Name (X.load hk e fun c hc => ⟨hc, s.toks, rfl⟩) (nm_debug x)
theorem x_attr (H : PF G fa K mg mb) (X : ER G env p σ.length s.heap l) (R : Rp G p σ s.heap) {x : Nm} {pos pos' : Pos} {n : Nat} {f : Fd} {u : V} (hk : bound (env.kindOf x.str) = true) (e : l x = some (.ref n)) (e2 : σ.fld n f = some u) :
    wpAny (model G.prog G.w) A (eval (.Attribute (.Name x.str pos) f.str pos') env) (XQ G p σ.length s u) Er s := by
  refine Attribute_any_ (wpAny_mono (x_name X hk e) (fun c s' z => ?_) fun _ _ e => e) rfl
  obtain ⟨hc, tk, rfl⟩ := z
  cases hc.ref_inv.1
  obtain ⟨C, fs, e1, e3⟩ := fld_some e2
  obtain ⟨es, k, I, _, h3, _⟩ := inst_at R e1
  obtain ⟨cv, h4, h5⟩ := h3.lookIn (n := k) e3
  exact get_value (s := { s with toks := tk }) (R.kin H) I (H.cls C).ga (findObj_own (H.cls C).hd ((H.cls C).fld f) rfl h4) h5.handed ⟨h5, _, rfl⟩
/-- self.f[i] -/
theorem x_item (H : PF G fa K mg mb) (X : ER G env p σ.length s.heap l) (R : Rp G p σ s.heap) {x y : Nm} {p1 p2 p3 p4 : Pos} {n : Nat} {f : Fd} {r k u : V} (hx : bound (env.kindOf x.str) = true) (hy : bound (env.kindOf y.str) = true) (e : l x = some (.ref n)) (e2 : σ.fld n f = some r) (e3 : l y = some k) (e4 : getIdx σ r k = some u) :
    wpAny (model G.prog G.w) A (eval (.Subscript (.Attribute (.Name x.str p1) f.str p2) (.Name y.str p3) p4) env) (XQ G p σ.length s u) Er s := by
  refine Subscript_ (wpAny_mono (x_attr H X R hx e e2) (fun c s' z => ?_) fun _ _ e => e)
  obtain ⟨hc, tk, rfl⟩ := z
  refine wpAny_mono (x_name (s := { s with toks := tk }) X hy e3) (fun d s' z => ?_) fun _ _ e => e
  obtain ⟨hd, tk', rfl⟩ := z
  obtain ⟨T, id, hT, hl⟩ := op_typeOf_idx (s := { s with toks := tk' }) R hc e4
  refine tail_any hT hl ?_ (subscripted_plain (by rfl) c d)
  exact wpAny_mono (x_getIdx (s := { s with toks := tk' }) R hc hd e4) (fun c s' z => by obtain ⟨a, tk, rfl⟩ := z; exact ⟨a, tk, rfl⟩) fun _ _ e => e

theorem want_shape {nm : Nms} {bx : List Stmt} {P : List Stmt → Prop} {A : List Stm} (h : okB [.ite (.cmp .ne (.idx (.attr (.loc .n_self) .f_term_sorts) (.loc .n_t)) (.loc .n_s)) A []] nm bx = true)
    (k : ∀ p1 p2 p3 p4 p5 tp yes pos, bound (nm.lookup Nm.n_self.str) = true → bound (nm.lookup Nm.n_t.str) = true → bound (nm.lookup Nm.n_s.str) = true →
      P [.If (.Compare (.Subscript (.Attribute (.Name Nm.n_self.str p1) Fd.f_term_sorts.str p2) (.Name Nm.n_t.str p3) p4) [cmpOf .ne] [.Name Nm.n_s.str p5] tp) yes [] pos]) : P bx :=
  onCons_el h fun x r h => onNil_el (P := fun r => P (x :: r)) (and2 h).2 fun _ => onIf_el (P := fun x => P [x]) (and2 h).1 fun t yes no pos h => onNil_el (P := fun no => P [.If t yes no pos]) (and2 (and2 h).2).2 fun _ =>
    onCmp1_el (P := fun t => P [.If t yes [] pos]) (and2 h).1 fun y z tp h => onSub_el (P := fun y => P [.If (.Compare y [cmpOf .ne] [z] tp) yes [] pos]) (and2 h).1 fun a b p4 h' =>
    onAttrM_el (P := fun a => P [.If (.Compare (.Subscript a b p4) [cmpOf .ne] [z] tp) yes [] pos]) (and2 h').1 fun c p2 h1 => onNm_el (P := fun c => P [.If (.Compare (.Subscript (.Attribute c Fd.f_term_sorts.str p2) b p4) [cmpOf .ne] [z] tp) yes [] pos]) (and2 h1).2 fun p1 b1 =>
    onNm_el (P := fun b => P [.If (.Compare (.Subscript (.Attribute (.Name Nm.n_self.str p1) Fd.f_term_sorts.str p2) b p4) [cmpOf .ne] [z] tp) yes [] pos]) (and2 h').2 fun p3 b2 =>
    onNm_el (P := fun z => P [.If (.Compare (.Subscript (.Attribute (.Name Nm.n_self.str p1) Fd.f_term_sorts.str p2) (.Name Nm.n_t.str p3) p4) [cmpOf .ne] [z] tp) yes [] pos]) (and2 h).2 fun p5 b3 => k p1 p2 p3 p4 p5 tp yes pos b1 b2 b3

/-- Bank.want, where the sort is the one wanted: nothing turns -/
theorem want_exact (H : PF G fa K mg mb) (hF : FF G fa .bk_want) (hlim : G.base.NoLimit) {k q : Nat} {i j : Int} {x : V} {cs : List Value} (hA : A.depth < recursionLimit) (R : Rp G p σ s.heap)
    (hv : VRs G.base p σ.length s.heap cs [.ref k, .int i, .int j, x]) (e1 : σ.fld k .f_term_sorts = some (.ref q)) (e2 : getIdx σ (.ref q) (.int i) = some (.int j)) :
    codeAny (model G.prog G.w) A (.call (.ref (fa .bk_want)) ⟨cs, []⟩) (fun r s' => r = .ok (.ret .none) ∧ ∃ h' tk, s' = { s with heap := h', toks := tk } ∧ ∀ b o, s.heap.get? b = some o → h'.get? b = some o) s := by
  obtain ⟨o, fd, bx, F⟩ := hF.ex
  have hlen : cs.length = 4 := VRs.length hv
  have el : bindP Fn.bk_want.params [.ref k, .int i, .int j, x] = some (upd (upd (upd (upd (fun _ => none) .n_where x) .n_s (.int j)) .n_t (.int i)) .n_self (.ref k)) := rfl
  have hkind : ∀ x ∈ (Fn.bk_want.params.map Nm.str).zip cs, fd.scope.names.lookup x.1 = some .local ∨ (fd.scope.names.lookup x.1 = some .cell ∧ ((cellsFrom (s.heap.objs.size + 1) fd.scope.names []).lookup x.1).isSome = true) := params_kind F.st
  refine codeAny_call_cells hA (R.base _ _ F.ho) F.hd (Heap.NoLimit.at hlim fun o e => R.base _ _ e) (F.code.keeps R.base) F.body (F.bind cs hlen) F.clo hkind (fun s₁ y => ?_) F.cor F.gen F.kind
  have X := er_call (A := A) F.kind F.glob F.bi F.free F.st hF.nodup R hv el y
  have R₁ : Rp G p σ s₁.heap := R.grow y.toInCall.keep
  have keep := y.toInCall.keep
  obtain ⟨h₁, tk₁, hs₁⟩ := y.toInCall.same
  have hok : okB Fn.bk_want.body (callEnvC fd s.heap.objs.size (fa .bk_want)).scope.names bx = true := F.ok
  clear F hkind hlen y el
  generalize callEnvC fd s.heap.objs.size (fa .bk_want) = env at *
  refine want_shape hok (P := fun bx => wpAny (model G.prog G.w) _ (execs bx env) _ _ s₁) fun p1 p2 p3 p4 p5 tp yes pos hb1 hb2 hb3 => ?_
  refine wpAny_execs_cons (wpAny_If (wpAny_isTrue_Compare1 (wp_to (x_item H X R₁ hb1 hb2 rfl e1 rfl e2) fun c s' z => ?_) rfl))
  obtain ⟨hc, tk, rfl⟩ := z
  refine wp_to (x_name (s := { s₁ with toks := tk }) X hb3 rfl) fun d s' z => ?_
  obtain ⟨hd', tk', rfl⟩ := z
  obtain ⟨t1, rfl⟩ := hc.int_inv
  obtain ⟨t2, rfl⟩ := hd'.int_inv
  refine PyProof.Rows.ne_int ?_
  rw [bne_self_eq_false]
  subst hs₁
  exact wpAny_truthy_bool (wpAny_execs_nil (wpAny_execs_nil ⟨rfl, h₁, tk', rfl, keep⟩))
end
end Mine
namespace Mine
open PySem PySem.W PySem.Calls PyProof.Rows

theorem lt_ne {c N s : Addr} (h : c < s) (hN : N = s) (k : Nat) : c ≠ N + k := by subst hN; exact Nat.ne_of_lt (Nat.lt_of_lt_of_le h (Nat.le_add_right ..))
section
variable {G : G0} {fa : Fn → Addr} {K : Frag} {mg mb : Str → Option Value} {A : Around} {S : Spec} {env : Env} {p : Pl} {σ : Sto} {l : Locs} {hB h : Heap}
/-- all stands but the env's own names -/
theorem er_re (X : ER G env p σ.length hB l) (R : Rp G p σ hB) (keep : ∀ b o, b ≠ env.locals → hB.get? b = some o → h.get? b = some o) {m : Str → Option Value} (hn : h.Ns env.locals m) {l' : Locs}
    (hl : ∀ x v, l' x = some v → (env.kindOf x.str = some .local → ∃ c, m x.str = some c ∧ (VR G.base p σ.length hB c v)) ∧ (env.kindOf x.str = some .cell ∨ env.kindOf x.str = some .free → l x = some v)) :
    Stp (Own env) p σ.length hB p σ.length h ∧ Rp G p σ h ∧ ER G env p σ.length h l' := by
  have al := ns_alive hn
  obtain ⟨S, R'⟩ := own_step (h' := h) X R (fun b hb o e => keep b o (fun z => hb (.inl z)) e) fun b e => by
    by_cases z : b = env.locals
    · rw [z]; exact al
    · exact (Option.isSome_iff_exists.mp e).elim fun o ho => isSome_of (keep b o z ho)
  have T : Tups hB h := S.tups (σ' := σ) R X.noTup
  obtain ⟨m0, hn0, hm0⟩ := X.ns
  refine ⟨S, R', X.kind, X.glob, X.bi, ⟨m, hn, fun x v e => ⟨fun hk => ?_, fun hk => ?_⟩⟩, X.offL, X.newL, fun y a e => ?_, X.all, X.sep⟩
  · obtain ⟨c, h1, h2⟩ := (hl x v e).1 hk
    exact ⟨c, h1, h2.tups T⟩
  · obtain ⟨a, c, h1, h2, h3⟩ := (hm0 x v ((hl x v e).2 hk)).2 hk
    exact ⟨a, c, h1, cell_keep h2 (fun o e => keep a o (X.cell _ a h1).2.1 e), h3.tups T⟩
  · obtain ⟨⟨d, hd⟩, r⟩ := X.cell y a e
    exact ⟨⟨d, cell_keep hd fun o e => keep a o r.1 e⟩, r⟩

structure LI (env : Env) (hB : Heap) (m₀ : Str → Option Value) (n l1 l2 : Addr) (i : Nat) (h : Heap) : Prop where
  keep : ∀ b o, b ≠ env.locals → hB.get? b = some o → h.get? b = some o
  ns : ∃ m, h.Ns env.locals m ∧ ∀ x, x ≠ Nm.n_t.str → x ≠ Nm.n_s.str → m x = m₀ x
  z : IsZip h (n + 4) (n + 2) (n + 3) .none
  TI : IsPair h (n + 2) (.ref n) (.ref (n + 1))
  TO : ∃ a b, IsPair h (n + 3) a b
  i1 : h.IsListIter n l1 i
  i2 : h.IsTupleIter (n + 1) l2 i

theorem wants_shape {nm : Nms} {x : Stmt} {P : Stmt → Prop} (h : okS .wants nm x = true)
    (k : ∀ tp sp ttk tpp zp ap1 bp1 cp sep wap t2p s2p se2p fnp fp subp (ps : Pos) ep pos, isG nm "zip" = true → ((wap : Pos).endLine == ps.line) = true → nm.lookup Nm.n_t.str = some .local → nm.lookup Nm.n_s.str = some .local → nm.lookup Nm.n_some.str = some .local → nm.lookup Nm.n_sorts.str = some .local →
      nm.lookup Nm.n_self.str = some .local → nm.lookup Nm.n_f.str = some .local →
      P (.For (.Tuple [.Name Nm.n_t.str tp, .Name Nm.n_s.str sp] ttk tpp) (.Call (.Name "zip" zp) [.Name Nm.n_some.str ap1, .Name Nm.n_sorts.str bp1] [] cp)
        [.Expr (.Call (.Attribute (.Name Nm.n_self.str sep) Fn.bk_want.nm wap) [.Name Nm.n_t.str t2p, .Name Nm.n_s.str s2p, .Subscript (.Attribute (.Name Nm.n_self.str se2p) Fd.f_fun_names.str fnp) (.Name Nm.n_f.str fp) subp] [] ps) ep] [] pos)) : P x :=
  onFor_el h fun tx ix bx es pos h => onNil_el (P := fun es => P (.For tx ix bx es pos)) h fun h => onTuple_el (P := fun tx => P (.For tx ix bx [] pos)) h fun ts ttk tpp h => on2_el (P := fun ts => P (.For (.Tuple ts ttk tpp) ix bx [] pos)) h fun u1 u2 h =>
  onNm_el (P := fun u1 => P (.For (.Tuple [u1, u2] ttk tpp) ix bx [] pos)) h fun tp h => onNm_el (P := fun u2 => P (.For (.Tuple [_, u2] ttk tpp) ix bx [] pos)) h fun sp h =>
  onCallNm_el (P := fun ix => P (.For _ ix bx [] pos)) h fun zp xs cp h => on2_el (P := fun xs => P (.For _ (.Call (.Name "zip" zp) xs [] cp) bx [] pos)) h fun v1 v2 h => onNm_el (P := fun v1 => P (.For _ (.Call (.Name "zip" zp) [v1, v2] [] cp) bx [] pos)) h fun ap1 h =>
  onNm_el (P := fun v2 => P (.For _ (.Call (.Name "zip" zp) [_, v2] [] cp) bx [] pos)) h fun bp1 h => on1_el (P := fun bx => P (.For _ _ bx [] pos)) h fun x1 h => onEx_el (P := fun x1 => P (.For _ _ [x1] [] pos)) h fun cx ep h =>
  onCallAm_el (P := fun cx => P (.For _ _ [.Expr cx ep] [] pos)) h fun rx wap ys ps h => onNm_el (P := fun rx => P (.For _ _ [.Expr (.Call (.Attribute rx _ wap) ys [] ps) ep] [] pos)) h fun sep h =>
  onCons_el (P := fun ys => P (.For _ _ [.Expr (.Call _ ys [] ps) ep] [] pos)) h fun a1 r h => on2_el (P := fun r => P (.For _ _ [.Expr (.Call _ (a1 :: r) [] ps) ep] [] pos)) h fun a2 a3 h =>
  onNm_el (P := fun a1 => P (.For _ _ [.Expr (.Call _ [a1, a2, a3] [] ps) ep] [] pos)) h fun t2p h => onNm_el (P := fun a2 => P (.For _ _ [.Expr (.Call _ [_, a2, a3] [] ps) ep] [] pos)) h fun s2p h =>
  onSub_el (P := fun a3 => P (.For _ _ [.Expr (.Call _ [_, _, a3] [] ps) ep] [] pos)) h fun q1 q2 subp h => onAttrM_el (P := fun q1 => P (.For _ _ [.Expr (.Call _ [_, _, .Subscript q1 q2 subp] [] ps) ep] [] pos)) h fun q3 fnp h =>
  onNm_el (P := fun q3 => P (.For _ _ [.Expr (.Call _ [_, _, .Subscript (.Attribute q3 _ fnp) q2 subp] [] ps) ep] [] pos)) h fun se2p h => onNm_el (P := fun q2 => P (.For _ _ [.Expr (.Call _ [_, _, .Subscript _ q2 subp] [] ps) ep] [] pos)) h fun fp h => by
  have a := and2 h
  have b := and2 a.2
  have l : ∀ x ∈ [Nm.n_t, .n_s, .n_some, .n_sorts, .n_self, .n_f], nm.lookup x.str = some .local := fun x hx => eq_of_beq (List.all_eq_true.mp b.2 x hx)
  exact k _ _ _ _ _ _ _ _ _ _ _ _ _ _ _ _ _ _ _ a.1 b.1 (l _ (by simp)) (l _ (by simp)) (l _ (by simp)) (l _ (by simp)) (l _ (by simp)) (l _ (by simp))

/-- what the loop leans on -/
structure WantsF (σ : Sto) (l : Locs) (W : Wants) : Prop where
  self : l .n_self = some (.ref W.k)
  sm : l .n_some = some (.ref W.n)
  sorts : l .n_sorts = some (.tup W.us)
  f : l .n_f = some (.int W.f)
  q : σ.fld W.k .f_term_sorts = some (.ref W.q)
  r : σ.fld W.k .f_fun_names = some W.r
  ts : (σ.lst W.n).bind asInts = some W.ts
  ss : asInts W.us = some W.ss
  cls : σ.cls W.k = some .TermBank
  len : W.ts.length = W.ss.length
  lt : W.ts.length < 100
  all : (W.ts.zip W.ss).all (wantOne σ W.q) = true
  fi : (getIdx σ W.r (.int W.f)).isSome = true
theorem wantsAt_of {σ : Sto} {l : Locs} {W : Wants} (e : wantsAt σ l = some W) : WantsF σ l W := by
  refine bndK e fun k hk e => bndK e fun n hn e => bndK e fun us hus e => bndK e fun f hf e => bndK e fun q hq e => bndK e fun r hr e => bndK e fun ts hts e => bndK e fun ss hss e => gdK (P := WantsF σ l) e fun h => ?_
  refine bndK hk fun _ k1 k2 => bndK hn fun _ n1 n2 => bndK hus fun _ u1 u2 => bndK hf fun _ f1 f2 => bndK hq fun _ q1 q2 => ?_
  exact ⟨V.ref?_eq k2 ▸ k1, V.ref?_eq n2 ▸ n1, V.tup?_eq u2 ▸ u1, V.int?_eq f2 ▸ f1, V.ref?_eq q2 ▸ q1, hr, hts, hss, h.1, h.2.1, h.2.2.1, h.2.2.2.1, h.2.2.2.2⟩
theorem wantOne_eq {σ : Sto} {q : Nat} {p : Int × Int} (h : wantOne σ q p = true) : getIdx σ (.ref q) (.int p.1) = some (.int p.2) := by
  unfold wantOne at h
  cases e : getIdx σ (.ref q) (.int p.1) with
  | none => rw [e] at h; cases h
  | some v =>
    rw [e] at h
    cases e2 : v.int? with
    | none => have h : (match v.int? with | some j => j == p.2 | none => false) = true := h; rw [e2] at h; cases h
    | some j => have h : (match v.int? with | some j => j == p.2 | none => false) = true := h; rw [e2] at h; rw [V.int?_eq e2, eq_of_beq h]

/-- the loop's body: self.want(t, s, self.fun_names[f]) turns nothing -/
theorem wants_body (H : PF G fa K mg mb) (hF : FF G fa .bk_want) (hlim : G.base.NoLimit) (hdep : A.depth < recursionLimit) {s : Shared} {Er : Value → Shared → Prop} {W : Wants} {ti si : Int} {sep wap t2p s2p se2p fnp fp subp ps ep : Pos} {Q : Flow → Shared → Prop}
    (X : ER G env p σ.length s.heap l) (R : Rp G p σ s.heap) (hl : (wap.endLine == ps.line) = true) (b : ∀ x ∈ [Nm.n_t, .n_s, .n_self, .n_f], bound (env.kindOf x.str) = true)
    (h1 : l .n_self = some (.ref W.k)) (ht : l .n_t = some (.int ti)) (hs : l .n_s = some (.int si)) (hf : l .n_f = some (.int W.f)) (c1 : σ.cls W.k = some .TermBank) (c2 : σ.fld W.k .f_term_sorts = some (.ref W.q)) (c3 : σ.fld W.k .f_fun_names = some W.r) (hu : (getIdx σ W.r (.int W.f)).isSome = true)
    (hget : getIdx σ (.ref W.q) (.int ti) = some (.int si)) (q : ∀ h' tk, (∀ b o, s.heap.get? b = some o → h'.get? b = some o) → Q .next { s with heap := h', toks := tk }) :
    wpAny (model G.prog G.w) A (execs [.Expr (.Call (.Attribute (.Name Nm.n_self.str sep) Fn.bk_want.nm wap) [.Name Nm.n_t.str t2p, .Name Nm.n_s.str s2p, .Subscript (.Attribute (.Name Nm.n_self.str se2p) Fd.f_fun_names.str fnp) (.Name Nm.n_f.str fp) subp] [] ps) ep] env) Q Er s := by
  have bt := b .n_t (by simp)
  have bs := b .n_s (by simp)
  have bself := b .n_self (by simp)
  have bf := b .n_f (by simp)
  obtain ⟨u, hu⟩ := Option.isSome_iff_exists.mp hu
  have hint : interactive env = false := by unfold interactive; rw [X.kind]; rfl
  refine wpAny_execs_cons (wpAny_Expr_any ?_ hint rfl)
  refine Call_meth rfl rfl hl (show 3 < 29 by decide) (wp_to (x_name X bself h1) fun c' s' z => ?_)
  obtain ⟨hc', tk', rfl⟩ := z
  obtain ⟨rfl, hklt⟩ := hc'.ref_inv
  obtain ⟨hmm, htt⟩ := H.meth .bk_want rfl
  refine op_method (s := { s with toks := tk' }) (R.kin H) H.cls R hmm htt (H.mfd .bk_want rfl) c1 ?_
  obtain ⟨o, fd, ho, hd⟩ := H.fn .bk_want
  refine callWith_fn (xs := [.Name Nm.n_t.str t2p, .Name Nm.n_s.str s2p, .Subscript (.Attribute (.Name Nm.n_self.str se2p) Fd.f_fun_names.str fnp) (.Name Nm.n_f.str fp) subp])
    (T := fun vs s' => ∃ tk, s' = { s with toks := tk } ∧ VRs G.base p σ.length s.heap vs [.int ti, .int si, u]) rfl ?_ hd (fun vs s' z => by obtain ⟨tk, rfl, _⟩ := z; exact R.base _ _ ho) fun vs s' z => ?_
  · refine wpAny_items_cons (wp_to (x_name (s := { s with toks := tk' }) X bt ht) fun c s' z => ?_) rfl
    obtain ⟨hc1, tk1, rfl⟩ := z
    refine wpAny_items_cons (wp_to (x_name (s := { s with toks := tk1 }) X bs hs) fun c s' z => ?_) rfl
    obtain ⟨hc2, tk2, rfl⟩ := z
    refine wpAny_items_cons (wp_to (x_item (s := { s with toks := tk2 }) H X R bself bf h1 c3 hf hu) fun c s' z => ?_) rfl
    obtain ⟨hc3, tk3, rfl⟩ := z
    exact wpAny_items_nil ⟨tk3, rfl, .cons hc1 (.cons hc2 (.cons hc3 .nil))⟩
  · obtain ⟨tk, rfl, hvv⟩ := z
    refine wpAny_call (codeAny_mono (want_exact (s := { s with toks := tk }) H hF hlim hdep R (.cons (.ref W.k hklt) hvv) c2 hget) fun r s' z => ?_)
    obtain ⟨rfl, h₈, tk₈, rfl, k₈⟩ := z
    exact wpAny_execs_nil (q h₈ tk₈ k₈)
/-- where the loop stands -/
inductive WI (n : Nat) (s : Shared) (inv : Nat → Heap → Prop) : Nat → Shared → Prop
  | mk (i : Nat) (h : Heap) (tk : Nat) : i ≤ n → inv i h → WI n s inv (n - i) { s with heap := h, toks := tk }

theorem wants_thm (H : PF G fa K mg mb) (hF : FF G fa .bk_want) (hlim : G.base.NoLimit) (hh : A.handled = none) (hdep : A.depth < recursionLimit) : WantsOk G S A := by
  intro nm x hok env l σ p s Q Er hn X R h
  refine wants_shape hok (P := fun x => wpAny (model G.prog G.w) A (exec x env) (Post G (Own env) p σ s (RF G env Q)) Er s) fun tp sp ttk tpp zp ap1 bp1 cp sep wap t2p s2p se2p fnp fp subp ps ep pos hg hl kt ks ksome ksorts kself kf => ?_
  clear hok
  obtain ⟨l', e, hQ⟩ := opt_some h
  obtain ⟨W, eW, rfl⟩ := Option.map_eq_some_iff.mp e
  clear h e
  have F := wantsAt_of eW
  clear eW
  subst hn
  have kb : ∀ x : Nm, env.kindOf x.str = some .local → bound (env.kindOf x.str) = true := fun x z => by rw [z]; rfl
  have kall : ∀ x ∈ [Nm.n_t, .n_s, .n_self, .n_f], bound (env.kindOf x.str) = true := fun x hx => kb x (by simp only [List.mem_cons, List.not_mem_nil, or_false] at hx; rcases hx with rfl | rfl | rfl | rfl <;> assumption)
  obtain ⟨xs, hxs, hts⟩ := bnd F.ts
  obtain ⟨hnl, _, its, kk, hl1, hvs⟩ := lst_get R hxs
  obtain ⟨m₀, hn₀, hm₀⟩ := X.ns
  have Llt : env.locals < s.heap.objs.size := hn₀.lt
  refine wpAny_For ?_ (fun v => rfl)
  refine Call_Name rfl (ld_b H X R hg H.gzip.1 H.gzip.2 (by decide +kernel) ?_)
  refine callWith_mach (xs := [.Name Nm.n_some.str ap1, .Name Nm.n_sorts.str bp1]) (T := fun vs s' => ∃ tk c d, vs = [c, d] ∧ s' = { s with toks := tk } ∧ VR G.base p σ.length s.heap c (.ref W.n) ∧ VR G.base p σ.length s.heap d (.tup W.us)) rfl ?_ (fun vs s' z => keeper_type) fun vs s' z => ?_
  · refine wpAny_items_cons (wp_to (x_name X (kb _ ksome) F.sm) fun c s' z => ?_) rfl
    obtain ⟨hc, tk, rfl⟩ := z
    refine wpAny_items_cons (wp_to (x_name (s := { s with toks := tk }) X (kb _ ksorts) F.sorts) fun d s' z => ?_) rfl
    obtain ⟨hd, tk', rfl⟩ := z
    exact wpAny_items_nil ⟨tk', c, d, rfl, rfl, hc, hd⟩
  obtain ⟨tk, c, d, rfl, rfl, hc, hd⟩ := z
  obtain ⟨rfl, hnlt⟩ := hc.ref_inv
  obtain ⟨a2, items2, rfl, ht2, hv2⟩ := hd.tup_inv
  have hL1 : s.heap.IsList (p.φ W.n) its := isList_of hl1
  refine call_zl (s := { s with toks := tk }) hL1 ht2 fun h₁ N hN z1 z2 z3 z4 z5 k1 => ?_
  have hN : N = s.heap.objs.size := hN
  refine wpAny_pyIter_zip z1 ?_
  have sz1 : its.size = W.ts.length := by rw [size_of_vrs hvs, asInts_eq hts, List.length_map]
  have l1lt : p.φ W.n < s.heap.objs.size := hL1.elim fun _ z => Heap.lt_size z.1
  have l2lt : a2 < s.heap.objs.size := ht2.elim fun _ z => Heap.lt_size z.1
  have l1L : p.φ W.n ≠ env.locals := (X.offL W.n hnlt).1
  have l2L : a2 ≠ env.locals := fun z => X.noTup _ _ (.inl rfl) (z ▸ ht2)
  have D : ZipApart (N + 4) (N + 2) (N + 3) N (N + 1) (p.φ W.n) a2 := by
    constructor <;> (refine fun z => ?_) <;> (have z : @Eq Nat _ _ := z) <;> (have l1lt : @LT.lt Nat _ (p.φ W.n) s.heap.objs.size := l1lt) <;> (have l2lt : @LT.lt Nat _ a2 s.heap.objs.size := l2lt) <;> (have hN : @Eq Nat N s.heap.objs.size := hN) <;> (first | lia | omega)
  refine codeAny_mono (R := Oks (Post G (Own env) p σ s (RF G env Q))) ?_ fun _ _ z => oks_to z
  refine codeAny_forLoop_any (WI W.ts.length s (LI env s.heap m₀ N (p.φ W.n) a2)) ?_ (W.ts.length - 0) (.mk 0 h₁ tk (Nat.zero_le _) ⟨fun b o _ e => k1 b o e, ⟨m₀, hn₀.keeps k1, fun _ _ _ => rfl⟩, z1, z2, ⟨_, _, z3⟩, z4, z5⟩)
  clear z1 z2 z3 z4 z5 k1
  rintro _ _ ⟨i, h₂, tk₂, hi, J⟩
  obtain ⟨m₂, n₂, q₂⟩ := J.ns
  obtain ⟨ta, tb, TO⟩ := J.TO
  have L1 : h₂.IsList (p.φ W.n) its := hL1.at fun o e => J.keep _ o l1L e
  have L2 : h₂.IsTuple a2 items2 := ht2.imp fun o => And.imp (J.keep _ o l2L) id
  rcases Nat.lt_or_ge i W.ts.length with hlt | hge
  · have hlt2 : i < W.ss.length := F.len ▸ hlt
    obtain ⟨v1, g1, w1⟩ := VRs.get hvs (i := i) (v := .int W.ts[i]) (by rw [asInts_eq hts]; simp [hlt])
    obtain ⟨v2, g2, w2⟩ := VRs.get hv2 (i := i) (v := .int W.ss[i]) (by rw [asInts_eq F.ss]; simp [hlt2])
    have hget : getIdx σ (.ref W.q) (.int W.ts[i]) = some (.int W.ss[i]) := by
      have hz : (W.ts[i], W.ss[i]) ∈ W.ts.zip W.ss := by
        have hzl : i < (W.ts.zip W.ss).length := by rw [List.length_zip]; (first | lia | omega)
        have := List.getElem_mem hzl
        rwa [List.getElem_zip] at this
      exact wantOne_eq (List.all_eq_true.mp F.all _ hz)
    refine zl_next (s := { s with heap := h₂, toks := tk₂ }) D J.z J.TI TO J.i1 J.i2 L1 L2 (by rw [← Array.getElem?_toList]; exact g1) (by rw [← Array.getElem?_toList]; exact g2) fun h₃ y1 y2 y3 y4 y5 k₃ => ?_
    refine wpAny_letOwnedTupleGo_zip (s := { s with heap := h₃, toks := tk₂ }) y1 fun h₄ a1 a2' => ?_
    have T4 : IsPair h₄ h₂.objs.size v1 v2 := a2'.extBut _ _ (Nat.ne_of_gt (Heap.lt_size J.z)) y5
    refine wpAny_assign_Tuple (s := { s with heap := h₄, toks := tk₂ }) hh ⟨_, T4, rfl, _, rfl⟩ rfl rfl fun h₅ k₅ => ?_
    have up5 : ∀ b o, h₄.get? b = some o → h₅.get? b = some o := fun b o e => k₅ b o (Nat.ne_of_lt (Heap.lt_size e)) e
    have up4 : ∀ b o, b ≠ N + 4 → h₃.get? b = some o → h₅.get? b = some o := fun b o hb e => up5 b o (a2'.extBut b o hb e)
    have up3 : ∀ b o, b ≠ N + 4 → b ≠ N + 3 → b ≠ N → b ≠ N + 1 → h₂.get? b = some o → h₅.get? b = some o := fun b o q1 q2 q3 q4 e => up4 b o q1 (k₃ b o q1 q2 q3 q4 e)
    have n₅ : h₅.Ns env.locals m₂ := n₂.at' fun o e => up3 _ o (lt_ne Llt hN 4) (lt_ne Llt hN 3) (lt_ne Llt hN 0) (lt_ne Llt hN 1) e
    have i₅ : IsZip h₅ (N + 4) (N + 2) (N + 3) .none ∧ IsPair h₅ (N + 2) (.ref N) (.ref (N + 1)) ∧ IsPair h₅ (N + 3) v1 v2 ∧ h₅.IsListIter N (p.φ W.n) (i + 1) ∧ h₅.IsTupleIter (N + 1) a2 (i + 1) :=
      ⟨up5 _ _ a1, up3 _ _ D.TIz D.TITO D.TIi1 D.TIi2 J.TI, up4 _ _ D.TOz y2, y3.at fun o e => up4 _ _ D.i1z e, y4.imp fun o => And.imp (up4 _ _ D.i2z) id⟩
    have k₅₀ : ∀ b o, b ≠ env.locals → s.heap.get? b = some o → h₅.get? b = some o := fun b o hb e => up3 b o (lt_ne (Heap.lt_size e) hN 4) (lt_ne (Heap.lt_size e) hN 3) (lt_ne (Heap.lt_size e) hN 0) (lt_ne (Heap.lt_size e) hN 1) (J.keep b o hb e)
    clear up3 up4 up5 k₃ k₅ y1 y2 y3 y4 y5 a1 a2' T4 n₂ L1 L2 TO J
    have hp : (env.scope.kind == .class || (env.scope.kind == .module && env.locals != env.globals)) = false := by rw [X.kind]; rfl
    show wpAny _ _ (assignInOrder [assign (.Name Nm.n_t.str tp) env, assign (.Name Nm.n_s.str sp) env] [v1, v2]) _ _ _
    refine wpAny_bind (wpAny_holding (wpAny_assign_Name (wpAny_storeName_local (s := { s with heap := h₅, toks := tk₂ }) kt n₅ (fun h₆ n₆ b6 => ?_) hp)))
    refine wpAny_bind (wpAny_holding (wpAny_assign_Name (wpAny_storeName_local (s := { s with heap := h₆, toks := tk₂ + 1 }) ks n₆ (fun h₇ n₇ b7 => wpAny_pure ?_) hp)))
    have up7 : ∀ b o, b ≠ env.locals → h₅.get? b = some o → h₇.get? b = some o := fun b o hb e => (b7.2 b hb).trans ((b6.2 b hb).trans e)
    clear b6 b7 n₅ n₆
    have keep₇ : ∀ b o, b ≠ env.locals → s.heap.get? b = some o → h₇.get? b = some o := fun b o hb e => up7 b o hb (k₅₀ b o hb e)
    have noc : ∀ {x : Nm} {P : Prop}, env.kindOf x.str = some .local → env.kindOf x.str = some .cell ∨ env.kindOf x.str = some .free → P := fun h z => by rw [h] at z; rcases z with z | z <;> cases z
    obtain ⟨S₇, R₇, X₇⟩ := er_re (l' := upd (upd l .n_t (.int W.ts[i])) .n_s (.int W.ss[i])) X R keep₇ n₇ fun x v e => by
      unfold upd at e
      by_cases e1 : x = .n_s
      · rw [if_pos e1] at e; cases e; cases e1
        exact ⟨fun _ => ⟨v2, if_pos rfl, w2⟩, noc ks⟩
      · rw [if_neg e1] at e
        have e1' : x.str ≠ Nm.n_s.str := fun z => e1 (nm_inj z)
        by_cases e2 : x = .n_t
        · rw [if_pos e2] at e; cases e; cases e2
          exact ⟨fun _ => ⟨v1, (if_neg e1').trans (if_pos rfl), w1⟩, noc kt⟩
        · rw [if_neg e2] at e
          have e2' : x.str ≠ Nm.n_t.str := fun z => e2 (nm_inj z)
          exact ⟨fun hk => by rw [if_neg e1', if_neg e2', q₂ x.str e2' e1']; exact (hm₀ x v e).1 hk, fun _ => e⟩
    refine wants_body (s := { s with heap := h₇, toks := tk₂ + 1 + 1 }) (W := W) H hF hlim hdep X₇ R₇ hl kall F.self rfl rfl F.f F.cls F.q F.r F.fi hget fun h₈ tk₈ k₈ => ?_
    have gt : ∀ {b : Addr} {j : Nat}, b = N + j → b ≠ env.locals := fun hb z => lt_ne Llt hN _ (z.symm.trans hb)
    have up8 : ∀ b o, b ≠ env.locals → h₅.get? b = some o → h₈.get? b = some o := fun b o hb e => k₈ b o (up7 b o hb e)
    exact ⟨_, Nat.sub_lt_sub_left hlt (Nat.lt_succ_self i), .mk (i + 1) h₈ tk₈ hlt ⟨fun b o hb e => k₈ b o (keep₇ b o hb e), ⟨_, n₇.keeps k₈, fun x e1 e2 => (if_neg e2).trans ((if_neg e1).trans (q₂ x e1 e2))⟩,
      up8 _ _ (gt (j := 4) rfl) i₅.1, up8 _ _ (gt (j := 2) rfl) i₅.2.1, ⟨v1, v2, up8 _ _ (gt (j := 3) rfl) i₅.2.2.1⟩, i₅.2.2.2.1.at fun o e => up8 _ _ (gt (j := 0) rfl) e, i₅.2.2.2.2.imp fun o => And.imp (up8 _ _ (gt (j := 1) rfl)) id⟩⟩
  · cases Nat.le_antisymm hi hge
    refine zl_done (s := { s with heap := h₂, toks := tk₂ }) (i1 := N) (TI := N + 2) (TO := N + 3) (i2 := N + 1) hh (lt_ne (Nat.lt_succ_self N) rfl 3) (lt_ne l1lt hN 4) J.z J.TI J.i1 L1 (Array.getElem?_eq_none (Nat.le_of_eq sz1)) fun h₃ k₃ => wpAny_execs_nil ?_
    have keep₃ : ∀ b o, b ≠ env.locals → s.heap.get? b = some o → h₃.get? b = some o := fun b o hb e => k₃ b o (lt_ne (Heap.lt_size e) hN 4) (lt_ne (Heap.lt_size e) hN 0) (J.keep b o hb e)
    have n₃ : h₃.Ns env.locals m₂ := n₂.at' fun o e => k₃ _ o (lt_ne Llt hN 4) (lt_ne Llt hN 0) e
    obtain ⟨S₃, R₃, X₃⟩ := er_re (l' := dropL (dropL l .n_t) .n_s) X R keep₃ n₃ fun x v e => by
      unfold dropL at e
      by_cases e1 : x = .n_s
      · rw [if_pos e1] at e; cases e
      · rw [if_neg e1] at e
        by_cases e2 : x = .n_t
        · rw [if_pos e2] at e; cases e
        · rw [if_neg e2] at e
          exact ⟨fun hk => by rw [q₂ x.str (fun z => e2 (nm_inj z)) (fun z => e1 (nm_inj z))]; exact (hm₀ x v e).1 hk, fun _ => e⟩
    exact Post.mk σ h₃ tk₂ p S₃ R₃ ⟨.next, _, .next, X₃, hQ⟩
end
end Mine
namespace Mine
open PySem

/-- the fields of the bank, as its making leaves them -/
noncomputable def bankFs : List (Fd × V) := [(.f_sort_names, .ref 4), (.f_sort_widths, .ref 5), (.f_fun_names, .ref 6), (.f_fun_args, .ref 7), (.f_fun_results, .ref 8), (.f_fresh_count, .int 0), (.f_term_ops, .ref 9), (.f_term_args, .ref 10), (.f_term_sorts, .ref 11), (.f_term_datas, .ref 12), (.f_numbers, .ref 13), (.f_true_number, .int 1), (.f_false_number, .int 2), (.f_bv_numbers, .ref 14)]

noncomputable def S' (x : String) : V := .str (Str.ofString x)
noncomputable def K' (op : String) (as : List Int) (s d : Int) : TK := ⟨Str.ofString op, as, s, d⟩

noncomputable def bank0 : List AObj := [.inst .TermBank bankFs, .lst [S' "Bool", S' "Int", S' "Real"], .lst [.int 0, .int 0, .int 0], .lst [], .lst [], .lst [],
  .lst [S' "", S' "true", S' "false"], .lst [.tup [], .tup [], .tup []], .lst [.int 0, .int 0, .int 0], .lst [.int 0, .int 0, .int 0],
  .dT [(K' "true" [] 0 0, .int 1), (K' "false" [] 0 0, .int 2)], .dI []]

theorem init_ok (a b c : AObj) (Q : V → Sto → Prop) : Sp 5 .termbank_init [.ref 3] [a, b, c, .inst .TermBank []] Q = Q .none ([a, b, c] ++ bank0) := by kernel_rfl

/-! the store while the terms are built -/
structure W where
  cells : List Int
  at' : Int
  ts : List TK
  m : List (TK × V)
  made : List Int
  g : Sto
  post : Sto

noncomputable def ivs (l : List Int) : List V := l.map .int
noncomputable def TK.opV (q : TK) : V := .str q.op
noncomputable def TK.argV (q : TK) : V := .tup (ivs q.args)
noncomputable def TK.sortV (q : TK) : V := .int q.sort
noncomputable def TK.dataV (q : TK) : V := .int q.data
noncomputable def rowV (f : Int) (ss : List Int) : V := .tup [.int f, .tup (ivs ss)]
noncomputable def funArgs : List V := [.tup [.int 1], .tup [.int 1, .int 4], .tup [.int 4], .tup [.int 3, .int 2], .tup [.int 2, .int 3], .tup [.int 0], .tup [.int 4, .int 4], .tup [], .tup [], .tup [], .tup [], .tup []]
noncomputable def funRes : List V := [.int 1, .int 4, .int 3, .int 2, .int 0, .int 1, .int 0, .int 1, .int 2, .int 0, .int 3, .int 4]
noncomputable def rowsV : List V := [rowV 0 [1], rowV 1 [1, 4], rowV 2 [4], rowV 3 [3, 2], rowV 4 [2, 3], rowV 5 [0], rowV 6 [4, 4]]
noncomputable def panO (a : Int) : AObj := .dS [(Str.ofString "cells", .ref 1), (Str.ofString "at", .int a)]
/-- the part ahead: fixed, but for cells, the place in them and the tables of terms -/
noncomputable def W.sto (w : W) : Sto :=
  .lst (ivs w.cells) :: .lst (ivs w.cells) :: panO w.at' :: .inst .TermBank bankFs ::
  .lst [S' "Bool", S' "Int", S' "Real", S' "(_ BitVec 2)", S' "U"] :: .lst [.int 0, .int 0, .int 0, .int 2, .int 0] ::
  .lst [S' "f0", S' "f1", S' "f2", S' "f3", S' "f4", S' "f5", S' "f6", S' "c", S' "c", S' "c", S' "c", S' "c"] :: .lst funArgs :: .lst funRes ::
  .lst (w.ts.map TK.opV) :: .lst (w.ts.map TK.argV) :: .lst (w.ts.map TK.sortV) :: .lst (w.ts.map TK.dataV) :: .dT w.m :: .dI [(2, .int 3)] ::
  .lst [.int 1, .int 2, .int 0, .int 3, .int 4] :: .lst rowsV :: .lst [.int 1] :: .lst [.int 1, .int 4] :: .lst [.int 4] :: .lst [.int 3, .int 2] :: .lst [.int 2, .int 3] :: .lst [.int 0] :: .lst [.int 4, .int 4] ::
  .lst (ivs w.made) :: w.post

noncomputable def ts0 : List TK := [K' "" [] 0 0, K' "true" [] 0 0, K' "false" [] 0 0, K' "app" [] 1 7, K' "app" [] 2 8, K' "app" [] 0 9, K' "app" [] 3 10, K' "app" [] 4 11]
noncomputable def m0 : List (TK × V) := [(K' "true" [] 0 0, .int 1), (K' "false" [] 0 0, .int 2), (K' "app" [] 1 7, .int 3), (K' "app" [] 2 8, .int 4), (K' "app" [] 0 9, .int 5), (K' "app" [] 3 10, .int 6), (K' "app" [] 4 11, .int 7)]
noncomputable def w0 (cs : List Int) : W := ⟨cs, 0, ts0, m0, [3, 4, 5, 6, 7], [], []⟩
noncomputable def l0 : Locs := upd (upd (fun _ => none) .n_bank (.ref 3)) .n_pan (.ref 2)

/-- conditions that hold, and what is left -/
noncomputable def conj : List Prop → Prop → Prop
  | [], q => q
  | p :: r, q => p ∧ conj r q
theorem conj_of : ∀ {ps : List Prop} {q : Prop}, (∀ p ∈ ps, p) → q → conj ps q
  | [], _, _, h => h
  | p :: _, _, hp, h => ⟨hp p List.mem_cons_self, conj_of (fun x hx => hp x (List.mem_cons_of_mem _ hx)) h⟩
noncomputable def sortsV : List V := [.int 1, .int 2, .int 0, .int 3, .int 4]
theorem terms_start_eq (cs : List Int) (K : Fl → Locs → Sto → Prop) : evB (Sp 6) B.law_terms l0 ([.lst (ivs cs), .lst (ivs cs), panO 0] ++ bank0) K =
    conj (List.replicate 18 True ++ List.replicate 5 (some sortsV = some sortsV)) (evB (Sp 6) (B.law_terms.drop 2) (upd (upd (upd l0 .n_sorts (.ref 15)) .n_rows (.ref 16)) .n_made (.ref 24)) (w0 cs).sto K) := by kernel_rfl
end Mine
namespace Mine
open PySem

/-! one step of the evaluator at a time -/
section
variable {S : Spec} {l : Locs} {σ : Sto} {r : List Stm}
theorem o_some {α : Type} {o : Option α} {a : α} {k : α → Prop} (e : o = some a) (h : k a) : opt o k := by rw [e]; exact h
theorem sp_go {d : Nat} {f : Fn} {vs : List V} {Q : V → Sto → Prop} {l : Locs} (e : bindP f.params vs = some l) (h : evB (Sp d) f.body l σ fun fl _ σ => opt fl.val? fun v => Q v σ) : Sp (d + 1) f vs σ Q := o_some e h

section
variable {Q : Fl → Locs → Sto → Prop}
theorem b_nil (h : Q .next l σ) : evB S [] l σ Q := h
/-- the end of a branch -/
theorem b_end (h : evB S r l σ Q) : evB S [] l σ (seqQ (fun l σ => evB S r l σ Q) Q) := h
theorem b_asg {x : Nm} {e : E} (h : evE S e l σ fun v σ => evB S r (upd l x v) σ Q) : evB S (.asg x e :: r) l σ Q := h
theorem b_asgT {xs : List Nm} {e : E} (h : evE S e l σ fun v σ => opt v.tup? fun vs => opt (bindL xs vs l) fun l' => evB S r l' σ Q) : evB S (.asgT xs e :: r) l σ Q := h
theorem b_seta {o : E} {f : Fd} {e : E} (h : evE S e l σ fun v σ => evE S o l σ fun u σ => opt (setFld σ u f v) fun σ => evB S r l σ Q) : evB S (.seta o f e :: r) l σ Q := h
theorem b_seti {o i e : E} (h : evE S e l σ fun v σ => evE S o l σ fun u σ => evE S i l σ fun k σ => opt (setIdx σ u k v) fun σ => evB S r l σ Q) : evB S (.seti o i e :: r) l σ Q := h
theorem b_expr {e : E} (h : evE S e l σ fun _ σ => evB S r l σ Q) : evB S (.expr e :: r) l σ Q := h
theorem b_ret {e : E} (h : evE S e l σ fun v σ => Q (.ret v) l σ) : evB S (.ret e :: r) l σ Q := h
theorem b_retn (h : Q (.ret .none) l σ) : evB S (.retn :: r) l σ Q := h
theorem b_cont (h : Q .cont l σ) : evB S (.cont :: r) l σ Q := h
theorem b_wants {l' : Locs} (e : wantsOk σ l = some l') (h : evB S r l' σ Q) : evB S (.wants :: r) l σ Q := o_some e h
theorem b_ite {c : E} {a b : List Stm} (h : evT S c l σ fun t σ => if t then evB S a l σ (seqQ (fun l σ => evB S r l σ Q) Q) else evB S b l σ (seqQ (fun l σ => evB S r l σ Q) Q)) : evB S (.ite c a b :: r) l σ Q := h
theorem b_for {t : Tg} {it : It} {b : List Stm} (h : evIt S it l σ fun xs g σ => goFor (fun v l σ k => opt (bindT t v l) fun l => evB S b l σ k) g xs l σ (seqQ (fun l σ => evB S r l σ Q) Q)) : evB S (.for t it b :: r) l σ Q := h
theorem b_while {c : E} {b : List Stm} (n : Nat) (h : goWhile (fun l σ k => evT S c l σ k) (fun l σ k => evB S b l σ k) n l σ (seqQ (fun l σ => evB S r l σ Q) Q)) : evB S (.while c b :: r) l σ Q := ⟨n, h⟩
end
section
variable {Q : V → Sto → Prop} {x : Nm}
theorem e_lit {v : Lit} (h : Q v.val σ) : evE S (.lit v) l σ Q := h
theorem e_loc {v : V} (e : l x = some v) (h : Q v σ) : evE S (.loc x) l σ Q := o_some e h
theorem e_gl {g : Gl} (h : Q (.int g.val) σ) : evE S (.gl g) l σ Q := h
theorem e_attr {f : Fd} {n : Nat} {u : V} (e : l x = some (.ref n)) (e2 : σ.fld n f = some u) (h : Q u σ) : evE S (.attr (.loc x) f) l σ Q := o_some e (o_some rfl (o_some e2 h))
theorem e_tup {es : List E} (h : evEs S es l σ fun vs σ => Q (.tup vs) σ) : evE S (.tup es) l σ Q := h
theorem e_list {es : List E} (h : evEs S es l σ fun vs σ => Q (.ref σ.length) (σ ++ [.lst vs])) : evE S (.list es) l σ Q := h
theorem e_dict {k : DK} {ks : List Str} {es : List E} (h : evEs S es l σ fun vs σ => opt (newDict k ks vs) fun o => Q (.ref σ.length) (σ ++ [o])) : evE S (.dict k ks es) l σ Q := h
theorem e_idx {a b : E} (h : evE S a l σ fun v σ => evE S b l σ fun k σ => opt (getIdx σ v k) fun u => Q u σ) : evE S (.idx a b) l σ Q := h
theorem e_rev {a : E} (h : evE S a l σ fun v σ => opt (evRev σ v) fun p => Q p.1 p.2) : evE S (.rev a) l σ Q := h
theorem e_neg {k : Nat} (h : Q (.int (-(k : Int))) σ) : evE S (.neg k) l σ Q := h
theorem e_cmp {op : Cop} {a b : E} (h : evE S a l σ fun v σ => evE S b l σ fun u σ => opt (evCmp σ op v u) fun r => Q (.bool r) σ) : evE S (.cmp op a b) l σ Q := h
theorem e_or {a b : E} (h : evE S a l σ fun v σ => opt v.bool? fun t => if t then Q (.bool true) σ else evE S b l σ Q) : evE S (.or a b) l σ Q := h
theorem e_and {a b : E} (h : evE S a l σ fun v σ => opt v.bool? fun t => if t then evE S b l σ Q else Q (.bool false) σ) : evE S (.and a b) l σ Q := h
theorem e_ite {c a b : E} (h : evT S c l σ fun t σ => if t then evE S a l σ Q else evE S b l σ Q) : evE S (.ite c a b) l σ Q := h
theorem e_bin {op : Bop} {a b : E} (h : evE S a l σ fun v σ => evE S b l σ fun u σ => opt (evBin σ op v u) fun p => Q p.1 p.2) : evE S (.bin op a b) l σ Q := h
theorem e_call {f : Fn} {es : List E} (h : evEs S es l σ fun vs σ => S f vs σ Q) : evE S (.call f es) l σ Q := h
theorem e_meth {f : Fn} {es : List E} {n : Nat} (e : l x = some (.ref n)) (e2 : σ.cls n = some f.owner) (h : evEs S es l σ fun vs σ => S f (.ref n :: vs) σ Q) : evE S (.meth (.loc x) f es) l σ Q := by
  refine o_some e (o_some rfl ?_); rw [if_pos e2]; exact h
theorem e_methA {y : Nm} {g : Fd} {f : Fn} {es : List E} {m n : Nat} (e : l y = some (.ref m)) (e1 : σ.fld m g = some (.ref n)) (e2 : σ.cls n = some f.owner) (h : evEs S es l σ fun vs σ => S f (.ref n :: vs) σ Q) : evE S (.meth (.attr (.loc y) g) f es) l σ Q := by
  refine o_some e (o_some rfl (o_some e1 (o_some rfl ?_))); rw [if_pos e2]; exact h
theorem e_newT {es : List E} (h : evEs S es l σ fun vs σ => S .termbank_init (.ref σ.length :: vs) (σ ++ [.inst .TermBank []]) fun v σ' => opt v.none? fun _ => Q (.ref σ.length) σ') : evE S (.new .TermBank es) l σ Q := h
theorem e_newS {es : List E} (h : evEs S es l σ fun vs σ => S .sharing_init (.ref σ.length :: vs) (σ ++ [.inst .Sharing []]) fun v σ' => opt v.none? fun _ => Q (.ref σ.length) σ') : evE S (.new .Sharing es) l σ Q := h
theorem e_bi {b : Bi} {es : List E} (h : evEs S es l σ fun vs σ => opt (evBi σ b vs) fun p => Q p.1 p.2) : evE S (.bi b es) l σ Q := h
theorem e_sset {e : E} (h : evE S e l σ fun v σ => opt (evSortedSet σ v) fun p => Q p.1 p.2) : evE S (.sortedset e) l σ Q := h
theorem e_lm {m : Lm} {e : E} {es : List E} (h : evE S e l σ fun v σ => if lmOk σ m v = true then evEs S es l σ fun vs σ => opt (evLm σ m v vs) fun p => Q p.1 p.2 else False) : evE S (.lm m e es) l σ Q := h
theorem e_comp {elt : E} {it : E} {ifs : List E} (h : evE S it l σ fun v σ => opt (itemsOf σ v) fun p =>
      goComp (fun v σ k => evIfs S ifs (upd l x v) σ fun b σ => if b then evE S elt (upd l x v) σ fun u σ => k [u] σ else k [] σ) p.2 p.1 [] σ
        fun ws σ => Q (.ref σ.length) (σ ++ [.lst ws])) : evE S (.comp elt x it ifs) l σ Q := h
end
theorem es_nil {Q : List V → Sto → Prop} (h : Q [] σ) : evEs S [] l σ Q := h
theorem es_cons {e : E} {es : List E} {Q : List V → Sto → Prop} (h : evE S e l σ fun v σ => evEs S es l σ fun vs σ => Q (v :: vs) σ) : evEs S (e :: es) l σ Q := h
section
variable {Q : Bool → Sto → Prop}
theorem t_not {a : E} (h : evT S a l σ fun b σ => Q (!b) σ) : evT S (.not a) l σ Q := h
theorem t_and {a b : E} (h : evT S a l σ fun t σ => if t then evT S b l σ Q else Q false σ) : evT S (.and a b) l σ Q := h
theorem t_or {a b : E} (h : evT S a l σ fun t σ => if t then Q true σ else evT S b l σ Q) : evT S (.or a b) l σ Q := h
theorem t_cmp {op : Cop} {a b : E} (h : evE S a l σ fun v σ => evE S b l σ fun u σ => opt (evCmp σ op v u) fun r => Q r σ) : evT S (.cmp op a b) l σ Q := h
theorem t_loc {x : Nm} {b : Bool} (e : l x = some (.bool b)) (h : Q b σ) : evT S (.loc x) l σ Q := o_some e (o_some rfl h)
theorem t_call {f : Fn} {es : List E} (h : evEs S es l σ fun vs σ => S f vs σ fun v σ => opt v.bool? fun b => Q b σ) : evT S (.call f es) l σ Q := h
theorem t_meth {x : Nm} {f : Fn} {es : List E} {n : Nat} (e : l x = some (.ref n)) (e2 : σ.cls n = some f.owner) (h : evEs S es l σ fun vs σ => S f (.ref n :: vs) σ fun v σ => opt v.bool? fun b => Q b σ) : evT S (.meth (.loc x) f es) l σ Q := by
  refine o_some e (o_some rfl ?_); rw [if_pos e2]; exact h
theorem ifs_nil (h : Q true σ) : evIfs S [] l σ Q := h
theorem ifs_one {e : E} (h : evT S e l σ fun b σ => if b then Q true σ else Q false σ) : evIfs S [e] l σ Q := h
end

/-! operations -/
theorem lget_at {xs : List V} {i : Nat} {u : V} (h : xs.length < lim) (hi : xs[i]? = some u) : lget xs (i : Int) = some u := (if_pos h).trans ((if_pos (Int.natCast_nonneg i)).trans hi)
theorem getIdx_lst {n i : Nat} {xs : List V} {u : V} (e : σ[n]? = some (.lst xs)) (h : xs.length < lim) (hi : xs[i]? = some u) : getIdx σ (.ref n) (.int (i : Int)) = some u := (bnd_of e).trans (lget_at h hi)
theorem evBin_mod {a b : Int} (h : 0 < b ∧ b < 2 ^ 30) : evBin σ .mod (.int a) (.int b) = some (.int (a % b), σ) := gd_of h
theorem evBin_mul {a b : Int} (h : a.natAbs < 2 ^ 30 ∧ b.natAbs < 2 ^ 30) : evBin σ .mul (.int a) (.int b) = some (.int (a * b), σ) := gd_of h
theorem evBin_app {m n : Nat} {xs ys : List V} (e1 : σ.lst m = some xs) (e2 : σ.lst n = some ys) (h1 : xs.length < lim) (h2 : ys.length < lim) : evBin σ .add (.ref m) (.ref n) = some (.ref σ.length, σ ++ [.lst (xs ++ ys)]) :=
  (bnd_of e1).trans ((bnd_of e2).trans (gd_of ⟨h1, h2⟩))
theorem evBi_len {n : Nat} {xs : List V} (e : σ[n]? = some (.lst xs)) (h : xs.length < 2 * lim) : evBi σ .len [.ref n] = some (.int xs.length, σ) := (bnd_of e).trans (gd_of h)
theorem evBi_lenT {xs : List V} (h : xs.length < lim) : evBi σ .len [.tup xs] = some (.int xs.length, σ) := gd_of h
theorem evBi_lenD {n : Nat} {m : List (Int × V)} (e : σ[n]? = some (.dI m)) (h : m.length < 2 * lim) : evBi σ .len [.ref n] = some (.int m.length, σ) := (bnd_of e).trans (gd_of h)
theorem evBi_tupL {n : Nat} {xs : List V} (e : σ[n]? = some (.lst xs)) (h : xs.length < lim) : evBi σ .tuple [.ref n] = some (.tup xs, σ) := (bnd_of (lst_of e)).trans (gd_of h)
theorem evBi_listL {n : Nat} {xs : List V} (e : σ[n]? = some (.lst xs)) (h : xs.length < lim) : evBi σ .list [.ref n] = some (.ref σ.length, σ ++ [.lst xs]) := (bnd_of (lst_of e)).trans (gd_of h)
theorem evBi_listT {xs : List V} (h : xs.length < lim) : evBi σ .list [.tup xs] = some (.ref σ.length, σ ++ [.lst xs]) := gd_of h
theorem evBi_sorted {n : Nat} {m : List (Int × V)} (e : σ[n]? = some (.dI m)) (h : m.length < 64) : evBi σ .sorted [.ref n] = some (.ref σ.length, σ ++ [.lst ((isort (m.map (·.1))).map .int)]) := (bnd_of (show (σ[n]?).bind AObj.dI? = some m from bnd_of e)).trans (gd_of h)
theorem evLm_append {n : Nat} {xs : List V} {v : V} (e : σ[n]? = some (.lst xs)) (h : xs.length < lim) : evLm σ .append (.ref n) [v] = some (.none, σ.set n (.lst (xs ++ [v]))) := (bnd_of (lst_of e)).trans (gd_of h)
theorem itemsOf_lst {n : Nat} {xs : List V} (e : σ[n]? = some (.lst xs)) (h : xs.length < 100) : itemsOf σ (.ref n) = some (xs, some (n, xs)) := (bnd_of (lst_of e)).trans (gd_of h)
theorem itemsOf_tup {xs : List V} (h : xs.length < 100) : itemsOf σ (.tup xs) = some (xs, none) := gd_of h
theorem lmOk_lst {n : Nat} {xs : List V} {m : Lm} (hm : m ≠ .get) (e : σ[n]? = some (.lst xs)) : lmOk σ m (.ref n) = true := by
  have h : ((σ.lst n).map fun _ => ()).isSome = true := by rw [lst_of e]; rfl
  cases m <;> first
    | exact h
    | exact absurd rfl hm
theorem deq_rd {u v : V} {x y : PyData} (h1 : rd 4 σ u = some x) (h2 : rd 4 σ v = some y) : deq σ u v = some (PyData.eqv x y) := by
  have e : u.str? = none := by cases u <;> first | rfl | cases h1
  unfold deq
  rw [e, h1, h2]; rfl
theorem setIdx_dI {n : Nat} {m : List (Int × V)} {i : Int} {v : V} (e : σ[n]? = some (.dI m)) (h : m.length < lim) : setIdx σ (.ref n) (.int i) v = some (σ.set n (.dI (aset m i v))) := (bnd_of e).trans (map_of (gd_of h))
theorem inst_is {n : Nat} {C : Cls} {fs : List (Fd × V)} (e : σ[n]? = some (.inst C fs)) : (σ[n]?).bind AObj.inst? = some (C, fs) := bnd_of e
theorem cls_at {n : Nat} {C : Cls} {fs : List (Fd × V)} (e : σ[n]? = some (.inst C fs)) : σ.cls n = some C := map_of (inst_is e)
theorem fld_at {n : Nat} {C : Cls} {fs : List (Fd × V)} {f : Fd} {u : V} (e : σ[n]? = some (.inst C fs)) (h : aget fs f = some u) : σ.fld n f = some u := (bnd_of (inst_is e)).trans h
theorem o_if {c : Bool} {p : Prop} (h : c = true) (q : p) : if c = true then p else False := by rw [if_pos h]; exact q
end
end Mine
namespace Mine
open PySem

theorem sto2 (w : W) : w.sto[2]? = some (panO w.at') := rfl
theorem sto1 (w : W) : w.sto[1]? = some (.lst (ivs w.cells)) := rfl
theorem pan_get_at (a : Int) : aget [(Str.ofString "cells", V.ref 1), (Str.ofString "at", V.int a)] (Str.ofString "at") = some (.int a) := by kernel_rfl
theorem pan_get_cells (a : Int) : aget [(Str.ofString "cells", V.ref 1), (Str.ofString "at", V.int a)] (Str.ofString "cells") = some (.ref 1) := by kernel_rfl
theorem pan_put_at (a b : Int) : aset [(Str.ofString "cells", V.ref 1), (Str.ofString "at", V.int a)] (Str.ofString "at") (.int b) = [(Str.ofString "cells", V.ref 1), (Str.ofString "at", V.int b)] := by kernel_rfl
theorem idx_at (w : W) : getIdx w.sto (.ref 2) (.str (Str.ofString "at")) = some (.int w.at') := by kernel_rfl
theorem idx_cells (w : W) : getIdx w.sto (.ref 2) (.str (Str.ofString "cells")) = some (.ref 1) := by kernel_rfl
theorem put_at (w : W) (a : Int) : setIdx w.sto (.ref 2) (.str (Str.ofString "at")) (.int a) = some { w with at' := a }.sto := by kernel_rfl

theorem ivs_len (l : List Int) : (ivs l).length = l.length := List.length_map ..
theorem ivs_at (l : List Int) (i : Nat) : (ivs l)[i]? = (l[i]?).map .int := List.getElem?_map ..

theorem sift_ok {d : Nat} {w : W} {many : Int} {Q : V → Sto → Prop} (hm : 0 < many ∧ many < 1000) (ha : 0 ≤ w.at' ∧ w.at' < 1000) (hc : w.cells.length < 64)
    (h : ∀ j : Nat, (j : Int) < many → Q (.int j) { w with at' := w.at' + 1 }.sto) : Sp (d + 1) .law_sift [.ref 2, .int many] w.sto Q := by
  have fin : ∀ x : Int, Q (.int (x % 103 % many)) { w with at' := w.at' + 1 }.sto := fun x => by
    have e : x % 103 % many = ((x % 103 % many).toNat : Int) := by
      have := Int.emod_nonneg (x % 103) (show many ≠ 0 by (first | lia | omega))
      (first | lia | omega)
    rw [e]
    refine h _ ?_
    rw [← e]
    exact Int.emod_lt_of_pos _ hm.1
  refine sp_go rfl ?_
  unfold Fn.body B.law_sift
  dsimp only
  refine b_asg (e_idx (e_loc rfl (e_lit ?_)))
  refine o_some (idx_at _) ?_
  refine b_seti (e_bin (e_loc rfl (e_lit ?_)))
  refine o_some rfl ?_
  refine e_loc rfl (e_lit ?_)
  refine o_some (put_at _ _) ?_
  refine b_ret (e_bin (e_bin (e_ite (t_cmp (e_loc rfl (e_bi (es_cons (e_idx (e_loc rfl (e_lit ?_))))))))))
  refine o_some (idx_cells _) ?_
  refine es_nil ?_
  refine o_some (evBi_len rfl (by rw [ivs_len]; unfold lim; dsimp only; (first | lia | omega))) ?_
  refine o_some rfl ?_
  dsimp only
  have hb : (0 : Int) < many ∧ many < 2 ^ 30 := ⟨hm.1, by (first | lia | omega)⟩
  by_cases hlt : w.at' < ((ivs w.cells).length : Int)
  · rw [if_pos (decide_eq_true hlt)]
    rw [ivs_len] at hlt
    refine e_idx (e_idx (e_loc rfl (e_lit ?_)))
    refine o_some (idx_cells _) ?_
    refine e_loc rfl ?_
    obtain ⟨x, hx⟩ : ∃ x, w.cells[w.at'.toNat]? = some x := ⟨_, List.getElem?_eq_getElem (by (first | lia | omega))⟩
    have hx' : (ivs w.cells)[w.at'.toNat]? = some (.int x) := by rw [ivs_at, hx]; rfl
    have hg := getIdx_lst (σ := { w with at' := w.at' + 1 }.sto) (n := 1) (i := w.at'.toNat) rfl (by rw [ivs_len]; unfold lim; (first | lia | omega)) hx'
    rw [Int.toNat_of_nonneg ha.1] at hg
    refine o_some hg ?_
    refine e_lit ?_
    refine o_some (evBin_mod (by decide)) ?_
    refine e_loc rfl ?_
    refine o_some (evBin_mod hb) ?_
    exact fin _
  · rw [if_neg (by simpa using hlt)]
    refine e_bin (e_bin (e_bin (e_bin (e_lit (e_loc rfl ?_)))))
    refine o_some (evBin_mul (by (first | lia | omega))) ?_
    refine e_loc rfl ?_
    refine o_some (evBin_mul (by (first | lia | omega))) ?_
    refine e_bin (e_lit (e_loc rfl ?_))
    refine o_some (evBin_mul (by (first | lia | omega))) ?_
    refine o_some rfl ?_
    refine e_lit ?_
    refine o_some rfl ?_
    refine e_lit ?_
    refine o_some (evBin_mod (by decide)) ?_
    refine e_loc rfl ?_
    refine o_some (evBin_mod hb) ?_
    exact fin _
end Mine
namespace Mine
open PySem

/-- the bank, to read from -/
structure Rd (σ : Sto) (ts : List TK) : Prop where
  bank : σ[3]? = some (.inst .TermBank bankFs)
  wid : σ[5]? = some (.lst [.int 0, .int 0, .int 0, .int 2, .int 0])
  ops : σ[9]? = some (.lst (ts.map TK.opV))
  args : σ[10]? = some (.lst (ts.map TK.argV))
  sorts : σ[11]? = some (.lst (ts.map TK.sortV))
  datas : σ[12]? = some (.lst (ts.map TK.dataV))
  len : ts.length < 100
theorem Rd.fld {σ : Sto} {ts : List TK} (R : Rd σ ts) {f : Fd} {u : V} (h : aget bankFs f = some u) : σ.fld 3 f = some u := fld_at R.bank h
theorem Rd.cls {σ : Sto} {ts : List TK} (R : Rd σ ts) : σ.cls 3 = some .TermBank := cls_at R.bank
theorem Rd.of (w : W) (h : w.ts.length < 100) : Rd w.sto w.ts := ⟨rfl, rfl, rfl, rfl, rfl, rfl, h⟩

/-- term t -/
noncomputable def Tm (ts : List TK) (t : Int) (q : TK) : Prop := 0 ≤ t ∧ ts[t.toNat]? = some q
theorem deq_int {σ : Sto} (a b : Int) : deq σ (.int a) (.int b) = some (a == b) := rfl
theorem cmp_eq {σ : Sto} (a b : Int) : evCmp σ .eq (.int a) (.int b) = some (a == b) := deq_int (σ := σ) a b
theorem cmp_ne {σ : Sto} (a b : Int) : evCmp σ .ne (.int a) (.int b) = some (!(a == b)) := by unfold evCmp; dsimp only; rw [deq_int]; rfl
theorem deq_str {σ : Sto} (a b : Str) : deq σ (.str a) (.str b) = some (decide (a = b)) := rfl

section
variable {d : Nat} {σ : Sto} {ts : List TK} {t : Int} {q : TK} {Q : V → Sto → Prop}
theorem Rd.idx (R : Rd σ ts) {n : Nat} {f : TK → V} (e : σ[n]? = some (.lst (ts.map f))) (h : Tm ts t q) : getIdx σ (.ref n) (.int t) = some (f q) := by
  have := getIdx_lst (i := t.toNat) e (by rw [List.length_map]; have := R.len; unfold lim; (first | lia | omega)) (u := f q) (by rw [List.getElem?_map, h.2]; rfl)
  rwa [Int.toNat_of_nonneg h.1] at this
theorem rd_op (R : Rd σ ts) (h : Tm ts t q) (k : Q (.str q.op) σ) : Sp (d + 1) .bk_op [.ref 3, .int t] σ Q := by
  refine sp_go rfl ?_
  unfold Fn.body B.bk_op
  dsimp only
  refine b_ret (e_idx (e_attr rfl (Rd.fld ‹_› rfl) (e_loc rfl ?_)))
  exact o_some (R.idx R.ops h) k
theorem rd_args (R : Rd σ ts) (h : Tm ts t q) (k : Q (.tup (ivs q.args)) σ) : Sp (d + 1) .bk_args [.ref 3, .int t] σ Q := by
  refine sp_go rfl ?_
  unfold Fn.body B.bk_args
  dsimp only
  refine b_ret (e_idx (e_attr rfl (Rd.fld ‹_› rfl) (e_loc rfl ?_)))
  exact o_some (R.idx R.args h) k
theorem rd_sort (R : Rd σ ts) (h : Tm ts t q) (k : Q (.int q.sort) σ) : Sp (d + 1) .bk_sort [.ref 3, .int t] σ Q := by
  refine sp_go rfl ?_
  unfold Fn.body B.bk_sort
  dsimp only
  refine b_ret (e_idx (e_attr rfl (Rd.fld ‹_› rfl) (e_loc rfl ?_)))
  exact o_some (R.idx R.sorts h) k
theorem rd_data (R : Rd σ ts) (h : Tm ts t q) (k : Q (.int q.data) σ) : Sp (d + 1) .bk_data [.ref 3, .int t] σ Q := by
  refine sp_go rfl ?_
  unfold Fn.body B.bk_data
  dsimp only
  refine b_ret (e_idx (e_attr rfl (Rd.fld ‹_› rfl) (e_loc rfl ?_)))
  exact o_some (R.idx R.datas h) k
/-- how wide a sort is -/
noncomputable def wid (s : Int) : Int := if s = 3 then 2 else 0
theorem idx_wid {σ : Sto} (e : σ[5]? = some (.lst [.int 0, .int 0, .int 0, .int 2, .int 0])) {s : Int} (h : 0 ≤ s ∧ s < 5) : getIdx σ (.ref 5) (.int s) = some (.int (wid s)) := by
  obtain ⟨n, rfl⟩ : ∃ n : Nat, s = n := ⟨s.toNat, by (first | lia | omega)⟩
  have : n = 0 ∨ n = 1 ∨ n = 2 ∨ n = 3 ∨ n = 4 := by (first | lia | omega)
  rcases this with rfl | rfl | rfl | rfl | rfl <;> exact getIdx_lst e (by decide) rfl
theorem rd_width_of (R : Rd σ ts) {s : Int} (h : 0 ≤ s ∧ s < 5) (k : Q (.int (wid s)) σ) : Sp (d + 1) .bk_width_of [.ref 3, .int s] σ Q := by
  refine sp_go rfl ?_
  unfold Fn.body B.bk_width_of
  dsimp only
  refine b_ret (e_idx (e_attr rfl (Rd.fld ‹_› rfl) (e_loc rfl ?_)))
  exact o_some (idx_wid R.wid h) k
theorem rd_width (R : Rd σ ts) (h : Tm ts t q) (hs : 0 ≤ q.sort ∧ q.sort < 5) (k : Q (.int (wid q.sort)) σ) : Sp (d + 1) .bk_width [.ref 3, .int t] σ Q := by
  refine sp_go rfl ?_
  unfold Fn.body B.bk_width
  dsimp only
  refine b_ret (e_idx (e_attr rfl (Rd.fld ‹_› rfl) (e_idx (e_attr rfl (Rd.fld ‹_› rfl) (e_loc rfl ?_)))))
  refine o_some (R.idx R.sorts h) ?_
  exact o_some (idx_wid R.wid hs) k
theorem want_ok (R : Rd σ ts) (h : Tm ts t q) {x : V} (k : Q .none σ) : Sp (d + 1) .bk_want [.ref 3, .int t, .int q.sort, x] σ Q := by
  refine sp_go rfl ?_
  unfold Fn.body B.bk_want
  dsimp only
  refine b_ite (t_cmp (e_idx (e_attr rfl (Rd.fld ‹_› rfl) (e_loc rfl ?_))))
  refine o_some (R.idx R.sorts h) ?_
  refine e_loc rfl ?_
  refine o_some (a := false) (by unfold evCmp; dsimp only [TK.sortV]; rw [deq_int]; simp) ?_
  exact k
theorem is_number_sort_ok {s : Int} {n : V} (k : Q (.bool (decide (s = 1 ∨ s = 2))) σ) : Sp (d + 1) .bk_is_number_sort [n, .int s] σ Q := by
  refine sp_go rfl ?_
  unfold Fn.body B.bk_is_number_sort
  dsimp only
  refine b_ret ?_
  refine e_or ?_
  refine e_cmp (e_loc rfl (e_gl ?_))
  refine o_some (cmp_eq s 1) ?_
  by_cases h : s = 1
  · subst h
    exact k
  · have e : (s == 1) = false := by simpa using h
    rw [e]
    show evE _ _ _ _ _
    refine e_cmp (e_loc rfl (e_gl ?_))
    refine o_some (cmp_eq s 2) ?_
    have e2 : (s == 2) = decide (s = 1 ∨ s = 2) := by
      by_cases h2 : s = 2
      · subst h2; rfl
      · rw [decide_eq_false (by (first | lia | omega))]; simpa using h2
    rw [e2]
    exact k
theorem want_number_ok (R : Rd σ ts) (h : Tm ts t q) (hq : q.sort = 1 ∨ q.sort = 2) {x : V} (k : Q .none σ) : Sp (d + 2) .bk_want_number [.ref 3, .int t, x] σ Q := by
  refine sp_go rfl ?_
  unfold Fn.body B.bk_want_number
  dsimp only
  refine b_ite (t_not (t_meth rfl (Rd.cls ‹_›) (es_cons (e_idx (e_attr rfl (Rd.fld ‹_› rfl) (e_loc rfl ?_))))))
  refine o_some (R.idx R.sorts h) ?_
  refine es_nil ?_
  refine is_number_sort_ok ?_
  rw [decide_eq_true hq]
  exact k
end

/-! loops -/
theorem for_inv {f : V → Locs → Sto → (Fl → Locs → Sto → Prop) → Prop} {g : Option (Nat × List V)} (I : List V → Locs → Sto → Prop)
    (step : ∀ v r l σ (K : Fl → Locs → Sto → Prop), I (v :: r) l σ → (∀ l' σ', stays g σ' → I r l' σ' → K .next l' σ' ∧ K .cont l' σ') → f v l σ K) :
    ∀ (xs : List V) (l : Locs) (σ : Sto) (k : Fl → Locs → Sto → Prop), I xs l σ → (∀ l' σ', I [] l' σ' → k .next l' σ') → goFor f g xs l σ k
  | [], l, σ, _, h, hk => hk l σ h
  | v :: r, l, σ, k, h, hk => step v r l σ _ h fun l' σ' a b => ⟨⟨a, for_inv I step r l' σ' k b hk⟩, ⟨a, for_inv I step r l' σ' k b hk⟩⟩
theorem comp_pure {f : V → Sto → (List V → Sto → Prop) → Prop} {g : Option (Nat × List V)} {σ : Sto} (F : V → List V) (hg : stays g σ) {k : List V → Sto → Prop} :
    ∀ (vs acc : List V), (∀ v ∈ vs, ∀ k' : List V → Sto → Prop, k' (F v) σ → f v σ k') → k (acc ++ vs.flatMap F) σ → goComp f g vs acc σ k
  | [], acc, _, h => by simpa [goComp] using h
  | v :: r, acc, hf, h => by
    refine hf v List.mem_cons_self _ ⟨hg, comp_pure F hg r _ (fun u hu => hf u (List.mem_cons_of_mem _ hu)) ?_⟩
    rw [List.append_assoc]; exact h
section
variable {d : Nat} {σ : Sto} {ts : List TK} {t : Int} {q : TK} {Q : V → Sto → Prop}
theorem want_all_ok (R : Rd σ ts) {s : Int} {x : V} {n : Nat} {xs : List Int} (e : σ[n]? = some (.lst (ivs xs))) (hl : xs.length < 100) (h : ∀ i ∈ xs, ∃ q, Tm ts i q ∧ q.sort = s) (k : Q .none σ) : Sp (d + 2) .bk_want_all [.ref 3, .ref n, .int s, x] σ Q := by
  refine sp_go rfl ?_
  unfold Fn.body B.bk_want_all
  dsimp only
  refine b_for ?_
  show evE _ _ _ _ _
  refine e_loc rfl ?_
  refine o_some (itemsOf_lst e (by rw [ivs_len]; exact hl)) ?_
  refine for_inv (fun r l σ' => σ' = σ ∧ l .n_self = some (.ref 3) ∧ l .n_s = some (.int s) ∧ l .n_where = some x ∧ ∀ v ∈ r, ∃ i, i ∈ xs ∧ v = .int i) (fun v r l σ' K I hK => ?_) _ _ _ _ ⟨rfl, rfl, rfl, rfl, fun v hv => ?_⟩ (fun l' σ' I => ?_)
  · obtain ⟨rfl, h1, h2, h3, h4⟩ := I
    obtain ⟨i, hi, rfl⟩ := h4 v List.mem_cons_self
    obtain ⟨q, hq, rfl⟩ := h i hi
    refine o_some (a := upd l .n_t (.int i)) rfl ?_
    refine b_expr ?_
    refine e_meth (n := 3) h1 R.cls ?_
    refine es_cons (e_loc rfl (es_cons (e_loc h2 (es_cons (e_loc h3 (es_nil ?_))))))
    refine want_ok R hq ?_
    exact b_nil (hK (upd l .n_t (.int i)) _ (lst_of e) ⟨rfl, h1, h2, h3, fun v hv => h4 v (List.mem_cons_of_mem _ hv)⟩).1
  · obtain ⟨i, hi, rfl⟩ := List.mem_map.mp hv
    exact ⟨i, hi, rfl⟩
  · obtain ⟨rfl, _⟩ := I
    exact k
end
end Mine
namespace Mine
open PySem

theorem if_t {c : Bool} {p q : Prop} (h : c = true) (x : p) : if c = true then p else q := by rw [if_pos h]; exact x
theorem if_f {c : Bool} {p q : Prop} (h : c = false) (x : q) : if c = true then p else q := by rw [if_neg (by rw [h]; exact Bool.false_ne_true)]; exact x
theorem asInts_ivs : ∀ l : List Int, asInts (ivs l) = some l
  | [] => rfl
  | a :: r => by
    show (asInts (ivs r)).map (a :: ·) = _
    rw [asInts_ivs r]; rfl
theorem aget_aset {κ : Type} [DecidableEq κ] : ∀ (m : List (κ × V)) (k : κ) (v : V) (k' : κ), aget (aset m k v) k' = if k = k' then some v else aget m k'
  | [], k, v, k' => rfl
  | (a, b) :: r, k, v, k' => by
    unfold aset
    split
    · rename_i h
      subst h
      show (if a = k' then some v else aget r k') = if a = k' then some v else (if a = k' then some b else aget r k')
      split <;> rfl
    · rename_i h
      show (if a = k' then some b else aget (aset r k v) k') = _
      rw [aget_aset r k v k']
      by_cases h1 : a = k'
      · subst h1
        rw [if_pos rfl, if_neg (fun e => h e.symm)]
        show _ = if a = a then some b else _
        rw [if_pos rfl]
      · rw [if_neg h1]
        show _ = if k = k' then some v else (if a = k' then some b else aget r k')
        rw [if_neg h1]
theorem aset_len {κ : Type} [DecidableEq κ] : ∀ (m : List (κ × V)) (k : κ) (v : V), (aset m k v).length ≤ m.length + 1
  | [], _, _ => Nat.le_refl _
  | (a, b) :: r, k, v => by
    unfold aset
    split
    · exact Nat.le_succ _
    · have := aset_len r k v
      simp only [List.length_cons]; (first | lia | omega)

theorem Tm.lt {ts : List TK} {t : Int} {q : TK} (h : Tm ts t q) : t < ts.length := by
  have := (List.getElem?_eq_some_iff.mp h.2).1
  have := h.1
  (first | lia | omega)
theorem Tm.of {ts : List TK} {t : Int} (h0 : 0 ≤ t) (h : t < ts.length) : ∃ q, Tm ts t q := ⟨_, h0, List.getElem?_eq_getElem (by (first | lia | omega))⟩
theorem Tm.app {ts : List TK} {t : Int} {q p : TK} (h : Tm ts t q) : Tm (ts ++ [p]) t q := ⟨h.1, by
  rw [List.getElem?_append_left (List.getElem?_eq_some_iff.mp h.2).1]; exact h.2⟩
theorem Tm.last {ts : List TK} {q : TK} : Tm (ts ++ [q]) (ts.length : Int) q := ⟨by (first | lia | omega), by simp⟩
theorem Tm.inj {ts : List TK} {t : Int} {q p : TK} (h : Tm ts t q) (h' : Tm ts t p) : q = p := Option.some.inj (h.2.symm.trans h'.2)
theorem Tm.back {ts : List TK} {t : Int} {q p : TK} (h : Tm (ts ++ [p]) t q) : Tm ts t q ∨ t = ts.length ∧ q = p := by
  rcases Nat.lt_or_ge t.toNat ts.length with z | z
  · exact .inl ⟨h.1, by rw [← h.2, List.getElem?_append_left z]⟩
  · have hl := h.lt
    have h0 := h.1
    rw [List.length_append] at hl
    have : ([p] : List TK).length = 1 := rfl
    have e : t = ts.length := by (first | lia | omega)
    refine .inr ⟨e, ?_⟩
    have h2 := h.2
    rw [e] at h2
    simp at h2
    exact h2.symm

/-- a bank in order -/
structure Wt (ts : List TK) (m : List (TK × V)) : Prop where
  pre : ∃ r, ts = ts0 ++ r
  args : ∀ t q, Tm ts t q → ∀ a ∈ q.args, 1 ≤ a ∧ a < t
  alen : ∀ t q, Tm ts t q → q.args.length ≤ 3 ∧ (q.op = Str.ofString "app" → q.args.length ≤ 2)
  sort : ∀ t q, Tm ts t q → 0 ≤ q.sort ∧ q.sort < 5
  num : ∀ q v, aget m q = some v → ∃ i, v = .int i ∧ 1 ≤ i ∧ Tm ts i q
  mlen : m.length ≤ ts.length
theorem Wt.grow {ts : List TK} {m : List (TK × V)} (X : Wt ts m) {q : TK} (ha : ∀ a ∈ q.args, 1 ≤ a ∧ a < ts.length) (hl : q.args.length ≤ 3 ∧ (q.op = Str.ofString "app" → q.args.length ≤ 2)) (hs : 0 ≤ q.sort ∧ q.sort < 5) : Wt (ts ++ [q]) (aset m q (.int ts.length)) where
  pre := let ⟨r, e⟩ := X.pre; ⟨r ++ [q], by rw [e, List.append_assoc]⟩
  args := fun t p h => by
    rcases h.back with h | ⟨e, rfl⟩
    · exact X.args t p h
    · rw [e]; exact ha
  alen := fun t p h => by
    rcases h.back with h | ⟨e, rfl⟩
    · exact X.alen t p h
    · exact hl
  sort := fun t p h => by
    rcases h.back with h | ⟨e, rfl⟩
    · exact X.sort t p h
    · exact hs
  num := fun p v h => by
    rw [aget_aset] at h
    split at h
    · rename_i e
      cases h; subst e
      obtain ⟨r, er⟩ := X.pre
      exact ⟨_, rfl, by rw [er, List.length_append]; simp [ts0]; (first | lia | omega), Tm.last⟩
    · obtain ⟨i, e, h1, h2⟩ := X.num p v h
      exact ⟨i, e, h1, h2.app⟩
  mlen := by
    have := aset_len m q (.int ts.length)
    have := X.mlen
    rw [List.length_append]
    show _ ≤ ts.length + 1
    (first | lia | omega)
theorem wt0 : Wt ts0 m0 where
  pre := ⟨[], rfl⟩
  args := fun t q h a ha => by
    have : ∀ p ∈ ts0, p.args = [] := by decide +kernel
    rw [this q (List.mem_of_getElem? h.2)] at ha
    cases ha
  alen := fun t q h => by
    have : ∀ p ∈ ts0, p.args = [] := by decide +kernel
    rw [this q (List.mem_of_getElem? h.2)]; exact ⟨Nat.zero_le _, fun _ => Nat.zero_le _⟩
  sort := fun t q h => by
    have : ∀ p ∈ ts0, 0 ≤ p.sort ∧ p.sort < 5 := by decide +kernel
    exact this q (List.mem_of_getElem? h.2)
  num := fun q v h => by
    have key : ∀ (m : List (TK × V)) (q : TK) (v : V), aget m q = some v → (q, v) ∈ m := by
      intro m q v
      induction m with
      | nil => intro h; cases h
      | cons x r ih =>
        intro h
        obtain ⟨a, b⟩ := x
        unfold aget at h
        split at h
        · rename_i e
          cases h; subst e; exact List.mem_cons_self
        · exact List.mem_cons_of_mem _ (ih h)
    have := key _ _ _ h
    simp only [m0, List.mem_cons, List.not_mem_nil, or_false, Prod.mk.injEq] at this
    rcases this with ⟨rfl, rfl⟩ | ⟨rfl, rfl⟩ | ⟨rfl, rfl⟩ | ⟨rfl, rfl⟩ | ⟨rfl, rfl⟩ | ⟨rfl, rfl⟩ | ⟨rfl, rfl⟩
    · exact ⟨1, rfl, by decide, by decide, rfl⟩
    · exact ⟨2, rfl, by decide, by decide, rfl⟩
    · exact ⟨3, rfl, by decide, by decide, rfl⟩
    · exact ⟨4, rfl, by decide, by decide, rfl⟩
    · exact ⟨5, rfl, by decide, by decide, rfl⟩
    · exact ⟨6, rfl, by decide, by decide, rfl⟩
    · exact ⟨7, rfl, by decide, by decide, rfl⟩
  mlen := by decide

theorem sets_eq (w : W) (q : TK) : (((w.sto.set 9 (.lst (w.ts.map TK.opV ++ [q.opV]))).set 10 (.lst (w.ts.map TK.argV ++ [q.argV]))).set 11 (.lst (w.ts.map TK.sortV ++ [q.sortV]))).set 12 (.lst (w.ts.map TK.dataV ++ [q.dataV])) = { w with ts := w.ts ++ [q] }.sto := by
  unfold W.sto
  simp only [List.map_append, List.map_cons, List.map_nil]
  rfl

theorem asTK_q (q : TK) : V.asTK (.tup [.str q.op, .tup (ivs q.args), .int q.sort, .int q.data]) = some q := map_of (asInts_ivs q.args)
theorem evLm_get {σ : Sto} {n : Nat} {m : List (TK × V)} {k d : V} {q : TK} (e : σ[n]? = some (.dT m)) (hk : k.asTK = some q) : evLm σ .get (.ref n) [k, d] = some ((aget m q).getD d, σ) :=
  (bnd_of (show (σ[n]?).bind AObj.dT? = some m from bnd_of e)).trans (map_of hk)
theorem setIdx_dT {σ : Sto} {n : Nat} {m : List (TK × V)} {k v : V} {q : TK} (e : σ[n]? = some (.dT m)) (hk : k.asTK = some q) (h : m.length < lim) : setIdx σ (.ref n) k v = some (σ.set n (.dT (aset m q v))) :=
  (bnd_of e).trans (map_of ((bnd_of hk).trans (gd_of h)))
theorem make_ok {d : Nat} {w : W} {q : TK} {Q : V → Sto → Prop} (X : Wt w.ts w.m) (hl : w.ts.length < 90) (ha : ∀ a ∈ q.args, 1 ≤ a ∧ a < w.ts.length) (hal : q.args.length ≤ 3 ∧ (q.op = Str.ofString "app" → q.args.length ≤ 2)) (hs : 0 ≤ q.sort ∧ q.sort < 5)
    (h : ∀ ts' m' i, Wt ts' m' → ts' = w.ts ∨ ts' = w.ts ++ [q] → 1 ≤ i → Tm ts' i q → Q (.int i) { w with ts := ts', m := m' }.sto) :
    Sp (d + 1) .bk_make [.ref 3, .str q.op, .tup (ivs q.args), .int q.sort, .int q.data] w.sto Q := by
  refine sp_go rfl ?_
  unfold Fn.body B.bk_make
  dsimp only
  refine b_asg (e_tup (es_cons (e_loc rfl (es_cons (e_loc rfl (es_cons (e_loc rfl (es_cons (e_loc rfl (es_nil (b_asg (e_lm (e_attr rfl rfl ?_)))))))))))))
  refine o_if rfl ?_
  refine es_cons (e_loc rfl (es_cons (e_lit (es_nil ?_))))
  have hk : evLm w.sto .get (.ref 13) [.tup [.str q.op, .tup (ivs q.args), .int q.sort, .int q.data], .int 0] = some ((aget w.m q).getD (.int 0), w.sto) := by
    exact evLm_get rfl (asTK_q q)
  refine o_some hk ?_
  refine b_ite (t_cmp (e_loc rfl (e_lit ?_)))
  cases e : aget w.m q with
  | some v =>
    obtain ⟨i, rfl, h1, h2⟩ := X.num q v e
    dsimp only [Option.getD]
    refine o_some (cmp_eq i 0) ?_
    rw [show (i == 0) = false by rw [beq_eq_false_iff_ne]; (first | lia | omega)]
    simp only [Bool.false_eq_true, if_false]
    refine b_end ?_
    refine b_ret (e_loc rfl ?_)
    exact h w.ts w.m i X (.inl rfl) h1 h2
  | none =>
    dsimp only [Option.getD]
    refine o_some (cmp_eq 0 0) ?_
    refine if_t rfl ?_
    refine b_asg (e_bi (es_cons (e_attr rfl rfl (es_nil ?_))))
    refine o_some (evBi_len rfl (by rw [List.length_map]; unfold lim; (first | lia | omega))) ?_
    refine b_expr (e_lm (e_attr rfl rfl ?_))
    refine o_if rfl ?_
    refine es_cons (e_loc rfl (es_nil ?_))
    refine o_some (evLm_append rfl (by rw [List.length_map]; unfold lim; (first | lia | omega))) ?_
    refine b_expr (e_lm (e_attr rfl rfl ?_))
    refine o_if rfl ?_
    refine es_cons (e_loc rfl (es_nil ?_))
    refine o_some (evLm_append rfl (by rw [List.length_map]; unfold lim; (first | lia | omega))) ?_
    refine b_expr (e_lm (e_attr rfl rfl ?_))
    refine o_if rfl ?_
    refine es_cons (e_loc rfl (es_nil ?_))
    refine o_some (evLm_append rfl (by rw [List.length_map]; unfold lim; (first | lia | omega))) ?_
    refine b_expr (e_lm (e_attr rfl rfl ?_))
    refine o_if rfl ?_
    refine es_cons (e_loc rfl (es_nil ?_))
    refine o_some (evLm_append rfl (by rw [List.length_map]; unfold lim; (first | lia | omega))) ?_
    dsimp only
    rw [List.length_map]
    refine b_seti ?_
    rw [show (((w.sto.set 9 (.lst (w.ts.map TK.opV ++ [.str q.op]))).set 10 (.lst (w.ts.map TK.argV ++ [.tup (ivs q.args)]))).set 11 (.lst (w.ts.map TK.sortV ++ [.int q.sort]))).set 12 (.lst (w.ts.map TK.dataV ++ [.int q.data])) = (W.sto { w with ts := w.ts ++ [q] } : Sto) from sets_eq w q]
    refine e_loc rfl (e_attr rfl rfl (e_loc rfl ?_))
    have hset : setIdx { w with ts := w.ts ++ [q] }.sto (.ref 13) (.tup [.str q.op, .tup (ivs q.args), .int q.sort, .int q.data]) (.int w.ts.length) = some { w with ts := w.ts ++ [q], m := aset w.m q (.int w.ts.length) }.sto := by
      have hl : w.m.length < lim := by have := X.mlen; unfold lim; (first | lia | omega)
      exact setIdx_dT rfl (asTK_q q) hl
    refine o_some hset ?_
    refine b_end ?_
    refine b_ret (e_loc rfl ?_)
    exact h _ _ _ (X.grow ha hal hs) (.inr rfl) (by obtain ⟨r, er⟩ := X.pre; rw [er, List.length_append]; simp [ts0]; (first | lia | omega)) Tm.last
end Mine
namespace Mine
open PySem

section
variable {d : Nat} {w : W} {t c : Int} {p : TK} {Q : V → Sto → Prop}
/-- what a making leaves -/
noncomputable def Made (w : W) (Q : V → Sto → Prop) : Prop := ∀ ts' m' i, Wt ts' m' → (∀ t q, Tm w.ts t q → Tm ts' t q) → ts'.length ≤ w.ts.length + 1 → 1 ≤ i → (∃ q, Tm ts' i q) → Q (.int i) { w with ts := ts', m := m' }.sto
theorem Made.make (X : Wt w.ts w.m) (hl : w.ts.length < 90) {q : TK} (ha : ∀ a ∈ q.args, 1 ≤ a ∧ a < w.ts.length) (hal : q.args.length ≤ 3 ∧ (q.op = Str.ofString "app" → q.args.length ≤ 2)) (hs : 0 ≤ q.sort ∧ q.sort < 5) (h : Made w Q) :
    Sp (d + 1) .bk_make [.ref 3, .str q.op, .tup (ivs q.args), .int q.sort, .int q.data] w.sto Q :=
  make_ok X hl ha hal hs fun ts' m' i a b c e => by
    rcases b with rfl | rfl
    · exact h _ m' i a (fun _ _ z => z) (Nat.le_succ _) c ⟨_, e⟩
    · exact h _ m' i a (fun _ _ z => z.app) (by rw [List.length_append]; exact Nat.le_refl _) c ⟨_, e⟩

theorem want_eq {σ : Sto} {ts : List TK} (R : Rd σ ts) (h : Tm ts t p) {s : Int} (e : p.sort = s) {x : V} (k : Q .none σ) : Sp (d + 1) .bk_want [.ref 3, .int t, .int s, x] σ Q := by
  subst e; exact want_ok R h k
theorem plus_ok (X : Wt w.ts w.m) (hl : w.ts.length < 90) {n : Nat} (e : w.sto[n]? = some (.lst (ivs [t, t]))) (h1 : 1 ≤ t) (ht : Tm w.ts t p) (hp : p.sort = 1 ∨ p.sort = 2) (h : Made w Q) :
    Sp (d + 3) .bk_plus [.ref 3, .ref n] w.sto Q := by
  have R := Rd.of w (by (first | lia | omega))
  have e0 : getIdx w.sto (.ref n) (.int 0) = some (.int t) := getIdx_lst (i := 0) e (by show 2 < lim; decide) rfl
  refine sp_go rfl ?_
  unfold Fn.body B.bk_plus
  dsimp only
  refine b_ite (t_cmp (e_bi (es_cons (e_loc rfl (es_nil ?_)))))
  refine o_some (evBi_len e (by show 2 < 2 * lim; decide)) ?_
  refine e_lit ?_
  refine o_some (cmp_eq 2 0) ?_
  refine if_f rfl ?_
  refine b_end ?_
  refine b_expr (e_meth rfl rfl (es_cons (e_idx (e_loc rfl (e_lit ?_)))))
  refine o_some e0 ?_
  refine es_cons (e_lit (es_nil ?_))
  refine want_number_ok R ht hp ?_
  refine b_expr (e_meth rfl rfl (es_cons (e_loc rfl (es_cons (e_idx (e_attr rfl rfl (e_idx (e_loc rfl (e_lit ?_)))))))))
  refine o_some e0 ?_
  refine o_some (R.idx R.sorts ht) ?_
  refine es_cons (e_lit (es_nil ?_))
  refine want_all_ok R e (by show 2 < 100; decide) (fun i hi => ⟨p, by simp at hi; rw [hi]; exact ht, rfl⟩) ?_
  refine b_ret (e_ite (t_cmp (e_bi (es_cons (e_loc rfl (es_nil ?_))))))
  refine o_some (evBi_len e (by show 2 < 2 * lim; decide)) ?_
  refine e_lit ?_
  refine o_some (cmp_eq 2 1) ?_
  refine if_f rfl ?_
  refine e_meth rfl rfl (es_cons (e_lit (es_cons (e_bi (es_cons (e_loc rfl (es_nil ?_)))))))
  refine o_some (evBi_tupL e (by show 2 < lim; decide)) ?_
  refine es_cons (e_idx (e_attr rfl rfl (e_idx (e_loc rfl (e_lit ?_)))))
  refine o_some e0 ?_
  refine o_some (R.idx R.sorts ht) ?_
  refine es_cons (e_lit (es_nil ?_))
  have hs := X.sort _ _ ht
  have hlt := ht.lt
  exact Made.make (q := ⟨Str.ofString "+", [t, t], p.sort, 0⟩) X hl (fun a ha => by simp at ha; (first | lia | omega)) ⟨(by show 2 ≤ 3; decide), fun e => absurd (show Str.ofString "+" = Str.ofString "app" from e) (by decide +kernel)⟩ hs h

theorem eq_ok (X : Wt w.ts w.m) (hl : w.ts.length < 90) (h1 : 1 ≤ t) (ht : Tm w.ts t p) {r : TK} (hc1 : 1 ≤ c) (hc : Tm w.ts c r) (hs : r.sort = p.sort) (h : Made w Q) : Sp (d + 2) .bk_eq [.ref 3, .int t, .int c] w.sto Q := by
  have R := Rd.of w (by (first | lia | omega))
  refine sp_go rfl ?_
  unfold Fn.body B.bk_eq
  dsimp only
  refine b_expr (e_meth rfl rfl (es_cons (e_loc rfl (es_cons (e_idx (e_attr rfl rfl (e_loc rfl ?_)))))))
  refine o_some (R.idx R.sorts ht) ?_
  refine es_cons (e_lit (es_nil ?_))
  refine want_eq (p := r) (s := p.sort) R hc hs ?_
  refine b_ite (t_cmp (e_loc rfl (e_loc rfl ?_)))
  refine o_some (cmp_eq t c) ?_
  by_cases e : t = c
  · subst e
    refine if_t (by simp) ?_
    refine b_ret (e_attr rfl rfl ?_)
    have := X.pre
    exact h w.ts w.m 1 X (fun _ _ z => z) (Nat.le_succ _) (by decide) ⟨K' "true" [] 0 0, by decide, by obtain ⟨r, er⟩ := this; rw [er]; rfl⟩
  · refine if_f (by simpa using e) ?_
    refine b_end ?_
    refine b_ret (e_meth rfl rfl (es_cons (e_lit (es_cons (e_tup (es_cons (e_bi (es_cons (e_loc rfl (es_cons (e_loc rfl (es_nil ?_))))))))))))
    refine o_some (a := (.int (if c < t then c else t), w.sto)) rfl ?_
    refine es_cons (e_bi (es_cons (e_loc rfl (es_cons (e_loc rfl (es_nil ?_))))))
    refine o_some (a := (.int (if c > t then c else t), w.sto)) rfl ?_
    refine es_nil (es_cons (e_gl (es_cons (e_lit (es_nil ?_)))))
    have hlt := ht.lt
    have hlc := hc.lt
    refine Made.make (q := ⟨Str.ofString "=", [if c < t then c else t, if c > t then c else t], 0, 0⟩) X hl (fun a ha => ?_) ⟨(by show 2 ≤ 3; decide), fun e => absurd (show Str.ofString "=" = Str.ofString "app" from e) (by decide +kernel)⟩ ⟨(by show (0 : Int) ≤ 0; decide), (by show (0 : Int) < 5; decide)⟩ h
    simp only [List.mem_cons, List.not_mem_nil, or_false] at ha
    rcases ha with rfl | rfl
    · split <;> (first | lia | omega)
    · split <;> (first | lia | omega)

theorem ite_ok (X : Wt w.ts w.m) (hl : w.ts.length < 90) (h1 : 1 ≤ t) (ht : Tm w.ts t p) {r : TK} (hc1 : 1 ≤ c) (hc : Tm w.ts c r) (hs : r.sort = 0) (h : Made w Q) : Sp (d + 2) .bk_ite [.ref 3, .int c, .int t, .int t] w.sto Q := by
  have R := Rd.of w (by (first | lia | omega))
  refine sp_go rfl ?_
  unfold Fn.body B.bk_ite
  dsimp only
  refine b_expr (e_meth rfl rfl (es_cons (e_loc rfl (es_cons (e_gl (es_cons (e_lit (es_nil ?_))))))))
  refine want_eq (p := r) (s := 0) R hc hs ?_
  refine b_expr (e_meth rfl rfl (es_cons (e_loc rfl (es_cons (e_idx (e_attr rfl rfl (e_loc rfl ?_)))))))
  refine o_some (R.idx R.sorts ht) ?_
  refine es_cons (e_lit (es_nil ?_))
  refine want_ok R ht ?_
  refine b_ret (e_meth rfl rfl (es_cons (e_lit (es_cons (e_tup (es_cons (e_loc rfl (es_cons (e_loc rfl (es_cons (e_loc rfl (es_nil (es_cons (e_idx (e_attr rfl rfl (e_loc rfl ?_))))))))))))))))
  refine o_some (R.idx R.sorts ht) ?_
  refine es_cons (e_lit (es_nil ?_))
  have hs := X.sort _ _ ht
  have hlt := ht.lt
  have hlc := hc.lt
  exact Made.make (q := ⟨Str.ofString "ite", [c, t, t], p.sort, 0⟩) X hl (fun a ha => by simp at ha; (first | lia | omega)) ⟨(by show 3 ≤ 3; decide), fun e => absurd (show Str.ofString "ite" = Str.ofString "app" from e) (by decide +kernel)⟩ hs h

theorem wants_ok {σ : Sto} {ts : List TK} (R : Rd σ ts) {l : Locs} {n : Nat} {as ss : List Int} {f : Int} (h1 : l .n_self = some (.ref 3)) (h2 : l .n_some = some (.ref n)) (h3 : l .n_sorts = some (.tup (ivs ss))) (h4 : l .n_f = some (.int f))
    (e : σ[n]? = some (.lst (ivs as))) (hl : as.length = ss.length) (hl2 : as.length < 100) (ha : ∀ x ∈ as.zip ss, ∃ q, Tm ts x.1 q ∧ q.sort = x.2) {u : V} (hf : getIdx σ (.ref 6) (.int f) = some u) :
    wantsOk σ l = some (dropL (dropL l .n_t) .n_s) := by
  have hall : (as.zip ss).all (wantOne σ 11) = true := by
    rw [List.all_eq_true]
    intro x hx
    obtain ⟨q, hq, hs⟩ := ha x hx
    unfold wantOne
    rw [R.idx R.sorts hq]
    dsimp only [TK.sortV]
    rw [hs]
    exact beq_self_eq_true _
  have hsome : (getIdx σ (.ref 6) (.int f)).isSome = true := by rw [hf, Option.isSome_some]
  have a1 : (l .n_self).bind V.ref? = some 3 := bnd_of h1
  have a2 : (l .n_some).bind V.ref? = some n := bnd_of h2
  have a3 : (l .n_sorts).bind V.tup? = some (ivs ss) := bnd_of h3
  have a4 : (l .n_f).bind V.int? = some f := bnd_of h4
  have a5 : (σ.fld 3 .f_term_sorts).bind V.ref? = some 11 := bnd_of (R.fld (u := .ref 11) rfl)
  have a6 : (σ.lst n).bind asInts = some as := (bnd_of (lst_of e)).trans (asInts_ivs as)
  refine map_of (a := ⟨3, n, ivs ss, f, 11, .ref 6, as, ss⟩) ((bnd_of a1).trans ((bnd_of a2).trans ((bnd_of a3).trans ((bnd_of a4).trans ((bnd_of a5).trans ((bnd_of (R.fld rfl)).trans ((bnd_of a6).trans ((bnd_of (asInts_ivs ss)).trans ?_))))))))
  exact gd_of ⟨R.cls, hl, hl2, hall, hsome⟩

/-- the sorts of the arguments, and of the result, of a function -/
noncomputable def rows : List (List Int × Int) := [([1], 1), ([1, 4], 4), ([4], 3), ([3, 2], 2), ([2, 3], 0), ([0], 1), ([4, 4], 0)]
theorem app_ok (X : Wt w.ts w.m) (hl : w.ts.length < 90) {n f : Nat} {as ss : List Int} {r : Int} (hr : rows[f]? = some (ss, r)) (e : w.sto[n]? = some (.lst (ivs as))) (hlen : as.length = ss.length)
    (ha : ∀ x ∈ as.zip ss, ∃ q, Tm w.ts x.1 q ∧ q.sort = x.2) (h1 : ∀ a ∈ as, 1 ≤ a ∧ a < w.ts.length) (h : Made w Q) : Sp (d + 2) .bk_app [.ref 3, .int (f : Int), .ref n] w.sto Q := by
  have R := Rd.of w (by (first | lia | omega))
  have hf : f < 7 := (List.getElem?_eq_some_iff.mp hr).1
  have hss : ss.length ≤ 2 ∧ 0 ≤ r ∧ r < 5 := by
    have : ∀ x ∈ rows, x.1.length ≤ 2 ∧ 0 ≤ x.2 ∧ x.2 < 5 := by decide
    exact this _ (List.mem_of_getElem? hr)
  have g7 : getIdx w.sto (.ref 7) (.int (f : Int)) = some (.tup (ivs ss)) := getIdx_lst (i := f) rfl (by decide) (by
    have : ∀ f, f < 7 → funArgs[f]? = (rows[f]?).map fun x => .tup (ivs x.1) := by
      intro f hf
      have : f = 0 ∨ f = 1 ∨ f = 2 ∨ f = 3 ∨ f = 4 ∨ f = 5 ∨ f = 6 := by (first | lia | omega)
      rcases this with rfl | rfl | rfl | rfl | rfl | rfl | rfl <;> rfl
    rw [this f hf, hr]; rfl)
  have g8 : getIdx w.sto (.ref 8) (.int (f : Int)) = some (.int r) := getIdx_lst (i := f) rfl (by decide) (by
    have : ∀ f, f < 7 → funRes[f]? = (rows[f]?).map fun x => .int x.2 := by
      intro f hf
      have : f = 0 ∨ f = 1 ∨ f = 2 ∨ f = 3 ∨ f = 4 ∨ f = 5 ∨ f = 6 := by (first | lia | omega)
      rcases this with rfl | rfl | rfl | rfl | rfl | rfl | rfl <;> rfl
    rw [this f hf, hr]; rfl)
  obtain ⟨u, g6⟩ : ∃ u, getIdx w.sto (.ref 6) (.int (f : Int)) = some u := by
    have : f = 0 ∨ f = 1 ∨ f = 2 ∨ f = 3 ∨ f = 4 ∨ f = 5 ∨ f = 6 := by (first | lia | omega)
    rcases this with rfl | rfl | rfl | rfl | rfl | rfl | rfl <;> exact ⟨_, getIdx_lst rfl (by decide) rfl⟩
  refine sp_go rfl ?_
  unfold Fn.body B.bk_app
  dsimp only
  refine b_asg (e_idx (e_attr rfl rfl (e_loc rfl ?_)))
  refine o_some g7 ?_
  refine b_ite (t_cmp (e_bi (es_cons (e_loc rfl (es_nil ?_)))))
  refine o_some (evBi_len e (by rw [ivs_len]; unfold lim; (first | lia | omega))) ?_
  refine e_bi (es_cons (e_loc rfl (es_nil ?_)))
  refine o_some (evBi_lenT (by rw [ivs_len]; unfold lim; (first | lia | omega))) ?_
  refine o_some (cmp_ne _ _) ?_
  refine if_f (by rw [ivs_len, ivs_len, hlen]; simp) ?_
  refine b_end ?_
  refine b_wants (wants_ok R rfl rfl rfl rfl e hlen (by (first | lia | omega)) ha g6) ?_
  refine b_ret (e_meth rfl rfl (es_cons (e_lit (es_cons (e_bi (es_cons (e_loc rfl (es_nil ?_))))))))
  refine o_some (evBi_tupL e (by rw [ivs_len]; unfold lim; (first | lia | omega))) ?_
  refine es_cons (e_idx (e_attr rfl rfl (e_loc rfl ?_)))
  refine o_some g8 ?_
  refine es_cons (e_loc rfl (es_nil ?_))
  exact Made.make (q := ⟨Str.ofString "app", as, r, f⟩) X hl h1 ⟨(by show as.length ≤ 3; (first | lia | omega)), fun _ => (by show as.length ≤ 2; (first | lia | omega))⟩ hss.2 h
end
end Mine
namespace Mine
open PySem

noncomputable def W.pushed (w : W) (o : AObj) : W := { w with post := w.post ++ [o] }
theorem sto_push (w : W) (o : AObj) : w.sto ++ [o] = (w.pushed o).sto := rfl
theorem sto_len (w : W) : w.sto.length = w.post.length + 25 := rfl
theorem sto_get (w : W) (k : Nat) : w.sto[k + 25]? = w.post[k]? := rfl
theorem sto_set (w : W) (k : Nat) (o : AObj) : w.sto.set (k + 25) o = { w with post := w.post.set k o }.sto := rfl
theorem made_set (w : W) (l : List Int) : w.sto.set 24 (.lst (ivs l)) = { w with made := l }.sto := rfl

/-- all is in order ahead of a lap -/
structure Ok (w : W) : Prop where
  wt : Wt w.ts w.m
  cells : w.cells.length < 64
  at0 : 0 ≤ w.at'
  pre : ∃ r, w.made = [3, 4, 5, 6, 7] ++ r
  made : ∀ t ∈ w.made, 1 ≤ t ∧ ∃ q, Tm w.ts t q

/-- the sort of t -/
noncomputable def srt (ts : List TK) (t : Int) : Int := match ts[t.toNat]? with
  | some q => q.sort
  | none => 0
theorem srt_of {ts : List TK} {t : Int} {q : TK} (h : Tm ts t q) : srt ts t = q.sort := by unfold srt; rw [h.2]
theorem Ok.five {w : W} (X : Ok w) {s : Int} (hs : 0 ≤ s ∧ s < 5) : ∃ t ∈ w.made, srt w.ts t = s := by
  obtain ⟨r, er⟩ := X.pre
  obtain ⟨u, eu⟩ := X.wt.pre
  rw [er, eu]
  have : s = 0 ∨ s = 1 ∨ s = 2 ∨ s = 3 ∨ s = 4 := by (first | lia | omega)
  rcases this with rfl | rfl | rfl | rfl | rfl
  · exact ⟨5, by simp, rfl⟩
  · exact ⟨3, by simp, rfl⟩
  · exact ⟨4, by simp, rfl⟩
  · exact ⟨6, by simp, rfl⟩
  · exact ⟨7, by simp, rfl⟩

section
variable {d : Nat} {w : W} {l : Locs} {Q : V → Sto → Prop}
noncomputable def fitsE (a b : Nm) (e : E) : E := .comp (.loc a) a (.loc b) [.cmp .eq (.meth (.loc .n_bank) .bk_sort [.loc a]) e]
/-- the terms of a sort -/
theorem fits_ok {a : Nm} {e : E} {s : Int} (X : Ok w) (hl : w.ts.length < 90) (hm : w.made.length < 90) (h1 : l .n_bank = some (.ref 3)) (h2 : l .n_made = some (.ref 24)) (ha : a ≠ .n_bank)
    (he : ∀ t (K : V → Sto → Prop), K (.int s) w.sto → evE (Sp (d + 1)) e (upd l a t) w.sto K)
    (h : Q (.ref w.sto.length) (w.pushed (.lst (ivs (w.made.filter fun t => srt w.ts t == s)))).sto) : evE (Sp (d + 1)) (fitsE a .n_made e) l w.sto Q := by
  have R := Rd.of w (by (first | lia | omega))
  unfold fitsE
  refine e_comp ?_
  refine e_loc h2 ?_
  refine o_some (itemsOf_lst (n := 24) (xs := ivs w.made) rfl (by rw [ivs_len]; (first | lia | omega))) ?_
  refine comp_pure (g := some (24, ivs w.made)) (σ := w.sto) (fun v => match v with
    | .int t => if srt w.ts t == s then [.int t] else []
    | _ => []) (lst_of (σ := w.sto) (n := 24) (xs := ivs w.made) rfl) (ivs w.made) [] (fun v hv k' hk => ?_) ?_
  · obtain ⟨t, ht, rfl⟩ := List.mem_map.mp hv
    obtain ⟨_, q, hq⟩ := X.made t ht
    refine ifs_one ?_
    refine t_cmp ?_
    refine e_meth (n := 3) (by show (if Nm.n_bank = a then _ else l .n_bank) = _; rw [if_neg (fun z => ha z.symm)]; exact h1) rfl ?_
    refine es_cons (e_loc (v := .int t) (by show (if a = a then _ else _) = _; rw [if_pos rfl]) (es_nil ?_))
    refine rd_sort R hq ?_
    refine he (.int t) _ ?_
    refine o_some (cmp_eq q.sort s) ?_
    dsimp only at hk
    rw [srt_of hq] at hk
    cases hb : q.sort == s with
    | true =>
      rw [hb] at hk
      refine if_t rfl ?_
      refine if_t rfl ?_
      exact e_loc (v := .int t) (by show (if a = a then _ else _) = _; rw [if_pos rfl]) hk
    | false =>
      rw [hb] at hk
      refine if_f rfl ?_
      refine if_f rfl ?_
      exact hk
  · rw [List.nil_append]
    have : (ivs w.made).flatMap (fun v => match v with
      | .int t => if srt w.ts t == s then [V.int t] else []
      | _ => []) = ivs (w.made.filter fun t => srt w.ts t == s) := by
      induction w.made with
      | nil => rfl
      | cons x r ih =>
        show (if srt w.ts x == s then [V.int x] else []) ++ (ivs r).flatMap _ = _
        rw [ih, List.filter_cons]
        split
        · rfl
        · rfl
    rw [this]
    exact h

theorem Ok.same {w w' : W} (X : Ok w) (h1 : w'.ts = w.ts) (h2 : w'.m = w.m) (h3 : w'.made = w.made) (h4 : w'.cells = w.cells) (h5 : 0 ≤ w'.at') : Ok w' :=
  ⟨by rw [h1, h2]; exact X.wt, by rw [h4]; exact X.cells, h5, by rw [h3]; exact X.pre, by rw [h3, h1]; exact X.made⟩

/-- the names that stay in a lap -/
structure Lap (l : Locs) : Prop where
  pan : l .n_pan = some (.ref 2)
  bank : l .n_bank = some (.ref 3)
  made : l .n_made = some (.ref 24)
  rows : l .n_rows = some (.ref 16)

structure ArgsAt (w : W) (k : Nat) (ss ss2 : List Int) (fv : Option V) (l : Locs) (w' : W) : Prop where
  ok : Ok w'
  ts : w'.ts = w.ts
  m : w'.m = w.m
  made : w'.made = w.made
  at' : w'.at' + ss2.length ≤ w.at' + ss.length
  lap : Lap l
  args : l .n_args = some (.ref (k + 25))
  fn : l .n_fun = fv
  done : ∃ ss1 as, ss = ss1 ++ ss2 ∧ w'.post[k]? = some (.lst (ivs as)) ∧ as.length = ss1.length ∧ (∀ x ∈ as.zip ss1, srt w.ts x.1 = x.2) ∧ ∀ a ∈ as, a ∈ w.made

noncomputable def argsB : List Stm := [.asg Nm.n_fits (fitsE .n_t .n_made (.loc .n_s)), .expr (.lm Lm.append (.loc Nm.n_args) [(.idx (.loc Nm.n_fits) (.call Fn.law_sift [(.loc Nm.n_pan), (.bi Bi.len [(.loc Nm.n_fits)])]))])]
theorem args_loop {k : Nat} {ss : List Int} {fv : Option V} (hl : w.ts.length < 90) (hm : w.made.length < 90) (hss : ∀ s ∈ ss, 0 ≤ s ∧ s < 5) (hat : w.at' + ss.length < 900) {K : Fl → Locs → Sto → Prop}
    (I0 : ArgsAt w k ss ss fv l w) (h : ∀ w' l', ArgsAt w k ss [] fv l' w' → K .next l' w'.sto) :
    goFor (fun v l σ k => opt (bindT (.nm .n_s) v l) fun l => evB (Sp (d + 1)) argsB l σ k) none (ivs ss) l w.sto K := by
  refine for_inv (fun r l' σ => ∃ w' ss2, σ = w'.sto ∧ r = ivs ss2 ∧ ArgsAt w k ss ss2 fv l' w') (fun v r l' σ K I hK => ?_) _ _ _ _ ⟨w, ss, rfl, rfl, I0⟩ (fun l' σ' I => ?_)
  · obtain ⟨w', ss2, rfl, hr, I⟩ := I
    cases ss2 with
    | nil => cases hr
    | cons s ss2 =>
      obtain ⟨rfl, rfl⟩ : v = .int s ∧ r = ivs ss2 := by
        have := List.cons.inj hr
        exact this
      obtain ⟨ss1, as, hsplit, hpost, hlen, hzip, hsub⟩ := I.done
      have hs : 0 ≤ s ∧ s < 5 := hss s (by rw [hsplit]; simp)
      have hat' := I.at'
      rw [List.length_cons] at hat'
      have X := I.ok
      have hsl : as.length < 1000 := by
        have h1 : ss1.length ≤ ss.length := by rw [hsplit, List.length_append]; (first | lia | omega)
        have h2 := I0.ok.at0
        (first | lia | omega)
      refine o_some rfl ?_
      unfold argsB
      refine b_asg ?_
      refine fits_ok (s := s) X (by rw [I.ts]; exact hl) (by rw [I.made]; exact hm) I.lap.bank I.lap.made (by decide) (fun t K hK => e_loc rfl hK) ?_
      have hfit : ∀ t, t ∈ (w'.made.filter fun t => srt w'.ts t == s) → srt w.ts t = s ∧ t ∈ w.made := fun t ht => by
        rw [List.mem_filter, I.ts, I.made] at ht
        exact ⟨beq_iff_eq.mp ht.2, ht.1⟩
      have hne : 0 < (w'.made.filter fun t => srt w'.ts t == s).length := by
        obtain ⟨t, ht, hst⟩ := X.five hs
        exact List.length_pos_iff.mpr fun z => by
          have : t ∈ (w'.made.filter fun t => srt w'.ts t == s) := List.mem_filter.mpr ⟨ht, by rw [hst]; exact beq_self_eq_true _⟩
          rw [z] at this; cases this
      have hle : (w'.made.filter fun t => srt w'.ts t == s).length < 90 := Nat.lt_of_le_of_lt (List.length_filter_le _ _) (by rw [I.made]; exact hm)
      generalize (w'.made.filter fun t => srt w'.ts t == s) = fits at hfit hne hle ⊢
      have hpk : k < w'.post.length := (List.getElem?_eq_some_iff.mp hpost).1
      rw [sto_len]
      have hp1 : (w'.pushed (.lst (ivs fits))).post[k]? = some (.lst (ivs as)) := by
        show (w'.post ++ [_])[k]? = _
        rw [List.getElem?_append_left hpk]; exact hpost
      have hp2 : (w'.pushed (.lst (ivs fits))).post[w'.post.length]? = some (.lst (ivs fits)) := by
        show (w'.post ++ [_])[w'.post.length]? = _
        simp
      refine b_expr ?_
      refine e_lm ?_
      refine e_loc (v := .ref (k + 25)) I.args ?_
      refine o_if (lmOk_lst (xs := ivs as) (by intro z; cases z) (by rw [sto_get]; exact hp1)) ?_
      refine es_cons ?_
      refine e_idx ?_
      refine e_loc (v := .ref (w'.post.length + 25)) rfl ?_
      refine e_call ?_
      refine es_cons (e_loc (v := .ref 2) I.lap.pan ?_)
      refine es_cons (e_bi ?_)
      refine es_cons (e_loc (v := .ref (w'.post.length + 25)) rfl (es_nil ?_))
      refine o_some (evBi_len (xs := ivs fits) (by rw [sto_get]; exact hp2) (by rw [ivs_len]; unfold lim; (first | lia | omega))) ?_
      refine es_nil ?_
      dsimp only
      rw [ivs_len]
      refine sift_ok (d := d) (w := w'.pushed (.lst (ivs fits))) ⟨by (first | lia | omega), by (first | lia | omega)⟩ ⟨X.at0, by show w'.at' < 1000; (first | lia | omega)⟩ X.cells fun j hj => ?_
      obtain ⟨x, hx⟩ : ∃ x, fits[j]? = some x := ⟨_, List.getElem?_eq_getElem (by (first | lia | omega))⟩
      refine o_some (getIdx_lst (xs := ivs fits) (i := j) (u := .int x) (by rw [sto_get]; exact hp2) (by rw [ivs_len]; unfold lim; (first | lia | omega)) (by rw [ivs_at, hx]; rfl)) ?_
      refine es_nil ?_
      refine o_some (evLm_append (xs := ivs as) (by rw [sto_get]; exact hp1) (by rw [ivs_len]; unfold lim; (first | lia | omega))) ?_
      dsimp only
      rw [sto_set]
      refine b_nil ?_
      have hxm := hfit x (List.mem_of_getElem? hx)
      refine (hK _ _ trivial ⟨_, ss2, rfl, rfl, ?_⟩).1
      refine ⟨X.same rfl rfl rfl rfl (by show 0 ≤ w'.at' + 1; have := X.at0; (first | lia | omega)), I.ts, I.m, I.made, (by show w'.at' + 1 + _ ≤ _; (first | lia | omega)), ⟨I.lap.pan, I.lap.bank, I.lap.made, I.lap.rows⟩, I.args, I.fn, ss1 ++ [s], as ++ [x], ?_, ?_, ?_, ?_, ?_⟩
      · rw [hsplit, List.append_assoc]; rfl
      · show ((w'.post ++ [_]).set k _)[k]? = _
        rw [List.getElem?_set_self (by rw [List.length_append]; (first | lia | omega))]
        show some (AObj.lst (ivs as ++ [.int x])) = some (.lst (ivs (as ++ [x])))
        unfold ivs
        rw [List.map_append]; rfl
      · rw [List.length_append, List.length_append, hlen]; rfl
      · rw [List.zip_append hlen]
        intro y hy
        rcases List.mem_append.mp hy with hy | hy
        · exact hzip y hy
        · have : y = (x, s) := by simpa using hy
          rw [this]; exact hxm.1
      · intro a ha
        rcases List.mem_append.mp ha with ha | ha
        · exact hsub a ha
        · rw [List.mem_singleton.mp ha]; exact hxm.2
  · obtain ⟨w', ss2, rfl, hr, I⟩ := I
    cases ss2 with
    | nil => exact h w' l' I
    | cons _ _ => cases hr
end
end Mine
namespace Mine
open PySem

section
variable {d : Nat} {w : W} {l : Locs} {Q : V → Sto → Prop}
/-- w' is w, perhaps with a term more -/
structure Grown (w w' : W) (n : Nat) : Prop where
  ok : Ok w'
  ts : w'.ts.length ≤ w.ts.length + n
  made : w'.made.length ≤ w.made.length + n
  at' : w'.at' = w.at'
theorem append_made {e : E} {S : Spec} (X : Ok w) (hm : w.made.length < 90) (h1 : l .n_made = some (.ref 24))
    (he : ∀ Q : V → Sto → Prop, (∀ post, Made { w with post := post } Q) → evE S e l w.sto Q)
    (h : ∀ w' i, Grown w w' 1 → w'.made = w.made ++ [i] → Q .none w'.sto) : evE S (.lm .append (.loc .n_made) [e]) l w.sto Q := by
  refine e_lm ?_
  refine e_loc h1 ?_
  refine o_if (lmOk_lst (n := 24) (xs := ivs w.made) (by intro z; cases z) rfl) ?_
  refine es_cons ?_
  refine he _ fun post ts' m' i a b c e f => ?_
  refine es_nil ?_
  refine o_some (evLm_append (n := 24) (xs := ivs w.made) rfl (by rw [ivs_len]; unfold lim; (first | lia | omega))) ?_
  dsimp only
  rw [show ivs w.made ++ [.int i] = ivs (w.made ++ [i]) by unfold ivs; rw [List.map_append]; rfl, made_set]
  refine h _ i ⟨⟨a, X.cells, X.at0, ?_, ?_⟩, c, ?_, rfl⟩ rfl
  · obtain ⟨r, er⟩ := X.pre
    exact ⟨r ++ [i], by show w.made ++ [i] = _; rw [er, List.append_assoc]⟩
  · intro t ht
    rcases List.mem_append.mp ht with ht | ht
    · obtain ⟨h1, q, hq⟩ := X.made t ht
      exact ⟨h1, q, b _ _ hq⟩
    · rw [List.mem_singleton.mp ht]; exact ⟨e, f⟩
  · show (w.made ++ [i]).length ≤ _
    rw [List.length_append]; exact Nat.le_refl _
theorem Ok.post {p : Sto} (X : Ok w) : Ok { w with post := p } := X.same rfl rfl rfl rfl X.at0
theorem row_at {j : Nat} (h : j < 7) : ∃ ss r, rows[j]? = some (ss, r) ∧ rowsV[j]? = some (rowV j ss) ∧ ss.length ≤ 2 ∧ ∀ s ∈ ss, 0 ≤ s ∧ s < 5 := by
  have : j = 0 ∨ j = 1 ∨ j = 2 ∨ j = 3 ∨ j = 4 ∨ j = 5 ∨ j = 6 := by (first | lia | omega)
  rcases this with rfl | rfl | rfl | rfl | rfl | rfl | rfl <;> exact ⟨_, _, rfl, rfl, by decide, by decide⟩

noncomputable def wayB0 : Stm := .ite (.and (.cmp Cop.eq (.loc Nm.n_way) (.lit (.int 0))) (.cmp Cop.isin (.meth (.loc Nm.n_bank) Fn.bk_sort [(.loc Nm.n_t)]) (.tup [(.gl Gl.INT), (.gl Gl.REAL)]))) [
      .expr (.lm Lm.append (.loc Nm.n_made) [(.meth (.loc Nm.n_bank) Fn.bk_plus [(.list [(.loc Nm.n_t), (.loc Nm.n_t)])])])] []
noncomputable def wayB1 : Stm := .ite (.cmp Cop.eq (.loc Nm.n_way) (.lit (.int 1))) [
      .expr (.lm Lm.append (.loc Nm.n_made) [(.meth (.loc Nm.n_bank) Fn.bk_eq [(.loc Nm.n_t), (.idx (fitsE .n_one .n_made (.meth (.loc Nm.n_bank) Fn.bk_sort [(.loc Nm.n_t)])) (.lit (.int 0)))])])] []
noncomputable def wayB2 : Stm := .ite (.cmp Cop.eq (.loc Nm.n_way) (.lit (.int 2))) [
      .expr (.lm Lm.append (.loc Nm.n_made) [(.meth (.loc Nm.n_bank) Fn.bk_ite [(.idx (.loc Nm.n_made) (.lit (.int 2))), (.loc Nm.n_t), (.loc Nm.n_t)])])] []
noncomputable def callB : Stm := .expr (.lm Lm.append (.loc Nm.n_made) [(.meth (.loc Nm.n_bank) Fn.bk_app [(.loc Nm.n_fun), (.loc Nm.n_args)])])
noncomputable def lapB : List Stm := [
    .asgT [Nm.n_fun, Nm.n_wanted] (.idx (.loc Nm.n_rows) (.call Fn.law_sift [(.loc Nm.n_pan), (.lit (.int 7))])),
    .asg Nm.n_args (.list []),
    .for (.nm Nm.n_s) (.e (.loc Nm.n_wanted)) argsB,
    callB,
    .asgT [Nm.n_way, Nm.n_t] (.tup [(.call Fn.law_sift [(.loc Nm.n_pan), (.lit (.int 4))]), (.idx (.loc Nm.n_made) (.neg 1))]),
    wayB0, wayB1, wayB2]
theorem body_terms : B.law_terms.drop 2 = [.for (.nm Nm.n_lap) (.range (.bin Bop.add (.lit (.int 3)) (.call Fn.law_sift [(.loc Nm.n_pan), (.lit (.int 6))]))) lapB, .ret (.loc Nm.n_made)] := rfl

/-- behind the call: t is the last of made -/
structure Way (l : Locs) (w : W) (way t : Int) : Prop where
  lap : Lap l
  way : l .n_way = some (.int way)
  tt : l .n_t = some (.int t)
  mem : t ∈ w.made
theorem b_if {S : Spec} {c : E} {a r : List Stm} {σ : Sto} {K : Fl → Locs → Sto → Prop} (h : evT S c l σ fun t σ => if t then evB S a l σ (seqQ (fun l σ => evB S r l σ K) K) else evB S r l σ K) : evB S (.ite c a [] :: r) l σ K := h
theorem way2_ok {way t : Int} {r : List Stm} {K : Fl → Locs → Sto → Prop} (X : Ok w) (Y : Way l w way t) (hl : w.ts.length < 80) (hm : w.made.length < 80)
    (h : ∀ w', Grown w w' (if way = 2 then 1 else 0) → t ∈ w'.made → evB (Sp (d + 2)) r l w'.sto K) : evB (Sp (d + 2)) (wayB2 :: r) l w.sto K := by
  unfold wayB2
  refine b_if ?_
  refine t_cmp (e_loc Y.way (e_lit ?_))
  refine o_some (cmp_eq way 2) ?_
  by_cases e : way = 2
  · refine if_t (by simpa using e) ?_
    rw [if_pos e] at h
    refine b_expr ?_
    obtain ⟨h1, q, hq⟩ := X.made t Y.mem
    obtain ⟨u, eu⟩ := X.wt.pre
    refine append_made X (by (first | lia | omega)) Y.lap.made (fun Q hQ => ?_) fun w' i hw hi => ?_
    · refine e_meth (n := 3) Y.lap.bank rfl ?_
      refine es_cons (e_idx (e_loc Y.lap.made (e_lit ?_)))
      refine o_some (getIdx_lst (n := 24) (xs := ivs w.made) (i := 2) (u := .int 5) rfl (by rw [ivs_len]; unfold lim; (first | lia | omega)) (by obtain ⟨r, er⟩ := X.pre; rw [er]; rfl)) ?_
      refine es_cons (e_loc Y.tt (es_cons (e_loc Y.tt (es_nil ?_))))
      exact ite_ok X.wt (by (first | lia | omega)) h1 hq (c := 5) (r := K' "app" [] 0 9) (by decide) ⟨by decide, by rw [eu]; rfl⟩ rfl (hQ w.post)
    · exact b_nil (h w' hw (by rw [hi]; exact List.mem_append_left _ Y.mem))
  · refine if_f (by simpa using e) ?_
    rw [if_neg e] at h
    exact h w ⟨X, Nat.le_refl _, Nat.le_refl _, rfl⟩ Y.mem
theorem way1_ok {way t : Int} {r : List Stm} {K : Fl → Locs → Sto → Prop} (X : Ok w) (Y : Way l w way t) (hl : w.ts.length < 80) (hm : w.made.length < 80)
    (h : ∀ w', Grown w w' (if way = 1 then 1 else 0) → t ∈ w'.made → evB (Sp (d + 2)) r l w'.sto K) : evB (Sp (d + 2)) (wayB1 :: r) l w.sto K := by
  unfold wayB1
  refine b_if ?_
  refine t_cmp (e_loc Y.way (e_lit ?_))
  refine o_some (cmp_eq way 1) ?_
  by_cases e : way = 1
  · refine if_t (by simpa using e) ?_
    rw [if_pos e] at h
    refine b_expr ?_
    obtain ⟨h1, q, hq⟩ := X.made t Y.mem
    have R := Rd.of w (by (first | lia | omega))
    refine append_made X (by (first | lia | omega)) Y.lap.made (fun Q hQ => ?_) fun w' i hw hi => ?_
    · refine e_meth (n := 3) Y.lap.bank rfl ?_
      refine es_cons (e_loc Y.tt ?_)
      refine es_cons (e_idx ?_)
      refine fits_ok (s := q.sort) X (by (first | lia | omega)) (by (first | lia | omega)) Y.lap.bank Y.lap.made (by decide) (fun v K hK => ?_) ?_
      · refine e_meth (n := 3) Y.lap.bank rfl ?_
        refine es_cons (e_loc (v := .int t) Y.tt (es_nil ?_))
        exact rd_sort R hq hK
      refine e_lit ?_
      have hmem : t ∈ w.made.filter fun x => srt w.ts x == q.sort := List.mem_filter.mpr ⟨Y.mem, by rw [srt_of hq]; exact beq_self_eq_true _⟩
      have hfit : ∀ x, x ∈ (w.made.filter fun t => srt w.ts t == q.sort) → srt w.ts x = q.sort ∧ x ∈ w.made := fun x hx => ⟨beq_iff_eq.mp (List.mem_filter.mp hx).2, (List.mem_filter.mp hx).1⟩
      have hle : (w.made.filter fun t => srt w.ts t == q.sort).length < 90 := Nat.lt_of_le_of_lt (List.length_filter_le _ _) (by (first | lia | omega))
      cases hf : w.made.filter fun t => srt w.ts t == q.sort with
      | nil => rw [hf] at hmem; cases hmem
      | cons c rest =>
        rw [hf] at hfit hle
        obtain ⟨hc, hcm⟩ := hfit c List.mem_cons_self
        obtain ⟨hc1, p, hp⟩ := X.made c hcm
        rw [srt_of hp] at hc
        rw [sto_len]
        refine o_some (getIdx_lst (xs := ivs (c :: rest)) (i := 0) (u := .int c) (by rw [sto_get]; show (w.post ++ [_])[w.post.length]? = _; simp) (by rw [ivs_len]; unfold lim; (first | lia | omega)) rfl) ?_
        refine es_nil ?_
        exact eq_ok (w := w.pushed _) X.wt (by show w.ts.length < 90; (first | lia | omega)) h1 hq hc1 hp hc (hQ _)
    · exact b_nil (h w' hw (by rw [hi]; exact List.mem_append_left _ Y.mem))
  · refine if_f (by simpa using e) ?_
    rw [if_neg e] at h
    exact h w ⟨X, Nat.le_refl _, Nat.le_refl _, rfl⟩ Y.mem
end
end Mine
namespace Mine
open PySem

theorem getIdx_last {σ : Sto} {n : Nat} {xs : List V} {u : V} (e : σ[n]? = some (.lst (xs ++ [u]))) (h : xs.length + 1 < lim) : getIdx σ (.ref n) (.int (-((1 : Nat) : Int))) = some u := by
  refine (bnd_of e).trans (show lget (xs ++ [u]) _ = some u from ?_)
  unfold lget
  rw [if_pos (by rw [List.length_append]; exact h), if_neg (by decide), if_pos (by rw [List.length_append]; show -((xs.length + 1 : Nat) : Int) ≤ _; (first | lia | omega))]
  rw [show (-((1 : Nat) : Int) + ((xs ++ [u]).length : Int)).toNat = xs.length by rw [List.length_append]; show (-((1 : Nat) : Int) + ((xs.length + 1 : Nat) : Int)).toNat = _; (first | lia | omega)]
  simp
section
variable {d : Nat} {w : W} {l : Locs} {Q : V → Sto → Prop}
theorem way0_ok {way t : Int} {r : List Stm} {K : Fl → Locs → Sto → Prop} (X : Ok w) (Y : Way l w way t) (hl : w.ts.length < 80) (hm : w.made.length < 80)
    (h : ∀ w', Grown w w' (if way = 0 then 1 else 0) → t ∈ w'.made → evB (Sp (d + 3)) r l w'.sto K) : evB (Sp (d + 3)) (wayB0 :: r) l w.sto K := by
  unfold wayB0
  obtain ⟨h1, q, hq⟩ := X.made t Y.mem
  have R := Rd.of w (by (first | lia | omega))
  refine b_if ?_
  refine t_and ?_
  refine t_cmp (e_loc Y.way (e_lit ?_))
  refine o_some (cmp_eq way 0) ?_
  by_cases e : way = 0
  · refine if_t (by simpa using e) ?_
    rw [if_pos e] at h
    refine t_cmp ?_
    refine e_meth (n := 3) Y.lap.bank rfl ?_
    refine es_cons (e_loc (v := .int t) Y.tt (es_nil ?_))
    refine rd_sort R hq ?_
    refine e_tup (es_cons (e_gl (es_cons (e_gl (es_nil ?_)))))
    refine o_some (a := decide (q.sort ∈ ([1, 2] : List Int))) rfl ?_
    by_cases hs : q.sort ∈ ([1, 2] : List Int)
    · refine if_t (decide_eq_true hs) ?_
      have hs : q.sort = 1 ∨ q.sort = 2 := by simpa using hs
      refine b_expr ?_
      refine append_made X (by (first | lia | omega)) Y.lap.made (fun Q hQ => ?_) fun w' i hw hi => ?_
      · refine e_meth (n := 3) Y.lap.bank rfl ?_
        refine es_cons (e_list (es_cons (e_loc Y.tt (es_cons (e_loc Y.tt (es_nil ?_))))))
        refine es_nil ?_
        rw [sto_len]
        exact plus_ok (w := w.pushed _) X.wt (by show w.ts.length < 90; (first | lia | omega)) (t := t) (by rw [sto_get]; show (w.post ++ [_])[w.post.length]? = _; simp; rfl) h1 hq hs (hQ _)
      · exact b_nil (h w' hw (by rw [hi]; exact List.mem_append_left _ Y.mem))
    · refine if_f (decide_eq_false hs) ?_
      exact h w ⟨X, Nat.le_succ _, Nat.le_succ _, rfl⟩ Y.mem
  · refine if_f (by simpa using e) ?_
    refine if_f rfl ?_
    rw [if_neg e] at h
    exact h w ⟨X, Nat.le_refl _, Nat.le_refl _, rfl⟩ Y.mem

/-- one lap -/
theorem lap_ok {K : Fl → Locs → Sto → Prop} (X : Ok w) (L : Lap l) (hl : w.ts.length < 70) (hm : w.made.length < 70) (hat : w.at' < 500)
    (h : ∀ w' l', Ok w' → Lap l' → w'.ts.length ≤ w.ts.length + 2 → w'.made.length ≤ w.made.length + 2 → w'.at' ≤ w.at' + 4 → K .next l' w'.sto) : evB (Sp (d + 4)) lapB l w.sto K := by
  unfold lapB
  have ha0 := X.at0
  refine b_asgT ?_
  refine e_idx (e_loc L.rows (e_call (es_cons (e_loc L.pan (es_cons (e_lit (es_nil ?_)))))))
  refine sift_ok ⟨by decide, by decide⟩ ⟨X.at0, by (first | lia | omega)⟩ X.cells fun j hj => ?_
  obtain ⟨ss, r, hr, hrv, hss2, hss⟩ := row_at (j := j) (by (first | lia | omega))
  refine o_some (getIdx_lst (n := 16) (xs := rowsV) (i := j) rfl (by decide) hrv) ?_
  refine o_some rfl (o_some rfl ?_)
  refine b_asg (e_list (es_nil ?_))
  have X1 : Ok { w with at' := w.at' + 1 } := X.same rfl rfl rfl rfl (by show 0 ≤ w.at' + 1; (first | lia | omega))
  rw [sto_push, sto_len]
  refine b_for ?_
  show evE _ _ _ _ _
  refine e_loc rfl ?_
  refine o_some (itemsOf_tup (by rw [ivs_len]; (first | lia | omega))) ?_
  refine args_loop (d := d + 3) (w := W.pushed { w with at' := w.at' + 1 } (.lst [])) (k := w.post.length) (ss := ss) (fv := some (.int (j : Int))) (by show w.ts.length < 90; (first | lia | omega)) (by show w.made.length < 90; (first | lia | omega)) hss (by show w.at' + 1 + (ss.length : Int) < 900; (first | lia | omega))
    ⟨X1.post, rfl, rfl, rfl, Int.le_refl _, ⟨L.pan, L.bank, L.made, L.rows⟩, rfl, rfl, [], [], rfl, (by show (w.post ++ [_])[w.post.length]? = _; simp; rfl), rfl, (fun x hx => by cases hx), (fun a ha => by cases ha)⟩ fun w2 l2 I => ?_
  show evB _ _ _ _ _
  obtain ⟨ss1, as, hsplit, hpost, hlen, hzip, hsub⟩ := I.done
  rw [List.append_nil] at hsplit
  subst hsplit
  have hts : w2.ts = w.ts := I.ts
  have hmd : w2.made = w.made := I.made
  have hat2 : w2.at' ≤ w.at' + 3 := by
    have := I.at'
    have e : (W.pushed { w with at' := w.at' + 1 } (.lst [])).at' = w.at' + 1 := rfl
    rw [e] at this
    simp only [List.length_nil] at this
    (first | lia | omega)
  have X2 := I.ok
  refine b_expr ?_
  refine append_made X2 (by rw [hmd]; (first | lia | omega)) I.lap.made (fun Q hQ => ?_) fun w3 i hw hi => ?_
  · refine e_meth (n := 3) I.lap.bank rfl ?_
    refine es_cons (e_loc I.fn (es_cons (e_loc I.args (es_nil ?_))))
    refine app_ok (d := d + 2) X2.wt (by rw [hts]; (first | lia | omega)) hr (as := as) (by rw [sto_get]; exact hpost) hlen (fun x hx => ?_) (fun a ha => ?_) (hQ w2.post)
    · have hx1 : x.1 ∈ as := (List.of_mem_zip hx).1
      obtain ⟨_, q, hq⟩ := X2.made x.1 (by rw [hmd]; exact hsub _ hx1)
      refine ⟨q, hq, ?_⟩
      have := hzip x hx
      have e : (W.pushed { w with at' := w.at' + 1 } (.lst [])).ts = w2.ts := hts.symm
      rw [e, srt_of hq] at this
      exact this
    · obtain ⟨h1, q, hq⟩ := X2.made a (by rw [hmd]; exact hsub _ ha)
      exact ⟨h1, hq.lt⟩
  have hw1 := hw.ts
  have hw2 := hw.made
  have hw3 := hw.at'
  rw [hts] at hw1
  rw [hmd] at hw2
  have X3 := hw.ok
  have hb0 := X3.at0
  refine b_asgT ?_
  refine e_tup (es_cons (e_call (es_cons (e_loc I.lap.pan (es_cons (e_lit (es_nil ?_)))))))
  refine sift_ok ⟨by decide, by decide⟩ ⟨X3.at0, by (first | lia | omega)⟩ X3.cells fun way hway => ?_
  refine es_cons (e_idx (e_loc I.lap.made (e_neg ?_)))
  refine o_some (getIdx_last (n := 24) (xs := ivs w2.made) (u := .int i) (by show some (AObj.lst (ivs w3.made)) = _; rw [hi]; unfold ivs; rw [List.map_append]; rfl) (by rw [ivs_len, hmd]; unfold lim; (first | lia | omega))) ?_
  refine es_nil ?_
  refine o_some rfl (o_some rfl ?_)
  have X4 : Ok { w3 with at' := w3.at' + 1 } := X3.same rfl rfl rfl rfl (by show 0 ≤ w3.at' + 1; (first | lia | omega))
  refine way0_ok (d := d + 1) (way := way) (t := i) X4 ⟨⟨I.lap.pan, I.lap.bank, I.lap.made, I.lap.rows⟩, rfl, rfl, by show i ∈ w3.made; rw [hi]; simp⟩ (by show w3.ts.length < 80; (first | lia | omega)) (by show w3.made.length < 80; (first | lia | omega)) fun w5 g5 m5 => ?_
  have q5 := g5.ts
  have r5 := g5.made
  have s5 := g5.at'
  have t5 : (W.mk w3.cells (w3.at' + 1) w3.ts w3.m w3.made w3.g w3.post).ts.length = w3.ts.length := rfl
  have u5 : (W.mk w3.cells (w3.at' + 1) w3.ts w3.m w3.made w3.g w3.post).made.length = w3.made.length := rfl
  have v5 : (W.mk w3.cells (w3.at' + 1) w3.ts w3.m w3.made w3.g w3.post).at' = w3.at' + 1 := rfl
  rw [t5] at q5; rw [u5] at r5; rw [v5] at s5
  refine way1_ok (d := d + 2) (way := way) (t := i) g5.ok ⟨⟨I.lap.pan, I.lap.bank, I.lap.made, I.lap.rows⟩, rfl, rfl, m5⟩ (by split at q5 <;> (first | lia | omega)) (by split at r5 <;> (first | lia | omega)) fun w6 g6 m6 => ?_
  have q6 := g6.ts
  have r6 := g6.made
  have s6 := g6.at'
  refine way2_ok (d := d + 2) (way := way) (t := i) g6.ok ⟨⟨I.lap.pan, I.lap.bank, I.lap.made, I.lap.rows⟩, rfl, rfl, m6⟩ (by split at q5 <;> split at q6 <;> (first | lia | omega)) (by split at r5 <;> split at r6 <;> (first | lia | omega)) fun w7 g7 m7 => ?_
  have q7 := g7.ts
  have r7 := g7.made
  have s7 := g7.at'
  refine b_nil ?_
  refine h w7 _ g7.ok ⟨I.lap.pan, I.lap.bank, I.lap.made, I.lap.rows⟩ ?_ ?_ ?_
  · split at q5 <;> split at q6 <;> split at q7 <;> (first | lia | omega)
  · split at r5 <;> split at r6 <;> split at r7 <;> (first | lia | omega)
  · (first | lia | omega)
end
end Mine
namespace Mine
open PySem

theorem ok0 {cs : List Int} (hc : cs.length < 64) : Ok (w0 cs) where
  wt := wt0
  cells := hc
  at0 := Int.le_refl _
  pre := ⟨[], rfl⟩
  made := fun t ht => by
    have : t = 3 ∨ t = 4 ∨ t = 5 ∨ t = 6 ∨ t = 7 := by simpa [w0] using ht
    rcases this with rfl | rfl | rfl | rfl | rfl <;> exact ⟨by decide, _, by decide, rfl⟩

theorem terms_ok {cs : List Int} (hc : cs.length < 64) {Q : V → Sto → Prop} (h : ∀ w, Ok w → w.ts.length ≤ 24 → w.made.length ≤ 21 → w.at' ≤ 40 → Q (.ref 24) w.sto) :
    Sp 7 .law_terms [.ref 2, .ref 3] ([.lst (ivs cs), .lst (ivs cs), panO 0] ++ bank0) Q := by
  refine sp_go rfl ?_
  show evB (Sp 6) B.law_terms l0 _ _
  rw [terms_start_eq]
  refine conj_of (fun p hp => ?_) ?_
  · rcases List.mem_append.mp hp with hp | hp
    · rw [(List.mem_replicate.mp hp).2]; trivial
    · rw [(List.mem_replicate.mp hp).2]
  rw [body_terms]
  refine b_for ?_
  show evE _ _ _ _ _
  refine e_bin (e_lit (e_call (es_cons (e_loc (v := .ref 2) rfl (es_cons (e_lit (es_nil ?_)))))))
  refine sift_ok (d := 5) (w := w0 cs) ⟨by decide, by decide⟩ ⟨Int.le_refl _, (by show (0 : Int) < 1000; decide)⟩ hc fun j hj => ?_
  refine o_some rfl ?_
  dsimp only
  have hj' : j < 6 := by (first | lia | omega)
  show (if 0 ≤ (3 : Int) + j ∧ (3 : Int) + j < 1000 then _ else False)
  rw [if_pos ⟨by (first | lia | omega), by (first | lia | omega)⟩]
  have hn : ((3 : Int) + j).toNat = 3 + j := by (first | lia | omega)
  rw [hn]
  refine for_inv (fun r l σ => ∃ w, σ = w.sto ∧ Ok w ∧ Lap l ∧ w.ts.length + 2 * r.length ≤ 24 ∧ w.made.length + 2 * r.length ≤ 21 ∧ w.at' + 4 * (r.length : Int) ≤ 40) (fun v r l σ K I hK => ?_) _ _ _ _ ⟨{ w0 cs with at' := 1 }, rfl, (ok0 hc).same rfl rfl rfl rfl (by show (0 : Int) ≤ 1; decide), ⟨rfl, rfl, rfl, rfl⟩, ?_, ?_, ?_⟩ (fun l' σ' I => ?_)
  · obtain ⟨w, rfl, X, L, h1, h2, h3⟩ := I
    rw [List.length_cons] at h1 h2 h3
    refine o_some rfl ?_
    refine lap_ok (d := 2) X ⟨L.pan, L.bank, L.made, L.rows⟩ (by (first | lia | omega)) (by (first | lia | omega)) (by (first | lia | omega)) fun w' l' X' L' a b c => ?_
    exact (hK _ _ trivial ⟨w', rfl, X', L', by (first | lia | omega), by (first | lia | omega), by (first | lia | omega)⟩).1
  · rw [List.length_map, List.length_range]
    show 8 + 2 * (3 + j) ≤ 24
    (first | lia | omega)
  · rw [List.length_map, List.length_range]
    show 5 + 2 * (3 + j) ≤ 21
    (first | lia | omega)
  · rw [List.length_map, List.length_range]
    show (0 : Int) + 1 + 4 * ((3 + j : Nat) : Int) ≤ 40
    (first | lia | omega)
  · obtain ⟨w, rfl, X, L, h1, h2, h3⟩ := I
    refine b_ret (e_loc L.made ?_)
    exact h w X h1 h2 (by simpa using h3)
end Mine
namespace Mine
open PySem

/-- the store has only grown -/
noncomputable def Ext (σ σ' : Sto) : Prop := ∀ (n : Nat) (o : AObj), σ[n]? = some o → σ'[n]? = some o
theorem Ext.refl (σ : Sto) : Ext σ σ := fun _ _ h => h
theorem Ext.trans {a b c : Sto} (x : Ext a b) (y : Ext b c) : Ext a c := fun n o h => y n o (x n o h)
theorem Ext.push (σ : Sto) (o : AObj) : Ext σ (σ ++ [o]) := fun n x h => by
  rw [List.getElem?_append_left (List.getElem?_eq_some_iff.mp h).1]; exact h
theorem Ext.set {σ σ' : Sto} (x : Ext σ σ') {n : Nat} (h : σ.length ≤ n) (o : AObj) : Ext σ (σ'.set n o) := fun m p e => by
  rw [List.getElem?_set_ne (by have := (List.getElem?_eq_some_iff.mp e).1; (first | lia | omega))]; exact x m p e
theorem Ext.len {σ σ' : Sto} (x : Ext σ σ') : σ.length ≤ σ'.length := by
  rcases Nat.lt_or_ge σ'.length σ.length with h | h
  · have := x σ'.length _ (List.getElem?_eq_getElem h)
    have := (List.getElem?_eq_some_iff.mp this).1
    (first | lia | omega)
  · exact h
theorem push_last (σ : Sto) (o : AObj) : (σ ++ [o])[σ.length]? = some o := by simp
theorem Ext.lst {σ σ' : Sto} (x : Ext σ σ') {n : Nat} {xs : List V} (h : σ.lst n = some xs) : σ'.lst n = some xs := lst_of (x n _ (lst_at h))
theorem mapM_mono {f g : V → Option PyData} (hh : ∀ v d, f v = some d → g v = some d) : ∀ (vs : List V) (ds : List PyData), vs.mapM f = some ds → vs.mapM g = some ds
  | [], _, h => h
  | v :: r, ds, h => by
    rw [List.mapM_cons] at h ⊢
    obtain ⟨a, ha, h⟩ := bnd h
    obtain ⟨b, hb, h⟩ := bnd h
    exact (bnd_of (hh _ _ ha)).trans ((bnd_of (mapM_mono hh r b hb)).trans h)
theorem rd_ext {σ σ' : Sto} (x : Ext σ σ') : ∀ (k : Nat) (v : V) (d : PyData), rd k σ v = some d → rd k σ' v = some d
  | 0, v, d, h => by cases v <;> exact h
  | k + 1, v, d, h => by
    cases v with
    | ref n =>
      obtain ⟨xs, e1, h⟩ := bnd h
      exact mapK (P := fun d => rd (k + 1) σ' (.ref n) = some d) h fun ds e2 => (bnd_of (x.lst e1)).trans (map_of (mapM_mono (rd_ext x k) xs ds e2))
    | tup vs => exact mapK (P := fun d => rd (k + 1) σ' (.tup vs) = some d) h fun ds e2 => map_of (mapM_mono (rd_ext x k) vs ds e2)
    | _ => exact h
noncomputable def dints (l : List Int) : List PyData := l.map .int
theorem mapM_ivs {σ : Sto} (k : Nat) : ∀ l : List Int, (ivs l).mapM (rd k σ) = some (dints l)
  | [] => rfl
  | a :: r => by
    show (V.int a :: ivs r).mapM (rd k σ) = _
    simp only [List.mapM_cons]
    rw [show rd k σ (.int a) = some (.int a) by cases k <;> rfl, mapM_ivs k r]; rfl
theorem rd_list {σ : Sto} {k n : Nat} {l : List Int} (e : σ[n]? = some (.lst (ivs l))) : rd (k + 1) σ (.ref n) = some (.list (dints l)) := (bnd_of (lst_of e)).trans (map_of (mapM_ivs k l))
/-- what told and due give -/
noncomputable def trip (a b : List Int) (c : List (List Int)) : PyData := .tuple [.list (dints a), .list (dints b), .list (c.map fun l => .list (dints l))]
theorem rd_trip {σ : Sto} {a b : List Int} {c : List (List Int)} {i j k : Nat} {rs : List Nat} (h1 : σ[i]? = some (.lst (ivs a))) (h2 : σ[j]? = some (.lst (ivs b))) (h3 : σ[k]? = some (.lst (rs.map .ref)))
    (h4 : ∀ m (hm : m < c.length), ∃ r, rs[m]? = some r ∧ σ[r]? = some (.lst (ivs c[m]))) (h5 : rs.length = c.length) : rd 4 σ (.tup [.ref i, .ref j, .ref k]) = some (trip a b c) := by
  have key : ∀ (rs : List Nat) (c : List (List Int)), rs.length = c.length → (∀ m (hm : m < c.length), ∃ r, rs[m]? = some r ∧ σ[r]? = some (.lst (ivs c[m]))) → (rs.map V.ref).mapM (rd 2 σ) = some (c.map fun l => .list (dints l)) := by
    intro rs
    induction rs with
    | nil => intro c h _; rw [List.length_eq_zero_iff.mp h.symm]; rfl
    | cons r rest ih =>
      intro c h h4
      cases c with
      | nil => cases h
      | cons x c =>
        obtain ⟨r', e1, e2⟩ := h4 0 (Nat.succ_pos _)
        cases e1
        simp only [List.map_cons, List.mapM_cons]
        rw [rd_list (k := 1) e2, ih c (by simpa using h) fun m hm => by
            obtain ⟨r, a, b⟩ := h4 (m + 1) (by simpa using hm)
            exact ⟨r, a, b⟩]
        rfl
  have r3 : rd 3 σ (.ref k) = some (.list (c.map fun l => .list (dints l))) := (bnd_of (lst_of h3)).trans (map_of (key rs c h5 h4))
  have r1 : rd 3 σ (.ref i) = some (.list (dints a)) := rd_list (k := 2) h1
  have r2 : rd 3 σ (.ref j) = some (.list (dints b)) := rd_list (k := 2) h2
  show Option.map PyData.tuple (List.mapM (rd 3 σ) [.ref i, .ref j, .ref k]) = _
  simp only [List.mapM_cons, List.mapM_nil]
  rw [r1, r2, r3]
  rfl
theorem eqvAll_ints : ∀ l : List Int, PyData.eqvAll (dints l) (dints l) = true
  | [] => rfl
  | a :: r => by
    show (PyData.eqv (.int a) (.int a) && PyData.eqvAll (dints r) (dints r)) = true
    rw [eqvAll_ints r]
    simp [PyData.eqv]
theorem eqv_trip (a b : List Int) (c : List (List Int)) : PyData.eqv (trip a b c) (trip a b c) = true := by
  have h : ∀ c : List (List Int), PyData.eqvAll (c.map fun l => .list (dints l)) (c.map fun l => .list (dints l)) = true := by
    intro c
    induction c with
    | nil => rfl
    | cons x r ih =>
      show (PyData.eqv (.list (dints x)) (.list (dints x)) && PyData.eqvAll _ _) = true
      rw [ih, show PyData.eqv (.list (dints x)) (.list (dints x)) = true by simp [PyData.eqv, eqvAll_ints]]; rfl
  simp [trip, PyData.eqv, PyData.eqvAll, eqvAll_ints, h]
theorem deq_trip {σ : Sto} {u v : V} {a b : List Int} {c : List (List Int)} (h1 : rd 4 σ u = some (trip a b c)) (h2 : rd 4 σ v = some (trip a b c)) : deq σ u v = some true := (deq_rd h1 h2).trans (congrArg some (eqv_trip a b c))
end Mine
namespace Mine
open PySem

/-- every term in order -/
structure Wr (ts : List TK) : Prop where
  args : ∀ t q, Tm ts t q → ∀ a ∈ q.args, 1 ≤ a ∧ a < t
  alen : ∀ t q, Tm ts t q → q.args.length ≤ 3
  sort : ∀ t q, Tm ts t q → 0 ≤ q.sort ∧ q.sort < 5
theorem Wr.arg {ts : List TK} (X : Wr ts) {t a : Int} {q : TK} (h : Tm ts t q) (ha : a ∈ q.args) : ∃ p, Tm ts a p := by
  have := X.args t q h a ha
  have := h.lt
  exact Tm.of (by (first | lia | omega)) (by (first | lia | omega))

noncomputable def tm (ts : List TK) (t : Int) : TK := (ts[t.toNat]?).getD ⟨Str.ofString "", [], 0, 0⟩
theorem tm_of {ts : List TK} {t : Int} {q : TK} (h : Tm ts t q) : tm ts t = q := by unfold tm; rw [h.2]; rfl
noncomputable def isCall (ts : List TK) (t : Int) : Bool := decide ((tm ts t).op = Str.ofString "app") && !(tm ts t).args.isEmpty
noncomputable def isNum (ts : List TK) (t : Int) : Bool := decide ((tm ts t).sort ∈ ([1, 2] : List Int)) || decide (wid (tm ts t).sort > 0)
noncomputable def callsOf (ts : List TK) (L : List Int) : List Int := L.filter (isCall ts)
noncomputable def turnOf (ts : List TK) (t : Int) : List Int := ((tm ts t).args ++ [t]).filter (isNum ts)
noncomputable def sharedOf (ts : List TK) (L : List Int) : List Int := (callsOf ts L).flatMap (turnOf ts)
noncomputable def addNew (hs : List Int) (h : Int) : List Int := if h ∈ hs then hs else hs ++ [h]
noncomputable def headsOf (ts : List TK) (L : List Int) : List Int := ((callsOf ts L).map fun t => (tm ts t).data).foldl addNew []
noncomputable def groupOf (ts : List TK) (L : List Int) (h : Int) : List Int := (callsOf ts L).filter fun t => (tm ts t).data == h
noncomputable def dueOf (ts : List TK) (L : List Int) : PyData := trip (isort (dedup (sharedOf ts L))) (headsOf ts L) ((headsOf ts L).map (groupOf ts L))

theorem Rd.ext {σ σ' : Sto} {ts : List TK} (R : Rd σ ts) (x : Ext σ σ') : Rd σ' ts :=
  ⟨x _ _ R.bank, x _ _ R.wid, x _ _ R.ops, x _ _ R.args, x _ _ R.sorts, x _ _ R.datas, R.len⟩

section
variable {d : Nat} {σ : Sto} {ts : List TK} {t : Int} {q : TK} {Q : V → Sto → Prop}
theorem is_num_ok (R : Rd σ ts) (X : Wr ts) (h : Tm ts t q) (k : Q (.bool (isNum ts t)) σ) : Sp (d + 2) .law_is_number [.ref 3, .int t] σ Q := by
  refine sp_go rfl ?_
  unfold Fn.body B.law_is_number
  dsimp only
  refine b_ret (e_or (e_cmp ?_))
  refine e_meth rfl (Rd.cls ‹_›) (es_cons (e_loc rfl (es_nil ?_)))
  refine rd_sort R h ?_
  refine e_tup (es_cons (e_gl (es_cons (e_gl (es_nil ?_)))))
  refine o_some (a := decide (q.sort ∈ ([1, 2] : List Int))) rfl ?_
  unfold isNum at k
  rw [tm_of h] at k
  by_cases hs : q.sort ∈ ([1, 2] : List Int)
  · rw [decide_eq_true hs, Bool.true_or] at k
    rw [decide_eq_true hs]
    exact k
  · rw [decide_eq_false hs, Bool.false_or] at k
    rw [decide_eq_false hs]
    show evE _ _ _ _ _
    refine e_cmp (e_meth rfl (Rd.cls ‹_›) (es_cons (e_loc rfl (es_nil ?_))))
    refine rd_width R h (X.sort _ _ h) ?_
    refine e_lit ?_
    refine o_some (a := decide (wid q.sort > 0)) rfl ?_
    exact k
theorem amem_lst {n : Nat} {l : List Int} {i : Int} (e : σ[n]? = some (.lst (ivs l))) : amem σ (.int i) (.ref n) = some (decide (i ∈ l)) := (bnd_of e).trans (map_of (asInts_ivs l))
theorem evSset {n : Nat} {l : List Int} (e : σ[n]? = some (.lst (ivs l))) (h : l.length < 64) : evSortedSet σ (.ref n) = some (.ref σ.length, σ ++ [.lst (ivs (isort (dedup l)))]) :=
  (bnd_of (show (σ.lst n).bind asInts = some l from (bnd_of (lst_of e)).trans (asInts_ivs l))).trans (gd_of h)
theorem deq_args {l : List Int} : deq σ (.tup (ivs l)) (.tup []) = some l.isEmpty := by
  have : rd 4 σ (.tup (ivs l)) = some (.tuple (dints l)) := by
    show Option.map PyData.tuple (List.mapM (rd 3 σ) (ivs l)) = _
    rw [mapM_ivs]; rfl
  rw [deq_rd this (show rd 4 σ (.tup []) = some (.tuple []) from rfl)]
  cases l <;> simp [PyData.eqv, PyData.eqvAll, dints]

theorem flatMap_filter (f : Int → Bool) : ∀ l : List Int, (ivs l).flatMap (fun v => match v with
    | .int t => if f t then [V.int t] else []
    | _ => []) = ivs (l.filter f)
  | [] => rfl
  | x :: r => by
    show (if f x then [V.int x] else []) ++ (ivs r).flatMap _ = _
    rw [flatMap_filter f r, List.filter_cons]
    split <;> rfl
/-- a comprehension that only sifts ints -/
theorem sift_comp {S : Spec} {elt : E} {x : Nm} {ifs : List E} {l : Locs} {g : Option (Nat × List V)} (hg : stays g σ) (f : Int → Bool) {L : List Int} {k : List V → Sto → Prop} (hx : elt = .loc x)
    (hf : ∀ t ∈ L, ∀ K : Bool → Sto → Prop, K (f t) σ → evIfs S ifs (upd l x (.int t)) σ K) (h : k (ivs (L.filter f)) σ) :
    goComp (fun v σ k => evIfs S ifs (upd l x v) σ fun b σ => if b then evE S elt (upd l x v) σ fun u σ => k [u] σ else k [] σ) g (ivs L) [] σ k := by
  subst hx
  refine comp_pure (g := g) (σ := σ) (fun v => match v with
    | .int t => if f t then [.int t] else []
    | _ => []) hg (ivs L) [] (fun v hv k' hk => ?_) (by rw [List.nil_append, flatMap_filter]; exact h)
  obtain ⟨t, ht, rfl⟩ := List.mem_map.mp hv
  refine hf t ht _ ?_
  dsimp only at hk
  cases hb : f t with
  | true =>
    rw [hb] at hk
    refine if_t rfl ?_
    exact e_loc (v := .int t) (by show (if x = x then _ else _) = _; rw [if_pos rfl]) hk
  | false =>
    rw [hb] at hk
    exact if_f rfl hk

noncomputable def callsE : E := .comp (.loc Nm.n_t) Nm.n_t (.loc Nm.n_entered) [(.and (.cmp Cop.eq (.meth (.loc Nm.n_bank) Fn.bk_op [(.loc Nm.n_t)]) (.lit (.str (PySem.Str.ofString "app")))) (.cmp Cop.ne (.meth (.loc Nm.n_bank) Fn.bk_args [(.loc Nm.n_t)]) (.tup [])))]
theorem calls_ok {l : Locs} {n : Nat} {L : List Int} (R : Rd σ ts) (hb : l .n_bank = some (.ref 3)) (he : l .n_entered = some (.ref n)) (e : σ[n]? = some (.lst (ivs L))) (hl : L.length < 100) (hL : ∀ t ∈ L, ∃ q, Tm ts t q)
    (h : Q (.ref σ.length) (σ ++ [.lst (ivs (callsOf ts L))])) : evE (Sp (d + 1)) callsE l σ Q := by
  unfold callsE
  refine e_comp (e_loc he ?_)
  refine o_some (itemsOf_lst e (by rw [ivs_len]; exact hl)) ?_
  refine sift_comp (g := some (n, ivs L)) (lst_of e) (isCall ts) rfl (fun t ht K hK => ?_) h
  obtain ⟨q, hq⟩ := hL t ht
  unfold isCall at hK
  rw [tm_of hq] at hK
  refine ifs_one ?_
  refine t_and ?_
  refine t_cmp ?_
  refine e_meth (n := 3) hb R.cls (es_cons (e_loc (v := .int t) rfl (es_nil ?_)))
  refine rd_op R hq (e_lit ?_)
  refine o_some (a := decide (q.op = Str.ofString "app")) rfl ?_
  by_cases ho : q.op = Str.ofString "app"
  · rw [decide_eq_true ho, Bool.true_and] at hK
    refine if_t (decide_eq_true ho) ?_
    refine t_cmp ?_
    refine e_meth (n := 3) hb R.cls (es_cons (e_loc (v := .int t) rfl (es_nil ?_)))
    refine rd_args R hq (e_tup (es_nil ?_))
    refine o_some (a := !q.args.isEmpty) (by unfold evCmp; dsimp only; rw [deq_args]; rfl) ?_
    cases hz : (!q.args.isEmpty) with
    | true => rw [hz] at hK; exact if_t rfl hK
    | false => rw [hz] at hK; exact if_f rfl hK
  · rw [decide_eq_false ho, Bool.false_and] at hK
    refine if_f (decide_eq_false ho) ?_
    exact if_f rfl hK
end
end Mine
namespace Mine
open PySem

theorem comp_inv {f : V → Sto → (List V → Sto → Prop) → Prop} {g : Option (Nat × List V)} (I : List V → List V → Sto → Prop)
    (step : ∀ v r acc σ (K : List V → Sto → Prop), I (v :: r) acc σ → (∀ ws σ', stays g σ' → I r (acc ++ ws) σ' → K ws σ') → f v σ K) :
    ∀ (xs acc : List V) (σ : Sto) (k : List V → Sto → Prop), I xs acc σ → (∀ acc σ', I [] acc σ' → k acc σ') → goComp f g xs acc σ k
  | [], acc, σ, _, h, hk => hk acc σ h
  | v :: r, acc, σ, k, h, hk => step v r acc σ _ h fun _ σ' a b => ⟨a, comp_inv I step r _ σ' k b hk⟩
theorem e_comp2 {S : Spec} {l : Locs} {σ : Sto} {Q : V → Sto → Prop} {elt it it2 : E} {x y : Nm} {ifs : List E} (h : evE S it l σ fun v σ => opt (itemsOf σ v) fun p =>
      goComp (fun v σ k => evE S it2 (dropL (upd l x v) y) σ fun v2 σ => opt (itemsOf σ v2) fun p2 =>
          goComp (fun u σ k => evIfs S ifs (upd (upd l x v) y u) σ fun b σ => if b then evE S elt (upd (upd l x v) y u) σ fun u σ => k [u] σ else k [] σ) p2.2 p2.1 [] σ k)
        p.2 p.1 [] σ fun ws σ => Q (.ref σ.length) (σ ++ [.lst ws])) : evE S (.comp2 elt x it y it2 ifs) l σ Q := h
theorem ivs_app (a b : List Int) : ivs (a ++ b) = ivs a ++ ivs b := List.map_append ..

section
variable {d : Nat} {σ : Sto} {ts : List TK} {t : Int} {q : TK} {Q : V → Sto → Prop}
noncomputable def sharedE : E := .comp2 (.loc Nm.n_one) Nm.n_t (.loc Nm.n_calls) Nm.n_one (.bin Bop.add (.bi Bi.list [(.meth (.loc Nm.n_bank) Fn.bk_args [(.loc Nm.n_t)])]) (.list [(.loc Nm.n_t)])) [(.call Fn.law_is_number [(.loc Nm.n_bank), (.loc Nm.n_one)])]
theorem shared_ok {l : Locs} {n : Nat} {C : List Int} (R : Rd σ ts) (X : Wr ts) (hb : l .n_bank = some (.ref 3)) (he : l .n_calls = some (.ref n)) (e : σ[n]? = some (.lst (ivs C))) (hl : C.length < 100) (hC : ∀ t ∈ C, ∃ q, Tm ts t q)
    (h : ∀ σ', Ext σ σ' → Q (.ref σ'.length) (σ' ++ [.lst (ivs (C.flatMap (turnOf ts)))])) : evE (Sp (d + 2)) sharedE l σ Q := by
  unfold sharedE
  refine e_comp2 (e_loc he ?_)
  refine o_some (itemsOf_lst e (by rw [ivs_len]; exact hl)) ?_
  refine comp_inv (fun r acc σ' => ∃ C1 C2, C = C1 ++ C2 ∧ r = ivs C2 ∧ acc = ivs (C1.flatMap (turnOf ts)) ∧ Ext σ σ') (fun v r acc σ' K I hK => ?_) _ _ _ _ ⟨[], C, rfl, rfl, rfl, Ext.refl σ⟩ (fun acc σ' I => ?_)
  · obtain ⟨C1, C2, hs, hr, rfl, E⟩ := I
    cases C2 with
    | nil => cases hr
    | cons t C2 =>
      obtain ⟨rfl, rfl⟩ : v = .int t ∧ r = ivs C2 := List.cons.inj hr
      obtain ⟨q, hq⟩ := hC t (by rw [hs]; simp)
      have R' := R.ext E
      have halen := X.alen t q hq
      refine e_bin (e_bi (es_cons ?_))
      refine e_meth (n := 3) hb R'.cls (es_cons (e_loc (v := .int t) rfl (es_nil ?_)))
      refine rd_args R' hq (es_nil ?_)
      refine o_some (evBi_listT (by rw [ivs_len]; unfold lim; (first | lia | omega))) ?_
      refine e_list (es_cons (e_loc (v := .int t) rfl (es_nil ?_)))
      dsimp only
      have E1 := Ext.push σ' (.lst (ivs q.args))
      have E2 := Ext.push (σ' ++ [.lst (ivs q.args)]) (.lst [.int t])
      refine o_some (evBin_app (xs := ivs q.args) (ys := [.int t]) (lst_of (E2 _ _ (push_last _ _))) (lst_of (push_last _ _)) (by rw [ivs_len]; unfold lim; (first | lia | omega)) (by show 1 < lim; decide)) ?_
      dsimp only
      have E3 := Ext.push (σ' ++ [.lst (ivs q.args)] ++ [.lst [.int t]]) (.lst (ivs q.args ++ [.int t]))
      have hn := push_last (σ' ++ [.lst (ivs q.args)] ++ [.lst [.int t]]) (.lst (ivs q.args ++ [.int t]))
      generalize hσ : σ' ++ [.lst (ivs q.args)] ++ [.lst [.int t]] ++ [.lst (ivs q.args ++ [.int t])] = σ3 at E3 hn ⊢
      have E4 : Ext σ σ3 := E.trans (E1.trans (E2.trans E3))
      rw [show ivs q.args ++ [.int t] = ivs (q.args ++ [t]) from (ivs_app q.args [t]).symm] at hn
      refine o_some (itemsOf_lst hn (by rw [ivs_len, List.length_append]; show q.args.length + 1 < 100; (first | lia | omega))) ?_
      refine sift_comp (g := some (_, ivs (q.args ++ [t]))) (lst_of hn) (isNum ts) rfl (fun u hu K2 hK2 => ?_) ?_
      · obtain ⟨p, hp⟩ : ∃ p, Tm ts u p := by
          rcases List.mem_append.mp hu with hu | hu
          · exact X.arg hq hu
          · rw [List.mem_singleton.mp hu]; exact ⟨q, hq⟩
        refine ifs_one (t_call (es_cons (e_loc hb (es_cons (e_loc (v := .int u) rfl (es_nil ?_))))))
        refine is_num_ok (R.ext E4) X hp ?_
        refine o_some rfl ?_
        cases hz : isNum ts u with
        | true => rw [hz] at hK2; exact if_t rfl hK2
        | false => rw [hz] at hK2; exact if_f rfl hK2
      · refine hK _ _ (lst_of (E4 _ _ e)) ⟨C1 ++ [t], C2, by rw [hs, List.append_assoc]; rfl, rfl, ?_, E4⟩
        rw [List.flatMap_append, ivs_app]
        show _ = _ ++ ivs ([t].flatMap (turnOf ts))
        rw [List.flatMap_cons, List.flatMap_nil, List.append_nil]
        unfold turnOf
        rw [tm_of hq]
  · obtain ⟨C1, C2, hs, hr, rfl, E⟩ := I
    cases C2 with
    | cons _ _ => cases hr
    | nil =>
      rw [List.append_nil] at hs
      subst hs
      exact h σ' E

noncomputable def headsB : List Stm := [.ite (.cmp Cop.notin (.meth (.loc Nm.n_bank) Fn.bk_data [(.loc Nm.n_t)]) (.loc Nm.n_heads)) [
      .expr (.lm Lm.append (.loc Nm.n_heads) [(.meth (.loc Nm.n_bank) Fn.bk_data [(.loc Nm.n_t)])])] []]
theorem heads_ok {l : Locs} {n m : Nat} {C : List Int} {K : Fl → Locs → Sto → Prop} {σ0 : Sto} (R : Rd σ0 ts) (E0 : Ext σ0 σ) (hm : σ0.length ≤ m) (hb : l .n_bank = some (.ref 3)) (hh : l .n_heads = some (.ref m)) (e : σ0[n]? = some (.lst (ivs C))) (hl : C.length < 100)
    (e2 : σ[m]? = some (.lst [])) (hC : ∀ t ∈ C, ∃ q, Tm ts t q)
    (h : ∀ l' σ', (∀ x, x ≠ .n_t → l' x = l x) → Ext σ0 σ' → σ'[m]? = some (.lst (ivs ((C.map fun t => (tm ts t).data).foldl addNew []))) → K .next l' σ') :
    goFor (fun v l σ k => opt (bindT (.nm .n_t) v l) fun l => evB (Sp (d + 1)) headsB l σ k) (some (n, ivs C)) (ivs C) l σ K := by
  refine for_inv (fun r l' σ' => ∃ C1 C2, C = C1 ++ C2 ∧ r = ivs C2 ∧ (∀ x, x ≠ .n_t → l' x = l x) ∧ Ext σ0 σ' ∧ σ'[m]? = some (.lst (ivs ((C1.map fun t => (tm ts t).data).foldl addNew []))) ∧ ((C1.map fun t => (tm ts t).data).foldl addNew []).length ≤ C1.length) (fun v r l' σ' K I hK => ?_) _ _ _ _ ⟨[], C, rfl, rfl, fun _ _ => rfl, E0, e2, Nat.le_refl _⟩ (fun l' σ' I => ?_)
  · obtain ⟨C1, C2, hs, hr, hl', E, hm', hlen⟩ := I
    cases C2 with
    | nil => cases hr
    | cons t C2 =>
      obtain ⟨rfl, rfl⟩ : v = .int t ∧ r = ivs C2 := List.cons.inj hr
      obtain ⟨q, hq⟩ := hC t (by rw [hs]; simp)
      have hC1 : C1.length < 100 := by
        have : C.length = C1.length + (C2.length + 1) := by rw [hs, List.length_append]; rfl
        (first | lia | omega)
      refine o_some rfl ?_
      unfold headsB
      refine b_if ?_
      have hbk : upd l' .n_t (.int t) .n_bank = some (.ref 3) := (hl' .n_bank (by decide)).trans hb
      have hhd : upd l' .n_t (.int t) .n_heads = some (.ref m) := (hl' .n_heads (by decide)).trans hh
      refine t_cmp ?_
      refine e_meth (n := 3) hbk (R.ext E).cls (es_cons (e_loc (v := .int t) rfl (es_nil ?_)))
      refine rd_data (R.ext E) hq (e_loc hhd ?_)
      refine o_some (a := !decide (q.data ∈ (C1.map fun t => (tm ts t).data).foldl addNew [])) (by unfold evCmp; dsimp only; rw [amem_lst hm']; rfl) ?_
      have hfold : ((C1 ++ [t]).map fun t => (tm ts t).data).foldl addNew [] = addNew ((C1.map fun t => (tm ts t).data).foldl addNew []) q.data := by
        rw [List.map_append, List.foldl_append]
        show addNew _ (tm ts t).data = _
        rw [tm_of hq]
      have hx : ∀ x, x ≠ .n_t → upd l' .n_t (.int t) x = l x := fun x hx => by
        show (if x = Nm.n_t then _ else l' x) = _
        rw [if_neg hx]; exact hl' x hx
      generalize (C1.map fun t => (tm ts t).data).foldl addNew [] = hs0 at hm' hlen hfold ⊢
      by_cases hin : q.data ∈ hs0
      · refine if_f (by rw [decide_eq_true hin]; rfl) ?_
        refine b_nil ?_
        refine (hK _ _ (lst_of (E _ _ e)) ⟨C1 ++ [t], C2, by rw [hs, List.append_assoc]; rfl, rfl, hx, E, ?_, ?_⟩).1
        · rw [hfold]; unfold addNew; rw [if_pos hin]; exact hm'
        · rw [hfold]; unfold addNew; rw [if_pos hin, List.length_append]; (first | lia | omega)
      · refine if_t (by rw [decide_eq_false hin]; rfl) ?_
        refine b_expr (e_lm (e_loc hhd ?_))
        refine o_if (lmOk_lst (xs := ivs hs0) (by intro z; cases z) hm') ?_
        refine es_cons ?_
        refine e_meth (n := 3) hbk (R.ext E).cls (es_cons (e_loc (v := .int t) rfl (es_nil ?_)))
        refine rd_data (R.ext E) hq (es_nil ?_)
        refine o_some (evLm_append hm' (by rw [ivs_len]; unfold lim; (first | lia | omega))) ?_
        dsimp only
        refine b_nil ?_
        have E' : Ext σ0 (σ'.set m (.lst (ivs hs0 ++ [.int q.data]))) := E.set hm _
        refine (hK _ _ (lst_of (E' _ _ e)) ⟨C1 ++ [t], C2, by rw [hs, List.append_assoc]; rfl, rfl, hx, E', ?_, ?_⟩).1
        · rw [hfold]; unfold addNew; rw [if_neg hin, ivs_app, List.getElem?_set_self (List.getElem?_eq_some_iff.mp hm').1]; rfl
        · rw [hfold]; unfold addNew; rw [if_neg hin, List.length_append, List.length_append]
          show hs0.length + 1 ≤ C1.length + 1
          (first | lia | omega)
  · obtain ⟨C1, C2, hs, hr, hl', E, hm', hlen⟩ := I
    cases C2 with
    | cons _ _ => cases hr
    | nil =>
      rw [List.append_nil] at hs
      subst hs
      exact h l' σ' hl' E hm'
end
end Mine
namespace Mine
open PySem

section
variable {d : Nat} {σ : Sto} {ts : List TK} {t : Int} {q : TK} {Q : V → Sto → Prop}
noncomputable def groupE : E := .comp (.loc Nm.n_t) Nm.n_t (.loc Nm.n_calls) [(.cmp Cop.eq (.meth (.loc Nm.n_bank) Fn.bk_data [(.loc Nm.n_t)]) (.loc Nm.n_head))]
theorem group_ok {l : Locs} {n : Nat} {C : List Int} {h0 : Int} (R : Rd σ ts) (hb : l .n_bank = some (.ref 3)) (he : l .n_calls = some (.ref n)) (hh : l .n_head = some (.int h0)) (e : σ[n]? = some (.lst (ivs C))) (hl : C.length < 100) (hC : ∀ t ∈ C, ∃ q, Tm ts t q)
    (h : Q (.ref σ.length) (σ ++ [.lst (ivs (C.filter fun t => (tm ts t).data == h0))])) : evE (Sp (d + 1)) groupE l σ Q := by
  unfold groupE
  refine e_comp (e_loc he ?_)
  refine o_some (itemsOf_lst e (by rw [ivs_len]; exact hl)) ?_
  refine sift_comp (g := some (n, ivs C)) (lst_of e) (fun t => (tm ts t).data == h0) rfl (fun t ht K hK => ?_) h
  obtain ⟨q, hq⟩ := hC t ht
  rw [tm_of hq] at hK
  refine ifs_one ?_
  refine t_cmp ?_
  refine e_meth (n := 3) hb R.cls (es_cons (e_loc (v := .int t) rfl (es_nil ?_)))
  refine rd_data R hq (e_loc hh ?_)
  refine o_some (cmp_eq _ _) ?_
  cases hz : (q.data == h0) with
  | true => rw [hz] at hK; exact if_t rfl hK
  | false => rw [hz] at hK; exact if_f rfl hK

theorem groups_ok {l : Locs} {n m : Nat} {C H : List Int} (R : Rd σ ts) (hb : l .n_bank = some (.ref 3)) (he : l .n_calls = some (.ref n)) (hh : l .n_heads = some (.ref m)) (e : σ[n]? = some (.lst (ivs C))) (e2 : σ[m]? = some (.lst (ivs H))) (hl : C.length < 100) (hl2 : H.length < 100) (hC : ∀ t ∈ C, ∃ q, Tm ts t q)
    (h : ∀ (σ' : Sto) (rs : List Nat), Ext σ σ' → rs.length = H.length → (∀ i (hi : i < H.length), ∃ r, rs[i]? = some r ∧ σ'[r]? = some (AObj.lst (ivs (C.filter fun t => (tm ts t).data == H[i])))) → Q (.ref σ'.length) (σ' ++ [.lst (rs.map .ref)])) :
    evE (Sp (d + 1)) (.comp groupE Nm.n_head (.loc Nm.n_heads) []) l σ Q := by
  refine e_comp (e_loc hh ?_)
  refine o_some (itemsOf_lst e2 (by rw [ivs_len]; exact hl2)) ?_
  refine comp_inv (fun r acc σ' => ∃ (H1 H2 : List Int) (rs : List Nat), H = H1 ++ H2 ∧ r = ivs H2 ∧ acc = rs.map .ref ∧ Ext σ σ' ∧ rs.length = H1.length ∧ (∀ i (hi : i < H1.length), ∃ r, rs[i]? = some r ∧ σ'[r]? = some (.lst (ivs (C.filter fun t => (tm ts t).data == H1[i]))))) (fun v r acc σ' K I hK => ?_) _ _ _ _ ⟨[], H, [], rfl, rfl, rfl, Ext.refl σ, rfl, fun i hi => absurd hi (Nat.not_lt_zero _)⟩ (fun acc σ' I => ?_)
  · obtain ⟨H1, H2, rs, hs, hr, rfl, E, hlen, hrs⟩ := I
    cases H2 with
    | nil => cases hr
    | cons h0 H2 =>
      obtain ⟨rfl, rfl⟩ : v = .int h0 ∧ r = ivs H2 := List.cons.inj hr
      refine ifs_nil ?_
      refine if_t rfl ?_
      refine group_ok (h0 := h0) (R.ext E) hb he rfl (E _ _ e) hl hC ?_
      have E1 := Ext.push σ' (.lst (ivs (C.filter fun t => (tm ts t).data == h0)))
      refine hK _ _ (lst_of ((E.trans E1) _ _ e2)) ⟨H1 ++ [h0], H2, rs ++ [σ'.length], by rw [hs, List.append_assoc]; rfl, rfl, by rw [List.map_append]; rfl, E.trans E1, by rw [List.length_append, List.length_append, hlen]; rfl, fun i hi => ?_⟩
      rcases Nat.lt_or_ge i H1.length with hlt | hge
      · obtain ⟨r, a, b⟩ := hrs i hlt
        refine ⟨r, by rw [List.getElem?_append_left (by (first | lia | omega))]; exact a, ?_⟩
        rw [List.getElem_append_left hlt]
        exact E1 _ _ b
      · have hi' : i = H1.length := by rw [List.length_append] at hi; have : [h0].length = 1 := rfl; (first | lia | omega)
        subst hi'
        refine ⟨σ'.length, by rw [← hlen]; simp, ?_⟩
        rw [show (H1 ++ [h0])[H1.length] = h0 by simp]
        exact push_last _ _
  · obtain ⟨H1, H2, rs, hs, hr, rfl, E, hlen, hrs⟩ := I
    cases H2 with
    | cons _ _ => cases hr
    | nil =>
      rw [List.append_nil] at hs
      subst hs
      exact h σ' rs E hlen hrs

theorem foldl_addNew_len : ∀ (l acc : List Int), (l.foldl addNew acc).length ≤ acc.length + l.length
  | [], acc => Nat.le_refl _
  | x :: r, acc => by
    have := foldl_addNew_len r (addNew acc x)
    have h2 : (addNew acc x).length ≤ acc.length + 1 := by
      unfold addNew; split
      · exact Nat.le_succ _
      · rw [List.length_append]; exact Nat.le_refl _
    rw [List.foldl_cons, List.length_cons]; (first | lia | omega)

theorem heads_len (ts : List TK) (L : List Int) : (headsOf ts L).length ≤ L.length := by
  have h := foldl_addNew_len ((callsOf ts L).map fun t => (tm ts t).data) []
  rw [List.length_map] at h
  exact Nat.le_trans h (Nat.le_trans (Nat.le_of_eq (Nat.zero_add _)) (List.length_filter_le ..))

theorem due_ok {n : Nat} {L : List Int} (R : Rd σ ts) (X : Wr ts) (e : σ[n]? = some (.lst (ivs L))) (hl : L.length < 100) (hL : ∀ t ∈ L, ∃ q, Tm ts t q) (h64 : (sharedOf ts L).length < 64)
    (h : ∀ σ' v, Ext σ σ' → rd 4 σ' v = some (dueOf ts L) → Q v σ') : Sp (d + 3) .law_due [.ref 3, .ref n] σ Q := by
  have hC : ∀ t ∈ callsOf ts L, ∃ q, Tm ts t q := fun t ht => hL t (List.mem_filter.mp ht).1
  have hCl : (callsOf ts L).length < 100 := Nat.lt_of_le_of_lt (List.length_filter_le _ _) hl
  refine sp_go rfl ?_
  show evB (Sp (d + 2)) [.asg .n_calls callsE, .asg .n_shared sharedE, .asg .n_heads (.list []), .for (.nm .n_t) (.e (.loc .n_calls)) headsB, .ret (.tup [.sortedset (.loc .n_shared), .loc .n_heads, .comp groupE .n_head (.loc .n_heads) []])] _ _ _
  refine b_asg (calls_ok (d := d + 1) R rfl rfl e hl hL ?_)
  have E1 := Ext.push σ (.lst (ivs (callsOf ts L)))
  have h1 := push_last σ (.lst (ivs (callsOf ts L)))
  generalize σ ++ [.lst (ivs (callsOf ts L))] = σ1 at E1 h1 ⊢
  refine b_asg (shared_ok (d := d) (R.ext E1) X rfl rfl h1 hCl hC fun σ2 E2 => ?_)
  have E3 := Ext.push σ2 (.lst (ivs ((callsOf ts L).flatMap (turnOf ts))))
  have h3 := push_last σ2 (.lst (ivs ((callsOf ts L).flatMap (turnOf ts))))
  generalize hσ3 : σ2 ++ [.lst (ivs ((callsOf ts L).flatMap (turnOf ts)))] = σ3 at E3 h3 ⊢
  have E03 : Ext σ σ3 := E1.trans (E2.trans E3)
  have E13 : Ext σ1 σ3 := E2.trans E3
  refine b_asg (e_list (es_nil ?_))
  refine b_for ?_
  show evE _ _ _ _ _
  refine e_loc (v := .ref σ.length) rfl ?_
  refine o_some (itemsOf_lst ((Ext.push σ3 _) _ _ (E13 _ _ h1)) (by rw [ivs_len]; exact hCl)) ?_
  refine heads_ok (d := d + 1) (σ0 := σ3) (m := σ3.length) (R.ext E03) (Ext.push σ3 _) (Nat.le_refl _) rfl rfl (E13 _ _ h1) hCl (push_last σ3 _) hC fun l' σ5 hl' E5 h5 => ?_
  show evB _ _ _ _ _
  have hHl : (headsOf ts L).length < 100 := Nat.lt_of_le_of_lt (heads_len ts L) hl
  refine b_ret (e_tup (es_cons (e_sset (e_loc (v := .ref σ2.length) (hl' _ (by decide)) ?_))))
  have hss : evSortedSet σ5 (.ref σ2.length) = some (.ref σ5.length, σ5 ++ [.lst (ivs (isort (dedup (sharedOf ts L))))]) := by
    unfold sharedOf at h64 ⊢
    exact evSset (E5 _ _ h3) h64
  refine o_some hss ?_
  dsimp only
  have E6 := Ext.push σ5 (.lst (ivs (isort (dedup (sharedOf ts L)))))
  have h6 := push_last σ5 (.lst (ivs (isort (dedup (sharedOf ts L)))))
  generalize σ5 ++ [.lst (ivs (isort (dedup (sharedOf ts L))))] = σ6 at E6 h6 ⊢
  refine es_cons (e_loc (v := .ref σ3.length) (hl' _ (by decide)) (es_cons ?_))
  have E06 : Ext σ σ6 := E03.trans (E5.trans E6)
  refine groups_ok (d := d + 1) (n := σ.length) (m := σ3.length) (H := headsOf ts L) (R.ext E06) ((hl' _ (by decide)).trans rfl) ((hl' _ (by decide)).trans rfl) ((hl' _ (by decide)).trans rfl) ((E5.trans E6) _ _ (E13 _ _ h1)) (E6 _ _ h5) hCl hHl hC fun σ7 rs E7 hlen hrs => ?_
  refine es_nil ?_
  have E8 := Ext.push σ7 (.lst (rs.map .ref))
  refine h _ _ (E06.trans (E7.trans E8)) ?_
  refine rd_trip (rs := rs) ((E7.trans E8) _ _ h6) ((E7.trans E8) _ _ (E6 _ _ h5)) (push_last _ _) (fun i hi => ?_) (by rw [hlen, List.length_map])
  rw [List.length_map] at hi
  obtain ⟨r, a, b⟩ := hrs i hi
  refine ⟨r, a, ?_⟩
  rw [List.getElem_map]
  exact E8 _ _ b
end
end Mine
namespace Mine
open PySem

/-! what an entering adds -/
section
variable {ts : List TK} {L : List Int} {t h : Int}
theorem calls_no (e : isCall ts t = false) : callsOf ts (L ++ [t]) = callsOf ts L := by
  unfold callsOf; rw [List.filter_append]; simp [e]
theorem calls_yes (e : isCall ts t = true) : callsOf ts (L ++ [t]) = callsOf ts L ++ [t] := by
  unfold callsOf; rw [List.filter_append]; simp [e]
theorem shared_no (e : isCall ts t = false) : sharedOf ts (L ++ [t]) = sharedOf ts L := by unfold sharedOf; rw [calls_no e]
theorem heads_no (e : isCall ts t = false) : headsOf ts (L ++ [t]) = headsOf ts L := by unfold headsOf; rw [calls_no e]
theorem group_no (e : isCall ts t = false) : groupOf ts (L ++ [t]) h = groupOf ts L h := by unfold groupOf; rw [calls_no e]
theorem shared_yes (e : isCall ts t = true) : sharedOf ts (L ++ [t]) = sharedOf ts L ++ turnOf ts t := by
  unfold sharedOf; rw [calls_yes e, List.flatMap_append]; simp
theorem heads_yes (e : isCall ts t = true) : headsOf ts (L ++ [t]) = addNew (headsOf ts L) (tm ts t).data := by
  unfold headsOf; rw [calls_yes e, List.map_append, List.foldl_append]; rfl
theorem group_yes (e : isCall ts t = true) : groupOf ts (L ++ [t]) h = if (tm ts t).data = h then groupOf ts L h ++ [t] else groupOf ts L h := by
  unfold groupOf; rw [calls_yes e, List.filter_append]
  by_cases z : (tm ts t).data = h
  · rw [if_pos z]; simp [z]
  · rw [if_neg z]; simp [z]
theorem mem_addNew {hs : List Int} {x y : Int} : y ∈ addNew hs x ↔ y ∈ hs ∨ y = x := by
  unfold addNew
  split
  · rename_i hx
    exact ⟨.inl, fun z => z.elim id fun e => e ▸ hx⟩
  · simp
theorem mem_foldl : ∀ (l hs : List Int) (y : Int), y ∈ l.foldl addNew hs ↔ y ∈ hs ∨ y ∈ l
  | [], hs, y => by simp
  | x :: r, hs, y => by
    rw [List.foldl_cons, mem_foldl r, mem_addNew, List.mem_cons, or_assoc]
theorem mem_heads : h ∈ headsOf ts L ↔ ∃ t ∈ callsOf ts L, (tm ts t).data = h := by
  unfold headsOf
  rw [mem_foldl]
  simp
theorem group_nil (e : h ∉ headsOf ts L) : groupOf ts L h = [] := by
  unfold groupOf
  rw [List.filter_eq_nil_iff]
  intro t ht z
  exact e (mem_heads.mpr ⟨t, ht, by simpa using z⟩)
theorem turn_len (X : Wr ts) {q : TK} (hq : Tm ts t q) : (turnOf ts t).length ≤ 4 := by
  unfold turnOf
  refine Nat.le_trans (List.length_filter_le _ _) ?_
  rw [tm_of hq, List.length_append]
  have := X.alen t q hq
  show _ + 1 ≤ 4
  (first | lia | omega)
end

/-! a new Sharing -/
noncomputable def sharFs (k : Nat) : List (Fd × V) := [(.f_bank, .ref 3), (.f_walked, .ref (k + 1)), (.f_shared, .ref (k + 2)), (.f_heads, .ref (k + 3)), (.f_calls, .ref (k + 4)), (.f_told, .ref (k + 5))]
theorem setFld_at {σ Y : Sto} {c : Cls} {fs : List (Fd × V)} {f : Fd} {v : V} (h : fs.length < 100) : setFld (σ ++ .inst c fs :: Y) (.ref σ.length) f v = some (σ ++ .inst c (aset fs f v) :: Y) := by
  have e : (σ ++ AObj.inst c fs :: Y)[σ.length]? = some (.inst c fs) := by simp
  exact (bnd_of (inst_is e)).trans ((gd_of h).trans (show some ((σ ++ AObj.inst c fs :: Y).set σ.length (.inst c (aset fs f v))) = _ by simp))
theorem push_at (σ Y : Sto) (x o : AObj) : (σ ++ x :: Y) ++ [o] = σ ++ x :: (Y ++ [o]) := by simp
theorem len_at (σ Y : Sto) (x : AObj) : (σ ++ x :: Y).length = σ.length + (Y.length + 1) := by simp
section
variable {d : Nat} {σ : Sto} {Q : V → Sto → Prop}
theorem sharing_init_ok (h : Q .none (σ ++ [.inst .Sharing (sharFs σ.length), .dI [], .dI [], .lst [], .dI [], .dI []])) : Sp (d + 1) .sharing_init [.ref σ.length, .ref 3] (σ ++ [.inst .Sharing []]) Q := by
  refine sp_go rfl ?_
  unfold Fn.body B.sharing_init
  dsimp only
  refine b_seta (e_loc (v := .ref 3) rfl (e_loc (v := .ref σ.length) rfl ?_))
  refine o_some (setFld_at (by decide)) ?_
  refine b_seta (e_dict (es_nil ?_))
  refine o_some (a := .dI []) rfl ?_
  rw [push_at, len_at]
  refine e_loc (v := .ref σ.length) rfl ?_
  refine o_some (setFld_at (by show 1 < 100; decide)) ?_
  refine b_seta (e_dict (es_nil ?_))
  refine o_some (a := .dI []) rfl ?_
  rw [push_at, len_at]
  refine e_loc (v := .ref σ.length) rfl ?_
  refine o_some (setFld_at (by show 2 < 100; decide)) ?_
  refine b_seta (e_list (es_nil ?_))
  rw [push_at, len_at]
  refine e_loc (v := .ref σ.length) rfl ?_
  refine o_some (setFld_at (by show 3 < 100; decide)) ?_
  refine b_seta (e_dict (es_nil ?_))
  refine o_some (a := .dI []) rfl ?_
  rw [push_at, len_at]
  refine e_loc (v := .ref σ.length) rfl ?_
  refine o_some (setFld_at (by show 4 < 100; decide)) ?_
  refine b_seta (e_dict (es_nil ?_))
  refine o_some (a := .dI []) rfl ?_
  rw [push_at, len_at]
  refine e_loc (v := .ref σ.length) rfl ?_
  refine o_some (setFld_at (by show 5 < 100; decide)) ?_
  refine b_nil (o_some rfl ?_)
  simp only [List.length_append, List.length_nil, List.length_cons, List.nil_append, List.cons_append, Nat.zero_add]
  exact h
end

/-- a Sharing into which L was entered; its lists of calls lie where P says -/
structure Shar (σ : Sto) (ts : List TK) (k : Nat) (P : Nat → Prop) (L : List Int) (W : List (Int × V)) : Prop where
  inst : σ[k]? = some (.inst .Sharing (sharFs k))
  walked : σ[k + 1]? = some (.dI W)
  shared : ∃ m, σ[k + 2]? = some (.dI m) ∧ (m.map (·.1)).Nodup ∧ ∀ x, x ∈ m.map (·.1) ↔ x ∈ sharedOf ts L
  heads : σ[k + 3]? = some (.lst (ivs (headsOf ts L)))
  calls : ∃ m, σ[k + 4]? = some (.dI m) ∧ m.map (·.1) = headsOf ts L ∧ (∀ h ∈ headsOf ts L, ∃ r, aget m h = some (.ref r) ∧ P r ∧ σ[r]? = some (.lst (ivs (groupOf ts L h)))) ∧
    ∀ h h' r, h ∈ headsOf ts L → h' ∈ headsOf ts L → aget m h = some (.ref r) → aget m h' = some (.ref r) → h = h'
  low : ∀ r, P r → k + 5 < r
  len : ∀ r, σ.length ≤ r → P r
theorem shar_new {σ : Sto} {ts : List TK} : Shar (σ ++ [.inst .Sharing (sharFs σ.length), .dI [], .dI [], .lst [], .dI [], .dI []]) ts σ.length (fun r => σ.length + 6 ≤ r) [] [] where
  inst := by simp
  walked := by simp
  shared := ⟨[], by simp, List.nodup_nil, fun x => by simp [sharedOf, callsOf]⟩
  heads := by simp [headsOf, callsOf, ivs]
  calls := ⟨[], by simp, rfl, fun h hh => by simp [headsOf, callsOf] at hh, fun h h' r hh => by simp [headsOf, callsOf] at hh⟩
  low := fun r h => by (first | lia | omega)
  len := fun r h => by simpa using h
end Mine
namespace Mine
open PySem

section
variable {d : Nat} {σ : Sto} {ts : List TK} {t : Int} {q : TK} {Q : V → Sto → Prop} {k : Nat} {P : Nat → Prop} {L : List Int} {W : List (Int × V)}
theorem shar_fld {f : Fd} {v : V} (e : σ[k]? = some (.inst .Sharing (sharFs k))) (h : aget (sharFs k) f = some v) : σ.fld k f = some v := fld_at e h
theorem shar_cls (e : σ[k]? = some (.inst .Sharing (sharFs k))) : σ.cls k = some .Sharing := cls_at e
theorem has_shared_ok (R : Rd σ ts) (X : Wr ts) (e : σ[k]? = some (.inst .Sharing (sharFs k))) (h : Tm ts t q) (kk : Q (.bool (isNum ts t)) σ) : Sp (d + 2) .sh_has_shared_sort [.ref k, .int t] σ Q := by
  refine sp_go rfl ?_
  unfold Fn.body B.sh_has_shared_sort
  dsimp only
  refine b_asg ?_
  refine e_methA (m := k) (n := 3) rfl (shar_fld e rfl) R.cls (es_cons (e_loc (v := .int t) rfl (es_nil ?_)))
  refine rd_sort R h ?_
  unfold isNum at kk
  rw [tm_of h] at kk
  refine b_if ?_
  refine t_or (t_cmp (e_loc (v := .int q.sort) rfl (e_gl ?_)))
  refine o_some (cmp_eq q.sort 1) ?_
  by_cases h1 : q.sort = 1
  · rw [decide_eq_true (show q.sort ∈ ([1, 2] : List Int) by simp [h1]), Bool.true_or] at kk
    refine if_t (by simpa using h1) ?_
    refine if_t rfl ?_
    exact b_ret (e_lit kk)
  · refine if_f (by simpa using h1) ?_
    refine t_cmp (e_loc (v := .int q.sort) rfl (e_gl ?_))
    refine o_some (cmp_eq q.sort 2) ?_
    by_cases h2 : q.sort = 2
    · rw [decide_eq_true (show q.sort ∈ ([1, 2] : List Int) by simp [h2]), Bool.true_or] at kk
      refine if_t (by simpa using h2) ?_
      exact b_ret (e_lit kk)
    · rw [decide_eq_false (show ¬ q.sort ∈ ([1, 2] : List Int) by simp [h1, h2]), Bool.false_or] at kk
      refine if_f (by simpa using h2) ?_
      refine b_ret (e_cmp ?_)
      refine e_methA (m := k) (n := 3) rfl (shar_fld e rfl) R.cls (es_cons (e_loc (v := .int q.sort) rfl (es_nil ?_)))
      refine rd_width_of R (X.sort _ _ h) (e_lit ?_)
      exact o_some (a := decide (wid q.sort > 0)) rfl kk

/-- an entering turns these alone -/
structure Fra (k : Nat) (P : Nat → Prop) (σ σ' : Sto) : Prop where
  kept : ∀ (n : Nat) (o : AObj), ¬ P n → n ≠ k + 2 → n ≠ k + 3 → n ≠ k + 4 → σ[n]? = some o → σ'[n]? = some o
  len : σ.length ≤ σ'.length
theorem Fra.refl : Fra k P σ σ := ⟨fun _ _ _ _ _ _ e => e, Nat.le_refl _⟩
theorem Fra.trans {σ' σ'' : Sto} (a : Fra k P σ σ') (b : Fra k P σ' σ'') : Fra k P σ σ'' :=
  ⟨fun n o h1 h2 h3 h4 e => b.kept n o h1 h2 h3 h4 (a.kept n o h1 h2 h3 h4 e), Nat.le_trans a.len b.len⟩
theorem Fra.set {n : Nat} {o : AObj} (h : n = k + 2 ∨ n = k + 3 ∨ n = k + 4 ∨ P n) : Fra k P σ (σ.set n o) :=
  ⟨fun m p h1 h2 h3 h4 e => by rw [List.getElem?_set_ne (by rintro rfl; exact h.elim h2 fun h => h.elim h3 fun h => h.elim h4 h1)]; exact e, by rw [List.length_set]; exact Nat.le_refl _⟩
theorem Fra.push {o : AObj} : Fra k P σ (σ ++ [o]) := ⟨fun n p _ _ _ _ e => Ext.push σ o n p e, by rw [List.length_append]; exact Nat.le_add_right ..⟩
theorem Rd.fra {σ' : Sto} (R : Rd σ ts) (F : Fra k P σ σ') (h : 13 < k) (h' : ∀ r, P r → k + 5 < r) : Rd σ' ts :=
  ⟨F.kept _ _ (fun z => by have := h' _ z; (first | lia | omega)) (by (first | lia | omega)) (by (first | lia | omega)) (by (first | lia | omega)) R.bank, F.kept _ _ (fun z => by have := h' _ z; (first | lia | omega)) (by (first | lia | omega)) (by (first | lia | omega)) (by (first | lia | omega)) R.wid, F.kept _ _ (fun z => by have := h' _ z; (first | lia | omega)) (by (first | lia | omega)) (by (first | lia | omega)) (by (first | lia | omega)) R.ops, F.kept _ _ (fun z => by have := h' _ z; (first | lia | omega)) (by (first | lia | omega)) (by (first | lia | omega)) (by (first | lia | omega)) R.args, F.kept _ _ (fun z => by have := h' _ z; (first | lia | omega)) (by (first | lia | omega)) (by (first | lia | omega)) (by (first | lia | omega)) R.sorts, F.kept _ _ (fun z => by have := h' _ z; (first | lia | omega)) (by (first | lia | omega)) (by (first | lia | omega)) (by (first | lia | omega)) R.datas, R.len⟩

theorem aset_keys {κ : Type} [DecidableEq κ] : ∀ (m : List (κ × V)) (k : κ) (v : V), (aset m k v).map (·.1) = if k ∈ m.map (·.1) then m.map (·.1) else m.map (·.1) ++ [k]
  | [], k, v => rfl
  | (a, b) :: r, k, v => by
    unfold aset
    by_cases h : a = k
    · subst h
      rw [if_pos rfl, if_pos (by simp)]; rfl
    · rw [if_neg h, List.map_cons, aset_keys r k v, List.map_cons]
      by_cases h2 : k ∈ r.map (·.1)
      · rw [if_pos h2, if_pos (List.mem_cons_of_mem _ h2)]
      · rw [if_neg h2, if_neg (by rw [List.mem_cons]; exact fun z => z.elim (fun e => h e.symm) h2)]; rfl
theorem aget_some {κ : Type} [DecidableEq κ] : ∀ {m : List (κ × V)} {k : κ}, (aget m k).isSome = decide (k ∈ m.map (·.1))
  | [], k => rfl
  | (a, b) :: r, k => by
    unfold aget
    by_cases h : a = k
    · subst h
      rw [if_pos rfl]; simp
    · rw [if_neg h, aget_some (m := r)]
      simp only [List.map_cons, List.mem_cons]
      exact decide_eq_decide.mpr ⟨.inr, fun z => z.elim (fun e => absurd e.symm h) id⟩
end
end Mine
namespace Mine
open PySem

/-- the shared terms, as they lie -/
noncomputable def ShAt (σ : Sto) (k : Nat) (S : List Int) : Prop := ∃ m, σ[k + 2]? = some (.dI m) ∧ (m.map (·.1)).Nodup ∧ ∀ x, x ∈ m.map (·.1) ↔ x ∈ S
section
variable {d : Nat} {σ : Sto} {ts : List TK} {t : Int} {q : TK} {Q : V → Sto → Prop} {k : Nat} {S : List Int}
/-- self.shared[u] = True -/
theorem mark_ok {x : Nm} {l : Locs} {r : List Stm} {Sp0 : Spec} {K : Fl → Locs → Sto → Prop} (e : σ[k]? = some (.inst .Sharing (sharFs k))) (hs : ShAt σ k S) (hS : S.length < 1000) (h1 : l .n_self = some (.ref k)) (h2 : l x = some (.int t))
    (h : ∀ m, ShAt (σ.set (k + 2) (.dI m)) k (S ++ [t]) → evB Sp0 r l (σ.set (k + 2) (.dI m)) K) : evB Sp0 (.seti (.attr (.loc .n_self) .f_shared) (.loc x) (.lit (.bool true)) :: r) l σ K := by
  obtain ⟨m, hm, hn, hk⟩ := hs
  have hml : m.length < 1000 := by
    have := sub_len hn fun y hy => (hk y).mp hy
    rw [List.length_map] at this
    (first | lia | omega)
  refine b_seti (e_lit (e_attr h1 (shar_fld e rfl) (e_loc h2 ?_)))
  have hset : setIdx σ (.ref (k + 2)) (.int t) (.bool true) = some (σ.set (k + 2) (.dI (aset m t (.bool true)))) := setIdx_dI hm (by unfold lim; (first | lia | omega))
  refine o_some hset ?_
  refine h _ ⟨_, List.getElem?_set_self (List.getElem?_eq_some_iff.mp hm).1, ?_, fun y => ?_⟩
  · rw [aset_keys]
    split
    · exact hn
    · rename_i z
      rw [List.nodup_append]
      refine ⟨hn, by simp, fun a ha b hb e => z ?_⟩
      rw [List.mem_singleton] at hb
      rw [← hb, ← e]; exact ha
  · rw [aset_keys, List.mem_append, List.mem_singleton, ← hk y]
    split
    · rename_i z
      exact ⟨.inl, fun w => w.elim id fun e => e ▸ z⟩
    · rw [List.mem_append, List.mem_singleton]

noncomputable def argB : List Stm := [.ite (.meth (.loc Nm.n_self) Fn.sh_has_shared_sort [(.loc Nm.n_argument)]) [
      .seti (.attr (.loc Nm.n_self) Fd.f_shared) (.loc Nm.n_argument) (.lit (.bool true))] []]
theorem args_mark {A : List Int} {l : Locs} {K : Fl → Locs → Sto → Prop} (R : Rd σ ts) (X : Wr ts) (hk : 13 < k) (e : σ[k]? = some (.inst .Sharing (sharFs k))) (hs : ShAt σ k S) (hS : S.length + A.length < 1000) (h1 : l .n_self = some (.ref k)) (hA : ∀ a ∈ A, ∃ q, Tm ts a q)
    (h : ∀ l' σ', (∀ x, x ≠ .n_argument → l' x = l x) → (∀ n, n ≠ k + 2 → σ'[n]? = σ[n]?) → σ'.length = σ.length → ShAt σ' k (S ++ A.filter (isNum ts)) → K .next l' σ') :
    goFor (fun v l σ k => opt (bindT (.nm .n_argument) v l) fun l => evB (Sp (d + 2)) argB l σ k) none (ivs A) l σ K := by
  refine for_inv (fun r l' σ' => ∃ A1 A2, A = A1 ++ A2 ∧ r = ivs A2 ∧ (∀ x, x ≠ .n_argument → l' x = l x) ∧ (∀ n, n ≠ k + 2 → σ'[n]? = σ[n]?) ∧ σ'.length = σ.length ∧ ShAt σ' k (S ++ A1.filter (isNum ts))) (fun v r l' σ' K I hK => ?_) _ _ _ _ ⟨[], A, rfl, rfl, fun _ _ => rfl, fun _ _ => rfl, rfl, by simpa using hs⟩ (fun l' σ' I => ?_)
  · obtain ⟨A1, A2, hsp, hr, hl', hσ, hlen, hsh⟩ := I
    cases A2 with
    | nil => cases hr
    | cons a A2 =>
      obtain ⟨rfl, rfl⟩ : v = .int a ∧ r = ivs A2 := List.cons.inj hr
      obtain ⟨q, hq⟩ := hA a (by rw [hsp]; simp)
      have hAl : A.length = A1.length + (A2.length + 1) := by rw [hsp, List.length_append]; rfl
      have hf := List.length_filter_le (isNum ts) A1
      have e' : σ'[k]? = some (.inst .Sharing (sharFs k)) := (hσ k (by (first | lia | omega))).trans e
      have R' : Rd σ' ts := ⟨(hσ _ (by (first | lia | omega))).trans R.bank, (hσ _ (by (first | lia | omega))).trans R.wid, (hσ _ (by (first | lia | omega))).trans R.ops, (hσ _ (by (first | lia | omega))).trans R.args, (hσ _ (by (first | lia | omega))).trans R.sorts, (hσ _ (by (first | lia | omega))).trans R.datas, R.len⟩
      have hx : ∀ x, x ≠ .n_argument → upd l' .n_argument (.int a) x = l x := fun x hx => by
        show (if x = Nm.n_argument then _ else l' x) = _
        rw [if_neg hx]; exact hl' x hx
      have hself : upd l' .n_argument (.int a) .n_self = some (.ref k) := (hx _ (by decide)).trans h1
      refine o_some rfl ?_
      unfold argB
      refine b_if ?_
      refine t_meth (n := k) hself (shar_cls e') (es_cons (e_loc (v := .int a) rfl (es_nil ?_)))
      refine has_shared_ok R' X e' hq (o_some rfl ?_)
      cases hz : isNum ts a with
      | true =>
        refine if_t rfl ?_
        refine mark_ok e' hsh (by rw [List.length_append]; (first | lia | omega)) hself rfl fun m hm => ?_
        refine b_nil ?_
        refine (hK _ _ trivial ⟨A1 ++ [a], A2, by rw [hsp, List.append_assoc]; rfl, rfl, hx, fun n hn => ?_, by rw [List.length_set]; exact hlen, ?_⟩).1
        · rw [List.getElem?_set_ne (fun z => hn z.symm)]; exact hσ n hn
        · rw [List.filter_append, show [a].filter (isNum ts) = [a] by simp [hz], ← List.append_assoc]; exact hm
      | false =>
        refine if_f rfl ?_
        refine b_nil ?_
        refine (hK _ _ trivial ⟨A1 ++ [a], A2, by rw [hsp, List.append_assoc]; rfl, rfl, hx, hσ, hlen, ?_⟩).1
        rw [List.filter_append, show [a].filter (isNum ts) = [] by simp [hz], List.append_nil]; exact hsh
  · obtain ⟨A1, A2, hsp, hr, hl', hσ, hlen, hsh⟩ := I
    cases A2 with
    | cons _ _ => cases hr
    | nil =>
      rw [List.append_nil] at hsp
      subst hsp
      exact h l' σ' hl' hσ hlen hsh
end
end Mine
namespace Mine
open PySem

section
variable {d : Nat} {σ : Sto} {ts : List TK} {t : Int} {q : TK} {Q : V → Sto → Prop} {k : Nat} {P : Nat → Prop} {L : List Int} {W : List (Int × V)}
theorem Shar.same (H : Shar σ ts k P L W) (e : isCall ts t = false) : Shar σ ts k P (L ++ [t]) W where
  inst := H.inst
  walked := H.walked
  shared := by rw [shared_no e]; exact H.shared
  heads := by rw [heads_no e]; exact H.heads
  calls := by
    obtain ⟨m, a, b, c, f⟩ := H.calls
    refine ⟨m, a, by rw [heads_no e]; exact b, ?_, ?_⟩
    · rw [heads_no e]
      intro h hh
      rw [group_no e]
      exact c h hh
    · rw [heads_no e]; exact f
  low := H.low
  len := H.len
noncomputable def callsB : List Stm := [
    .expr (.lm Lm.append (.attr (.loc Nm.n_self) Fd.f_heads) [(.loc Nm.n_head)]),
    .seti (.attr (.loc Nm.n_self) Fd.f_calls) (.loc Nm.n_head) (.list [])]
theorem enter_shape : B.sh_enter_part = [
  .ite (.cmp Cop.ne (.meth (.attr (.loc Nm.n_self) Fd.f_bank) Fn.bk_op [(.loc Nm.n_part)]) (.lit (.str (PySem.Str.ofString "app")))) [.retn] [],
  .asg Nm.n_arguments (.meth (.attr (.loc Nm.n_self) Fd.f_bank) Fn.bk_args [(.loc Nm.n_part)]),
  .ite (.cmp Cop.eq (.bi Bi.len [(.loc Nm.n_arguments)]) (.lit (.int 0))) [.retn] [],
  .asg Nm.n_head (.meth (.attr (.loc Nm.n_self) Fd.f_bank) Fn.bk_data [(.loc Nm.n_part)]),
  .ite (.cmp Cop.notin (.loc Nm.n_head) (.attr (.loc Nm.n_self) Fd.f_calls)) callsB [],
  .expr (.lm Lm.append (.idx (.attr (.loc Nm.n_self) Fd.f_calls) (.loc Nm.n_head)) [(.loc Nm.n_part)]),
  .for (.nm Nm.n_argument) (.e (.loc Nm.n_arguments)) argB,
  .ite (.meth (.loc Nm.n_self) Fn.sh_has_shared_sort [(.loc Nm.n_part)]) [
    .seti (.attr (.loc Nm.n_self) Fd.f_shared) (.loc Nm.n_part) (.lit (.bool true))] []] := rfl

/-- what calls and heads have to say -/
structure CallsAt (σ : Sto) (ts : List TK) (k : Nat) (P : Nat → Prop) (L : List Int) : Prop where
  heads : σ[k + 3]? = some (.lst (ivs (headsOf ts L)))
  calls : ∃ m, σ[k + 4]? = some (.dI m) ∧ m.map (·.1) = headsOf ts L ∧ (∀ h ∈ headsOf ts L, ∃ r, aget m h = some (.ref r) ∧ P r ∧ σ[r]? = some (.lst (ivs (groupOf ts L h)))) ∧
    ∀ h h' r, h ∈ headsOf ts L → h' ∈ headsOf ts L → aget m h = some (.ref r) → aget m h' = some (.ref r) → h = h'

/-- a call more under a head that is known -/
theorem old_head {m : List (Int × V)} {r : Nat} (hk : ∀ r, P r → k + 5 < r) (H : CallsAt σ ts k P L) (hm : σ[k + 4]? = some (.dI m)) (ec : isCall ts t = true) (hh : (tm ts t).data ∈ headsOf ts L) (hr : aget m (tm ts t).data = some (.ref r)) :
    P r ∧ σ[r]? = some (.lst (ivs (groupOf ts L (tm ts t).data))) ∧ CallsAt (σ.set r (.lst (ivs (groupOf ts L (tm ts t).data) ++ [.int t]))) ts k P (L ++ [t]) := by
  obtain ⟨h1, m', a, b, c, f⟩ := H
  have : m' = m := by have := a.symm.trans hm; cases this; rfl
  subst this
  obtain ⟨r', e1, e2, e3⟩ := c _ hh
  have : r' = r := by have := e1.symm.trans hr; cases this; rfl
  subst this
  have hr5 := hk _ e2
  refine ⟨e2, e3, ?_, m', ?_, ?_, ?_, ?_⟩
  · rw [List.getElem?_set_ne (by (first | lia | omega)), heads_yes ec]; unfold addNew; rw [if_pos hh]; exact h1
  · rw [List.getElem?_set_ne (by (first | lia | omega))]; exact a
  · rw [heads_yes ec]; unfold addNew; rw [if_pos hh]; exact b
  · rw [heads_yes ec]; unfold addNew; rw [if_pos hh]
    intro h hh'
    obtain ⟨r2, g1, g2, g3⟩ := c h hh'
    refine ⟨r2, g1, g2, ?_⟩
    rw [group_yes ec]
    by_cases e : (tm ts t).data = h
    · subst e
      have : r2 = r' := by have := g1.symm.trans e1; cases this; rfl
      subst this
      rw [if_pos rfl, List.getElem?_set_self (List.getElem?_eq_some_iff.mp g3).1, ivs_app]; rfl
    · rw [if_neg e, List.getElem?_set_ne (fun z => e (f _ _ r' hh hh' e1 (by rw [z]; exact g1)))]
      exact g3
  · rw [heads_yes ec]; unfold addNew; rw [if_pos hh]; exact f

/-- the first call under a head -/
theorem new_head {m : List (Int × V)} (hk : ∀ r, P r → k + 5 < r) (hL : ∀ r, σ.length ≤ r → P r) (H : CallsAt σ ts k P L) (hm : σ[k + 4]? = some (.dI m)) (ec : isCall ts t = true) (hh : (tm ts t).data ∉ headsOf ts L) :
    CallsAt ((((σ.set (k + 3) (AObj.lst (ivs (headsOf ts L) ++ [V.int (tm ts t).data]))) ++ [AObj.lst []]).set (k + 4) (AObj.dI (aset m (tm ts t).data (V.ref σ.length)))).set σ.length (AObj.lst [V.int t])) ts k P (L ++ [t]) := by
  have hL5 := hk _ (hL _ (Nat.le_refl _))
  obtain ⟨h1, m', a, b, c, f⟩ := H
  have : m' = m := by have := a.symm.trans hm; cases this; rfl
  subst this
  have hnk : (tm ts t).data ∉ m'.map (·.1) := by rw [b]; exact hh
  have hlow : ∀ r (o : AObj), P r → σ[r]? = some o → ((((σ.set (k + 3) (AObj.lst (ivs (headsOf ts L) ++ [V.int (tm ts t).data]))) ++ [AObj.lst []]).set (k + 4) (AObj.dI (aset m' (tm ts t).data (V.ref σ.length)))).set σ.length (AObj.lst [V.int t]))[r]? = some o := fun r o hr e => by
    have hlt := (List.getElem?_eq_some_iff.mp e).1
    have hr5 := hk r hr
    rw [List.getElem?_set_ne (by (first | lia | omega)), List.getElem?_set_ne (by (first | lia | omega)), List.getElem?_append_left (by rw [List.length_set]; exact hlt), List.getElem?_set_ne (by (first | lia | omega))]
    exact e
  have hget : ∀ h, aget (aset m' (tm ts t).data (.ref σ.length)) h = if (tm ts t).data = h then some (.ref σ.length) else aget m' h := fun h => aget_aset _ _ _ _
  refine ⟨?_, aset m' (tm ts t).data (.ref σ.length), ?_, ?_, ?_, ?_⟩
  · rw [List.getElem?_set_ne (by (first | lia | omega)), List.getElem?_set_ne (by (first | lia | omega)), List.getElem?_append_left (by rw [List.length_set]; (first | lia | omega)), List.getElem?_set_self (by (first | lia | omega)), heads_yes ec]
    unfold addNew; rw [if_neg hh, ivs_app]; rfl
  · rw [List.getElem?_set_ne (by (first | lia | omega)), List.getElem?_set_self (by rw [List.length_append, List.length_set]; (first | lia | omega))]
  · rw [aset_keys, if_neg hnk, b, heads_yes ec]
    unfold addNew; rw [if_neg hh]
  · intro h hh'
    rw [heads_yes ec] at hh'
    rw [hget, group_yes ec]
    by_cases e : (tm ts t).data = h
    · subst e
      rw [if_pos rfl, if_pos rfl, group_nil hh]
      refine ⟨σ.length, rfl, hL _ (Nat.le_refl _), ?_⟩
      rw [List.getElem?_set_self (by rw [List.length_set, List.length_append, List.length_set]; exact Nat.lt_succ_self _)]; rfl
    · rw [if_neg e, if_neg e]
      obtain ⟨r, g1, g2, g3⟩ := c h ((mem_addNew.mp hh').elim id fun z => absurd z.symm e)
      exact ⟨r, g1, g2, hlow r _ g2 g3⟩
  · intro h h' r q1 q2 q3 q4
    rw [heads_yes ec] at q1 q2
    rw [hget] at q3 q4
    by_cases e : (tm ts t).data = h
    · by_cases e' : (tm ts t).data = h'
      · rw [← e, ← e']
      · rw [if_pos e] at q3; rw [if_neg e'] at q4
        cases q3
        obtain ⟨r, g1, g2, g3⟩ := c h' ((mem_addNew.mp q2).elim id fun z => absurd z.symm e')
        have := g1.symm.trans q4
        cases this
        exact absurd (List.getElem?_eq_some_iff.mp g3).1 (Nat.lt_irrefl _)
    · by_cases e' : (tm ts t).data = h'
      · rw [if_neg e] at q3; rw [if_pos e'] at q4
        cases q4
        obtain ⟨r, g1, g2, g3⟩ := c h ((mem_addNew.mp q1).elim id fun z => absurd z.symm e)
        have := g1.symm.trans q3
        cases this
        exact absurd (List.getElem?_eq_some_iff.mp g3).1 (Nat.lt_irrefl _)
      · rw [if_neg e] at q3; rw [if_neg e'] at q4
        exact f h h' r ((mem_addNew.mp q1).elim id fun z => absurd z.symm e) ((mem_addNew.mp q2).elim id fun z => absurd z.symm e') q3 q4
end
end Mine
namespace Mine
open PySem

section
variable {d : Nat} {σ : Sto} {ts : List TK} {t : Int} {q : TK} {Q : V → Sto → Prop} {k : Nat} {P : Nat → Prop} {L : List Int} {W : List (Int × V)}
theorem getIdx_dI {n : Nat} {m : List (Int × V)} {h : Int} {v : V} (e : σ[n]? = some (.dI m)) (g : aget m h = some v) : getIdx σ (.ref n) (.int h) = some v := (bnd_of e).trans g
theorem amem_dI {n : Nat} {m : List (Int × V)} {h : Int} (e : σ[n]? = some (.dI m)) : amem σ (.int h) (.ref n) = some (decide (h ∈ m.map (·.1))) := (bnd_of e).trans (congrArg some aget_some)
/-- heads and calls take the call -/
theorem call_in {l : Locs} {r : List Stm} {K : Fl → Locs → Sto → Prop} {Sp0 : Spec} (hk : ∀ r, P r → k + 5 < r) (hL : ∀ r, σ.length ≤ r → P r) (e : σ[k]? = some (.inst .Sharing (sharFs k))) (H : CallsAt σ ts k P L) (hll : L.length < 1000) (ec : isCall ts t = true)
    (h1 : l .n_self = some (.ref k)) (h2 : l .n_head = some (.int (tm ts t).data)) (h3 : l .n_part = some (.int t))
    (h : ∀ σ', CallsAt σ' ts k P (L ++ [t]) → Fra k P σ σ' → σ'[k + 2]? = σ[k + 2]? → evB Sp0 r l σ' K) :
    evB Sp0 (.ite (.cmp Cop.notin (.loc Nm.n_head) (.attr (.loc Nm.n_self) Fd.f_calls)) callsB [] :: .expr (.lm Lm.append (.idx (.attr (.loc Nm.n_self) Fd.f_calls) (.loc Nm.n_head)) [(.loc Nm.n_part)]) :: r) l σ K := by
  have hL5 := hk _ (hL _ (Nat.le_refl _))
  obtain ⟨m, hm, hkeys, hc, hi⟩ := H.calls
  have hlen := heads_len ts L
  refine b_if (t_cmp (e_loc h2 (e_attr h1 (shar_fld e rfl) ?_)))
  refine o_some (a := !decide ((tm ts t).data ∈ headsOf ts L)) (by unfold evCmp; dsimp only; rw [amem_dI hm, hkeys]; rfl) ?_
  by_cases hh : (tm ts t).data ∈ headsOf ts L
  · refine if_f (by rw [decide_eq_true hh]; rfl) ?_
    obtain ⟨r, g1, g2, g3⟩ := hc _ hh
    have hr5 := hk _ g2
    obtain ⟨_, _, H'⟩ := old_head hk H hm ec hh g1
    refine b_expr (e_lm (e_idx (e_attr h1 (shar_fld e rfl) (e_loc h2 ?_))))
    refine o_some (getIdx_dI hm g1) ?_
    refine o_if (lmOk_lst (by intro z; cases z) g3) ?_
    refine es_cons (e_loc h3 (es_nil ?_))
    have hgl := List.length_filter_le (fun t' => (tm ts t').data == (tm ts t).data) (callsOf ts L)
    have hcl := List.length_filter_le (isCall ts) L
    refine o_some (evLm_append g3 (by rw [ivs_len]; unfold groupOf lim; unfold callsOf at hgl ⊢; (first | lia | omega))) ?_
    exact h _ H' (Fra.set (.inr (.inr (.inr g2)))) (by rw [List.getElem?_set_ne (by (first | lia | omega))])
  · refine if_t (by rw [decide_eq_false hh]; rfl) ?_
    unfold callsB
    have hs3 := H.heads
    refine b_expr (e_lm (e_attr h1 (shar_fld e rfl) ?_))
    refine o_if (lmOk_lst (by intro z; cases z) hs3) ?_
    refine es_cons (e_loc h2 (es_nil ?_))
    refine o_some (evLm_append hs3 (by rw [ivs_len]; unfold lim; (first | lia | omega))) ?_
    dsimp only
    have H' := new_head hk hL H hm ec hh
    generalize hσ1 : σ.set (k + 3) (AObj.lst (ivs (headsOf ts L) ++ [V.int (tm ts t).data])) = σ1 at H' ⊢
    have hl1 : σ1.length = σ.length := by rw [← hσ1, List.length_set]
    have e1 : σ1[k]? = some (.inst .Sharing (sharFs k)) := by rw [← hσ1, List.getElem?_set_ne (by (first | lia | omega))]; exact e
    have m1 : σ1[k + 4]? = some (.dI m) := by rw [← hσ1, List.getElem?_set_ne (by (first | lia | omega))]; exact hm
    have E2 := Ext.push σ1 (AObj.lst [])
    refine b_seti (e_list (es_nil ?_))
    refine e_attr h1 (shar_fld (E2 _ _ e1) rfl) (e_loc h2 ?_)
    rw [hl1]
    have hset : setIdx (σ1 ++ [AObj.lst []]) (.ref (k + 4)) (.int (tm ts t).data) (.ref σ.length) = some ((σ1 ++ [AObj.lst []]).set (k + 4) (AObj.dI (aset m (tm ts t).data (V.ref σ.length)))) := setIdx_dI (E2 _ _ m1) (by have := congrArg List.length hkeys; rw [List.length_map] at this; unfold lim; (first | lia | omega))
    refine o_some hset ?_
    refine b_end ?_
    have hl2 : σ.length < ((σ1 ++ [AObj.lst []]).set (k + 4) (AObj.dI (aset m (tm ts t).data (V.ref σ.length)))).length := by rw [List.length_set, List.length_append, hl1]; exact Nat.lt_succ_self _
    have e2 : ((σ1 ++ [AObj.lst []]).set (k + 4) (AObj.dI (aset m (tm ts t).data (V.ref σ.length))))[k]? = some (.inst .Sharing (sharFs k)) := by rw [List.getElem?_set_ne (by (first | lia | omega))]; exact E2 _ _ e1
    have m2 : ((σ1 ++ [AObj.lst []]).set (k + 4) (AObj.dI (aset m (tm ts t).data (V.ref σ.length))))[k + 4]? = some (AObj.dI (aset m (tm ts t).data (V.ref σ.length))) := List.getElem?_set_self (by rw [List.length_append]; (first | lia | omega))
    have n2 : ((σ1 ++ [AObj.lst []]).set (k + 4) (AObj.dI (aset m (tm ts t).data (V.ref σ.length))))[σ.length]? = some (.lst (ivs [])) := by
      rw [List.getElem?_set_ne (by (first | lia | omega)), ← hl1]; exact push_last _ _
    refine b_expr (e_lm (e_idx (e_attr h1 (shar_fld e2 rfl) (e_loc h2 ?_))))
    refine o_some (getIdx_dI m2 (by rw [aget_aset, if_pos rfl])) ?_
    refine o_if (lmOk_lst (by intro z; cases z) n2) ?_
    refine es_cons (e_loc h3 (es_nil ?_))
    refine o_some (evLm_append n2 (by decide)) ?_
    refine h _ H' ?_ ?_
    · refine Fra.trans (σ' := σ1) (hσ1 ▸ Fra.set (.inr (.inl rfl))) (Fra.trans Fra.push (Fra.trans (Fra.set (.inr (.inr (.inl rfl)))) (Fra.set (.inr (.inr (.inr (hL _ (Nat.le_refl _))))))))
    · rw [List.getElem?_set_ne (by (first | lia | omega)), List.getElem?_set_ne (by (first | lia | omega)), List.getElem?_append_left (by (first | lia | omega)), ← hσ1, List.getElem?_set_ne (by (first | lia | omega))]
end
end Mine
namespace Mine
open PySem

section
variable {d : Nat} {σ : Sto} {ts : List TK} {t : Int} {q : TK} {Q : V → Sto → Prop} {k : Nat} {P : Nat → Prop} {L : List Int} {W : List (Int × V)}
theorem enter_ok (R : Rd σ ts) (X : Wr ts) (hk : 13 < k) (H : Shar σ ts k P L W) (hq : Tm ts t q) (hll : L.length < 100) (hsl : (sharedOf ts L).length < 900) (h : ∀ σ', Shar σ' ts k P (L ++ [t]) W → Fra k P σ σ' → Q .none σ') : Sp (d + 3) .sh_enter_part [.ref k, .int t] σ Q := by
  have hlow := H.low
  have hL5 := hlow _ (H.len _ (Nat.le_refl _))
  have e := H.inst
  have hop : isCall ts t = (decide (q.op = Str.ofString "app") && !q.args.isEmpty) := by unfold isCall; rw [tm_of hq]
  refine sp_go rfl ?_
  unfold Fn.body
  dsimp only
  rw [enter_shape]
  refine b_if (t_cmp ?_)
  refine e_methA (m := k) (n := 3) rfl (shar_fld e rfl) R.cls (es_cons (e_loc (v := .int t) rfl (es_nil ?_)))
  refine rd_op R hq (e_lit ?_)
  refine o_some (a := !decide (q.op = Str.ofString "app")) rfl ?_
  by_cases ho : q.op = Str.ofString "app"
  · refine if_f (by rw [decide_eq_true ho]; rfl) ?_
    rw [decide_eq_true ho, Bool.true_and] at hop
    refine b_asg ?_
    refine e_methA (m := k) (n := 3) rfl (shar_fld e rfl) R.cls (es_cons (e_loc (v := .int t) rfl (es_nil ?_)))
    refine rd_args R hq ?_
    have hal := X.alen t q hq
    refine b_if (t_cmp (e_bi (es_cons (e_loc (v := .tup (ivs q.args)) rfl (es_nil ?_)))))
    refine o_some (evBi_lenT (by rw [ivs_len]; unfold lim; (first | lia | omega))) ?_
    refine e_lit ?_
    refine o_some (cmp_eq _ 0) ?_
    cases hz : q.args.isEmpty with
    | true =>
      rw [hz] at hop
      refine if_t (by rw [ivs_len, List.length_eq_zero_iff.mpr (List.isEmpty_iff.mp hz)]; rfl) ?_
      exact b_retn (h _ (H.same hop) Fra.refl)
    | false =>
      rw [hz] at hop
      have hop : isCall ts t = true := hop
      refine if_f (by
        rw [ivs_len]
        cases ha : q.args with
        | nil => rw [ha] at hz; cases hz
        | cons a r => rw [List.length_cons, beq_eq_false_iff_ne]; (first | lia | omega)) ?_
      refine b_asg ?_
      refine e_methA (m := k) (n := 3) rfl (shar_fld e rfl) R.cls (es_cons (e_loc (v := .int t) rfl (es_nil ?_)))
      refine rd_data R hq ?_
      refine call_in hlow H.len e ⟨H.heads, H.calls⟩ (by (first | lia | omega)) hop rfl (by rw [tm_of hq]; rfl) rfl fun σ2 C2 F2 s2 => ?_
      have R2 := R.fra F2 hk hlow
      have e2 : σ2[k]? = some (.inst .Sharing (sharFs k)) := F2.kept _ _ (fun z => by have := hlow _ z; (first | lia | omega)) (by (first | lia | omega)) (by (first | lia | omega)) (by (first | lia | omega)) e
      have S2 : ShAt σ2 k (sharedOf ts L) := let ⟨m, a, b⟩ := H.shared; ⟨m, s2.trans a, b⟩
      refine b_for ?_
      show evE _ _ _ _ _
      refine e_loc (v := .tup (ivs q.args)) rfl ?_
      refine o_some (itemsOf_tup (by rw [ivs_len]; (first | lia | omega))) ?_
      refine args_mark (d := d) R2 X hk e2 S2 (by (first | lia | omega)) rfl (fun a ha => X.arg hq ha) fun l3 σ3 hl3 h3 hlen3 S3 => ?_
      show evB _ _ _ _ _
      have e3 : σ3[k]? = some (.inst .Sharing (sharFs k)) := (h3 k (by (first | lia | omega))).trans e2
      have R3 : Rd σ3 ts := ⟨(h3 _ (by (first | lia | omega))).trans R2.bank, (h3 _ (by (first | lia | omega))).trans R2.wid, (h3 _ (by (first | lia | omega))).trans R2.ops, (h3 _ (by (first | lia | omega))).trans R2.args, (h3 _ (by (first | lia | omega))).trans R2.sorts, (h3 _ (by (first | lia | omega))).trans R2.datas, R.len⟩
      have fin : ∀ σ4 : Sto, (∀ n, n ≠ k + 2 → σ4[n]? = σ3[n]?) → σ4.length = σ3.length → ShAt σ4 k (sharedOf ts L ++ turnOf ts t) → Q .none σ4 := fun σ4 h4 hl4 S4 => by
        have h42 : ∀ n, n ≠ k + 2 → σ4[n]? = σ2[n]? := fun n hn => (h4 n hn).trans (h3 n hn)
        obtain ⟨m, c1, c2, c3, c4⟩ := C2.calls
        refine h σ4 ⟨(h42 k (by (first | lia | omega))).trans e2, (h42 _ (by (first | lia | omega))).trans (F2.kept _ _ (fun z => by have := hlow _ z; (first | lia | omega)) (by (first | lia | omega)) (by (first | lia | omega)) (by (first | lia | omega)) H.walked), by rw [shared_yes hop]; exact S4, (h42 _ (by (first | lia | omega))).trans C2.heads, ⟨m, (h42 _ (by (first | lia | omega))).trans c1, c2, fun x hx => ?_, c4⟩, hlow, ?_⟩ ⟨fun n o g1 g2 g3 g4 g5 => (h42 n g2).trans (F2.kept n o g1 g2 g3 g4 g5), ?_⟩
        · obtain ⟨r, a, b, c⟩ := c3 x hx
          have hr5 := hlow _ b
          exact ⟨r, a, b, (h42 r (by (first | lia | omega))).trans c⟩
        · have hf := (show Fra k P σ σ2 from F2).len; exact fun r hr => H.len r (by (first | lia | omega))
        · have := (show Fra k P σ σ2 from F2).len; (first | lia | omega)
      refine b_if ?_
      have hself : l3 .n_self = some (.ref k) := (hl3 _ (by decide)).trans rfl
      have hpart : l3 .n_part = some (.int t) := (hl3 _ (by decide)).trans rfl
      refine t_meth (n := k) hself (shar_cls e3) (es_cons (e_loc hpart (es_nil ?_)))
      refine has_shared_ok R3 X e3 hq (o_some rfl ?_)
      have ht : turnOf ts t = q.args.filter (isNum ts) ++ [t].filter (isNum ts) := by unfold turnOf; rw [tm_of hq, List.filter_append]
      have hfl := List.length_filter_le (isNum ts) q.args
      cases hn : isNum ts t with
      | true =>
        refine if_t rfl ?_
        refine mark_ok e3 S3 (by rw [List.length_append]; (first | lia | omega)) hself hpart fun m hm => ?_
        refine b_nil ?_
        refine fin _ (fun n hne => List.getElem?_set_ne (fun z => hne z.symm)) (List.length_set ..) ?_
        rw [ht, show [t].filter (isNum ts) = [t] by simp [hn], ← List.append_assoc]; exact hm
      | false =>
        refine if_f rfl ?_
        refine b_nil ?_
        refine fin _ (fun _ _ => rfl) rfl ?_
        rw [ht, show [t].filter (isNum ts) = [] by simp [hn], List.append_nil]; exact S3
  · refine if_t (by rw [decide_eq_false ho]; rfl) ?_
    rw [decide_eq_false ho, Bool.false_and] at hop
    exact b_retn (h _ (H.same hop) Fra.refl)
end
end Mine
namespace Mine
open PySem

section
variable {d : Nat} {σ : Sto} {ts : List TK} {t : Int} {q : TK} {Q : V → Sto → Prop} {k : Nat} {P : Nat → Prop} {L : List Int} {W : List (Int × V)}
theorem keys_sorted {a b : List Int} (ha : a.Nodup) (h : ∀ x, x ∈ a ↔ x ∈ b) : isort a = isort (dedup b) :=
  isort_perm (perm_of_sub ha (fun x hx => dedup_mem.mpr ((h x).mp hx)) (sub_len (dedup_nodup b) fun x hx => (h x).mpr (dedup_mem.mp hx)))
theorem isort_mem {l : List Int} {x : Int} : x ∈ isort l ↔ x ∈ l := (List.mergeSort_perm l _).mem_iff
theorem shared_terms_ok (H : Shar σ ts k P L W) (h64 : (sharedOf ts L).length < 64) (h : Q (.ref σ.length) (σ ++ [.lst (ivs (isort (dedup (sharedOf ts L))))])) : Sp (d + 1) .sh_shared_terms [.ref k] σ Q := by
  obtain ⟨m, hm, hn, hk⟩ := H.shared
  refine sp_go rfl ?_
  unfold Fn.body B.sh_shared_terms
  dsimp only
  refine b_ret (e_bi (es_cons (e_attr rfl (shar_fld H.inst rfl) (es_nil ?_))))
  have hl : m.length < 64 := by
    have := sub_len hn fun x hx => (hk x).mp hx
    rw [List.length_map] at this
    (first | lia | omega)
  refine o_some (evBi_sorted hm hl) ?_
  rw [keys_sorted hn hk]
  exact h
theorem is_shared_ok (H : Shar σ ts k P L W) (h : Q (.bool (decide (t ∈ sharedOf ts L))) σ) : Sp (d + 1) .sh_is_shared [.ref k, .int t] σ Q := by
  obtain ⟨m, hm, hn, hk⟩ := H.shared
  refine sp_go rfl ?_
  unfold Fn.body B.sh_is_shared
  dsimp only
  refine b_ret (e_cmp (e_loc (v := .int t) rfl (e_attr rfl (shar_fld H.inst rfl) ?_)))
  refine o_some (show evCmp σ .isin (.int t) (.ref (k + 2)) = some (decide (t ∈ m.map (fun x => x.1))) from amem_dI hm) ?_
  rw [decide_eq_decide.mpr (hk t)]
  exact h
end
end Mine
namespace Mine
open PySem

section
variable {d : Nat} {σ : Sto} {ts : List TK} {t : Int} {q : TK} {Q : V → Sto → Prop} {k : Nat} {P : Nat → Prop} {L : List Int} {W : List (Int × V)}
theorem Shar.ext {σ' : Sto} (H : Shar σ ts k P L W) (E : Ext σ σ') : Shar σ' ts k P L W where
  inst := E _ _ H.inst
  walked := E _ _ H.walked
  shared := let ⟨m, a, b⟩ := H.shared; ⟨m, E _ _ a, b⟩
  heads := E _ _ H.heads
  calls := by
    obtain ⟨m, a, b, c, f⟩ := H.calls
    refine ⟨m, E _ _ a, b, fun h hh => ?_, f⟩
    obtain ⟨r, g1, g2, g3⟩ := c h hh
    exact ⟨r, g1, g2, E _ _ g3⟩
  low := H.low
  len := fun r hr => H.len r (Nat.le_trans E.len hr)
theorem cmp_ne_bool (a b : Bool) : evCmp σ .ne (.bool a) (.bool b) = some (!(a == b)) := rfl
noncomputable def toldG : E := .comp (.bi Bi.list [(.idx (.attr (.loc Nm.n_sharing) Fd.f_calls) (.loc Nm.n_head))]) Nm.n_head (.attr (.loc Nm.n_sharing) Fd.f_heads) []
theorem toldG_ok {l : Locs} (H : Shar σ ts k P L W) (hl : L.length < 100) (h1 : l .n_sharing = some (.ref k))
    (h : ∀ (σ' : Sto) (rs : List Nat), Ext σ σ' → rs.length = (headsOf ts L).length → (∀ i (hi : i < (headsOf ts L).length), ∃ r, rs[i]? = some r ∧ σ'[r]? = some (AObj.lst (ivs (groupOf ts L (headsOf ts L)[i])))) → Q (.ref σ'.length) (σ' ++ [.lst (rs.map .ref)])) : evE (Sp d) toldG l σ Q := by
  have hHl : (headsOf ts L).length < 100 := Nat.lt_of_le_of_lt (heads_len ts L) hl
  obtain ⟨m, hm, hkeys, hc, hi⟩ := H.calls
  unfold toldG
  refine e_comp (e_attr h1 (shar_fld H.inst rfl) ?_)
  refine o_some (itemsOf_lst H.heads (by rw [ivs_len]; exact hHl)) ?_
  refine comp_inv (fun r acc σ' => ∃ (H1 H2 : List Int) (rs : List Nat), headsOf ts L = H1 ++ H2 ∧ r = ivs H2 ∧ acc = rs.map .ref ∧ Ext σ σ' ∧ rs.length = H1.length ∧ (∀ i (hi : i < H1.length), ∃ r, rs[i]? = some r ∧ σ'[r]? = some (AObj.lst (ivs (groupOf ts L H1[i]))))) (fun v r acc σ' K I hK => ?_) _ _ _ _ ⟨[], headsOf ts L, [], rfl, rfl, rfl, Ext.refl σ, rfl, fun i hi => absurd hi (Nat.not_lt_zero _)⟩ (fun acc σ' I => ?_)
  · obtain ⟨H1, H2, rs, hs, hr, rfl, E, hlen, hrs⟩ := I
    cases H2 with
    | nil => cases hr
    | cons h0 H2 =>
      obtain ⟨rfl, rfl⟩ : v = .int h0 ∧ r = ivs H2 := List.cons.inj hr
      obtain ⟨r0, g1, g2, g3⟩ := hc h0 (by rw [hs]; simp)
      have hgl : (groupOf ts L h0).length < 100 := by
        have a := List.length_filter_le (fun t' => (tm ts t').data == h0) (callsOf ts L)
        have b := List.length_filter_le (isCall ts) L
        unfold groupOf; unfold callsOf at a ⊢; (first | lia | omega)
      refine ifs_nil (if_t rfl ?_)
      refine e_bi (es_cons (e_idx (e_attr h1 (shar_fld (E _ _ H.inst) rfl) (e_loc (v := .int h0) rfl ?_))))
      refine o_some (getIdx_dI (E _ _ hm) g1) ?_
      refine es_nil ?_
      refine o_some (evBi_listL (E _ _ g3) (by rw [ivs_len]; unfold lim; (first | lia | omega))) ?_
      dsimp only
      have E1 := Ext.push σ' (.lst (ivs (groupOf ts L h0)))
      refine hK _ _ (lst_of ((E.trans E1) _ _ H.heads)) ⟨H1 ++ [h0], H2, rs ++ [σ'.length], by rw [hs, List.append_assoc]; rfl, rfl, by rw [List.map_append]; rfl, E.trans E1, by rw [List.length_append, List.length_append, hlen]; rfl, fun i hi => ?_⟩
      rcases Nat.lt_or_ge i H1.length with hlt | hge
      · obtain ⟨r, a, b⟩ := hrs i hlt
        refine ⟨r, by rw [List.getElem?_append_left (by (first | lia | omega))]; exact a, ?_⟩
        rw [List.getElem_append_left hlt]
        exact E1 _ _ b
      · have hi' : i = H1.length := by rw [List.length_append] at hi; have : [h0].length = 1 := rfl; (first | lia | omega)
        subst hi'
        refine ⟨σ'.length, by rw [← hlen]; simp, ?_⟩
        rw [show (H1 ++ [h0])[H1.length] = h0 by simp]
        exact push_last _ _
  · obtain ⟨H1, H2, rs, hs, hr, rfl, E, hlen, hrs⟩ := I
    cases H2 with
    | cons _ _ => cases hr
    | nil =>
      rw [List.append_nil] at hs
      subst hs
      exact h σ' rs E hlen hrs
end
end Mine
namespace Mine
open PySem

section
variable {d : Nat} {σ : Sto} {ts : List TK} {t : Int} {q : TK} {Q : V → Sto → Prop} {k : Nat} {P : Nat → Prop} {L : List Int} {W : List (Int × V)}
theorem ne_nil {a b : Nat} (h1 : σ[a]? = some (.lst [])) (h2 : σ[b]? = some (.lst [])) : evCmp σ .ne (.ref a) (.ref b) = some false := by
  have r : ∀ n, σ[n]? = some (.lst []) → rd 4 σ (.ref n) = some (.list []) := fun n h => rd_list (l := []) h
  exact (map_of (deq_rd (r a h1) (r b h2))).trans (by simp [PyData.eqv, PyData.eqvAll])
theorem told_ok (H : Shar σ ts k P L W) (hl : L.length < 100) (h64 : (sharedOf ts L).length < 64) {n : Nat} {T : List Int} (e : σ[n]? = some (.lst (ivs T))) (hT : T.length < 100)
    (h : ∀ σ' v, Ext σ σ' → rd 4 σ' v = some (dueOf ts L) → Q v σ') : Sp (d + 2) .law_told [.ref k, .ref n] σ Q := by
  refine sp_go rfl ?_
  unfold Fn.body B.law_told
  dsimp only
  refine b_asg (e_meth (n := k) rfl (shar_cls H.inst) (es_nil ?_))
  refine shared_terms_ok H h64 ?_
  have E1 := Ext.push σ (.lst (ivs (isort (dedup (sharedOf ts L)))))
  have h1 := push_last σ (.lst (ivs (isort (dedup (sharedOf ts L)))))
  generalize σ ++ [.lst (ivs (isort (dedup (sharedOf ts L))))] = σ1 at E1 h1 ⊢
  have H1 := H.ext E1
  refine b_if (t_cmp (e_comp (e_loc (v := .ref n) rfl ?_)))
  refine o_some (itemsOf_lst (E1 _ _ e) (by rw [ivs_len]; exact hT)) ?_
  refine sift_comp (g := some (n, ivs T)) (lst_of (E1 _ _ e)) (fun _ => false) rfl (fun t ht K hK => ?_) ?_
  · refine ifs_one (t_cmp ?_)
    refine e_meth (n := k) rfl (shar_cls H1.inst) (es_cons (e_loc (v := .int t) rfl (es_nil ?_)))
    refine is_shared_ok H1 ?_
    refine e_cmp (e_loc (v := .int t) rfl (e_loc (v := .ref σ.length) rfl ?_))
    refine o_some (show evCmp σ1 .isin (.int t) (.ref σ.length) = some (decide (t ∈ isort (dedup (sharedOf ts L)))) from amem_lst h1) ?_
    refine o_some (cmp_ne_bool _ _) ?_
    refine if_f ?_ hK
    rw [show decide (t ∈ isort (dedup (sharedOf ts L))) = decide (t ∈ sharedOf ts L) from decide_eq_decide.mpr (isort_mem.trans dedup_mem)]
    simp
  rw [show T.filter (fun _ => false) = [] from List.filter_eq_nil_iff.mpr fun _ _ z => by cases z]
  have E2 := Ext.push σ1 (.lst (ivs []))
  have h2 := push_last σ1 (.lst (ivs []))
  generalize σ1 ++ [.lst (ivs [])] = σ2 at E2 h2 ⊢
  refine e_list (es_nil ?_)
  have E3 := Ext.push σ2 (.lst [])
  have h3 := push_last σ2 (.lst [])
  generalize σ2 ++ [.lst []] = σ3 at E3 h3 ⊢
  refine o_some (ne_nil (E3 _ _ h2) h3) ?_
  refine if_f rfl ?_
  have E13 : Ext σ1 σ3 := E2.trans E3
  have H3 := H1.ext E13
  refine b_ret (e_tup (es_cons (e_loc (v := .ref σ.length) rfl (es_cons (e_bi (es_cons (e_attr (n := k) rfl (shar_fld H3.inst rfl) (es_nil ?_))))))))
  have hHl : (headsOf ts L).length < 100 := Nat.lt_of_le_of_lt (heads_len ts L) hl
  refine o_some (evBi_listL H3.heads (by rw [ivs_len]; unfold lim; (first | lia | omega))) ?_
  dsimp only
  have E4 := Ext.push σ3 (.lst (ivs (headsOf ts L)))
  have h4 := push_last σ3 (.lst (ivs (headsOf ts L)))
  generalize σ3 ++ [.lst (ivs (headsOf ts L))] = σ4 at E4 h4 ⊢
  refine es_cons ?_
  refine toldG_ok (d := d + 1) (H3.ext E4) hl rfl fun σ5 rs E5 hlen hrs => ?_
  refine es_nil ?_
  have E6 := Ext.push σ5 (.lst (rs.map .ref))
  refine h _ _ (E1.trans (E13.trans (E4.trans (E5.trans E6)))) ?_
  refine rd_trip (rs := rs) ((E13.trans (E4.trans (E5.trans E6))) _ _ h1) ((E5.trans E6) _ _ h4) (push_last _ _) (fun i hi => ?_) (by rw [hlen, List.length_map])
  rw [List.length_map] at hi
  obtain ⟨r, a, b⟩ := hrs i hi
  refine ⟨r, a, ?_⟩
  rw [List.getElem_map]
  exact E6 _ _ b
end
end Mine
namespace Mine
open PySem

/-! parts_of_all, as a plain function -/
noncomputable def argsOf (ts : List TK) (x : Int) : List Int := (tm ts x).args
noncomputable def dfs (ts : List TK) : Nat → List (Int × Bool) → List Int → List Int
  | 0, _, fnd => fnd
  | _ + 1, [], fnd => fnd
  | n + 1, (x, b) :: stk, fnd => if x ∈ fnd then dfs ts n stk fnd else if b then dfs ts n stk (fnd ++ [x]) else dfs ts n (((argsOf ts x).filter fun a => decide (a ∉ fnd)).map (fun a => (a, false)) ++ (x, true) :: stk) fnd
noncomputable def wgt : List (Int × Bool) → Nat
  | [] => 0
  | (x, b) :: r => (if b then 1 else 5 ^ (x.toNat + 1)) + wgt r
theorem wgt_app : ∀ (a b : List (Int × Bool)), wgt (a ++ b) = wgt a + wgt b
  | [], b => by simp [wgt]
  | (x, y) :: r, b => by
    rw [List.cons_append]
    simp only [wgt]
    rw [wgt_app r b]; (first | lia | omega)
theorem wgt_args {m : Nat} : ∀ {l : List Int}, (∀ a ∈ l, a.toNat < m) → wgt (l.map fun a => (a, false)) ≤ l.length * 5 ^ m
  | [], _ => Nat.zero_le _
  | a :: r, h => by
    rw [List.map_cons, List.length_cons]
    simp only [wgt, Bool.false_eq_true, if_false]
    have h1 := wgt_args (l := r) fun b hb => h b (List.mem_cons_of_mem _ hb)
    have h2 : 5 ^ (a.toNat + 1) ≤ 5 ^ m := Nat.pow_le_pow_right (by decide) (h a List.mem_cons_self)
    rw [Nat.add_mul, Nat.one_mul]
    (first | lia | omega)
theorem wgt_push {ts : List TK} (X : Wr ts) {x : Int} {q : TK} (hq : Tm ts x q) (fnd : List Int) (stk : List (Int × Bool)) :
    wgt (((argsOf ts x).filter fun a => decide (a ∉ fnd)).map (fun a => (a, false)) ++ (x, true) :: stk) < wgt ((x, false) :: stk) := by
  rw [wgt_app]
  simp only [wgt, if_true, Bool.false_eq_true, if_false]
  have ha : argsOf ts x = q.args := by unfold argsOf; rw [tm_of hq]
  have h1 := wgt_args (m := x.toNat) (l := (argsOf ts x).filter fun a => decide (a ∉ fnd)) fun a h => by
    have := X.args x q hq a (by rw [← ha]; exact (List.mem_filter.mp h).1)
    (first | lia | omega)
  have h2 : ((argsOf ts x).filter fun a => decide (a ∉ fnd)).length ≤ 3 := Nat.le_trans (List.length_filter_le _ _) (by rw [ha]; exact X.alen x q hq)
  have h3 : ((argsOf ts x).filter fun a => decide (a ∉ fnd)).length * 5 ^ x.toNat ≤ 3 * 5 ^ x.toNat := Nat.mul_le_mul_right _ h2
  have h4 : 5 ^ (x.toNat + 1) = 5 * 5 ^ x.toNat := by rw [Nat.pow_succ, Nat.mul_comm]
  have h5 : 0 < 5 ^ x.toNat := Nat.pow_pos (by decide)
  (first | lia | omega)

structure Dfs (ts : List TK) (C : Int → Prop) (root : Int) (stk : List (Int × Bool)) (fnd : List Int) : Prop where
  nodup : fnd.Nodup
  closed : ∀ x ∈ fnd, ∀ a ∈ argsOf ts x, a ∈ fnd
  inS : ∀ e ∈ stk, C e.1
  inF : ∀ x ∈ fnd, C x
  opened : ∀ (pre post : List (Int × Bool)) (x : Int), stk = pre ++ (x, true) :: post → ∀ a ∈ argsOf ts x, a ∈ fnd ∨ ∃ b, (a, b) ∈ pre
  root : root ∈ fnd ∨ ∃ b, (root, b) ∈ stk
  tms : ∀ e ∈ stk, ∃ q, Tm ts e.1 q
section
variable {ts : List TK} {C : Int → Prop} {root x : Int} {b : Bool} {stk : List (Int × Bool)} {fnd : List Int}
theorem wgt_pos : wgt stk < wgt ((x, b) :: stk) := by
  simp only [wgt]
  have : 0 < 5 ^ (x.toNat + 1) := Nat.pow_pos (by decide)
  split <;> (first | lia | omega)
theorem Dfs.skip (D : Dfs ts C root ((x, b) :: stk) fnd) (hx : x ∈ fnd) : Dfs ts C root stk fnd := by
  refine ⟨D.nodup, D.closed, fun e he => D.inS e (List.mem_cons_of_mem _ he), D.inF, fun pre post y hy a ha => ?_, ?_, fun e he => D.tms e (List.mem_cons_of_mem _ he)⟩
  · rcases D.opened ((x, b) :: pre) post y (by rw [hy]; rfl) a ha with z | ⟨c, z⟩
    · exact .inl z
    · rcases List.mem_cons.mp z with z | z
      · cases z; exact .inl hx
      · exact .inr ⟨c, z⟩
  · rcases D.root with z | ⟨c, z⟩
    · exact .inl z
    · rcases List.mem_cons.mp z with z | z
      · cases z; exact .inl hx
      · exact .inr ⟨c, z⟩
theorem Dfs.close (D : Dfs ts C root ((x, true) :: stk) fnd) (hx : x ∉ fnd) : Dfs ts C root stk (fnd ++ [x]) := by
  have hargs : ∀ a ∈ argsOf ts x, a ∈ fnd := fun a ha => by
    rcases D.opened [] stk x rfl a ha with z | ⟨c, z⟩
    · exact z
    · cases z
  refine ⟨?_, ?_, fun e he => D.inS e (List.mem_cons_of_mem _ he), ?_, fun pre post y hy a ha => ?_, ?_, fun e he => D.tms e (List.mem_cons_of_mem _ he)⟩
  · rw [List.nodup_append]
    exact ⟨D.nodup, by simp, fun a ha c hc e => hx (by rw [List.mem_singleton] at hc; rw [← hc, ← e]; exact ha)⟩
  · intro y hy a ha
    rcases List.mem_append.mp hy with hy | hy
    · exact List.mem_append_left _ (D.closed y hy a ha)
    · rw [List.mem_singleton.mp hy] at ha
      exact List.mem_append_left _ (hargs a ha)
  · intro y hy
    rcases List.mem_append.mp hy with hy | hy
    · exact D.inF y hy
    · rw [List.mem_singleton.mp hy]; exact D.inS (x, true) List.mem_cons_self
  · rcases D.opened ((x, true) :: pre) post y (by rw [hy]; rfl) a ha with z | ⟨c, z⟩
    · exact .inl (List.mem_append_left _ z)
    · rcases List.mem_cons.mp z with z | z
      · cases z; exact .inl (List.mem_append_right _ List.mem_cons_self)
      · exact .inr ⟨c, z⟩
  · rcases D.root with z | ⟨c, z⟩
    · exact .inl (List.mem_append_left _ z)
    · rcases List.mem_cons.mp z with z | z
      · cases z; exact .inl (List.mem_append_right _ List.mem_cons_self)
      · exact .inr ⟨c, z⟩
/-- what is pushed for x -/
noncomputable def pushed (ts : List TK) (fnd : List Int) (x : Int) : List (Int × Bool) := ((argsOf ts x).filter fun a => decide (a ∉ fnd)).map fun a => (a, false)
theorem Dfs.push (X : Wr ts) (hC : ∀ x, C x → ∀ a ∈ argsOf ts x, C a) (D : Dfs ts C root ((x, false) :: stk) fnd) : Dfs ts C root (pushed ts fnd x ++ (x, true) :: stk) fnd := by
  obtain ⟨q, hq⟩ := D.tms (x, false) List.mem_cons_self
  have hq : Tm ts x q := hq
  have hpush : ∀ a ∈ argsOf ts x, a ∈ fnd ∨ (a, false) ∈ pushed ts fnd x := fun a ha => by
    by_cases z : a ∈ fnd
    · exact .inl z
    · exact .inr (List.mem_map.mpr ⟨a, List.mem_filter.mpr ⟨ha, by simpa using z⟩, rfl⟩)
  refine ⟨D.nodup, D.closed, ?_, D.inF, ?_, ?_, ?_⟩
  · intro e he
    rcases List.mem_append.mp he with he | he
    · obtain ⟨a, ha, rfl⟩ := List.mem_map.mp he
      exact hC x (D.inS (x, false) List.mem_cons_self) a (List.mem_filter.mp ha).1
    · rcases List.mem_cons.mp he with he | he
      · rw [he]; exact D.inS (x, false) List.mem_cons_self
      · exact D.inS e (List.mem_cons_of_mem _ he)
  · intro pre post y hy a ha
    rcases List.append_eq_append_iff.mp hy with ⟨c, h1, h2⟩ | ⟨c, h1, h2⟩
    · cases c with
      | nil =>
        obtain ⟨h3, _⟩ := List.cons.inj h2
        cases h3
        rw [List.append_nil] at h1
        rcases hpush a ha with z | z
        · exact .inl z
        · exact .inr ⟨false, h1 ▸ z⟩
      | cons e c =>
        obtain ⟨h3, h4⟩ := List.cons.inj h2
        rcases D.opened ((x, false) :: c) post y (by rw [h4]; rfl) a ha with z | ⟨b, z⟩
        · exact .inl z
        · rcases List.mem_cons.mp z with z | z
          · cases z; exact .inr ⟨true, by rw [h1, ← h3]; exact List.mem_append_right _ List.mem_cons_self⟩
          · exact .inr ⟨b, by rw [h1]; exact List.mem_append_right _ (List.mem_cons_of_mem _ z)⟩
    · cases c with
      | nil =>
        obtain ⟨h3, _⟩ := List.cons.inj h2
        cases h3
        rw [List.append_nil] at h1
        rcases hpush a ha with z | z
        · exact .inl z
        · exact .inr ⟨false, h1 ▸ z⟩
      | cons e c =>
        obtain ⟨h3, h4⟩ := List.cons.inj h2
        have : (y, true) ∈ pushed ts fnd x := by
          rw [h1, h3]; exact List.mem_append_right _ List.mem_cons_self
        obtain ⟨w, _, z⟩ := List.mem_map.mp this
        cases z
  · rcases D.root with z | ⟨c, z⟩
    · exact .inl z
    · rcases List.mem_cons.mp z with z | z
      · cases z; exact .inr ⟨true, List.mem_append_right _ List.mem_cons_self⟩
      · exact .inr ⟨c, List.mem_append_right _ (List.mem_cons_of_mem _ z)⟩
  · intro e he
    rcases List.mem_append.mp he with he | he
    · obtain ⟨a, ha, rfl⟩ := List.mem_map.mp he
      have := (List.mem_filter.mp ha).1
      unfold argsOf at this
      rw [tm_of hq] at this
      exact X.arg hq this
    · rcases List.mem_cons.mp he with he | he
      · rw [he]; exact ⟨q, hq⟩
      · exact D.tms e (List.mem_cons_of_mem _ he)

/-- the stack is low -/
noncomputable def Low (N : Nat) : List (Int × Bool) → Prop
  | [] => True
  | e :: r => r.length + 4 * e.1.toNat ≤ 4 * N ∧ Low N r
theorem Low.len {N : Nat} : ∀ {stk : List (Int × Bool)}, Low N stk → stk.length ≤ 4 * N + 1
  | [], _ => Nat.zero_le _
  | e :: r, h => by have := h.1; rw [List.length_cons]; (first | lia | omega)
theorem Low.args {N : Nat} {base : List (Int × Bool)} (hb : Low N base) {m : Nat} : ∀ {l : List Int}, (∀ a ∈ l, a.toNat + 1 ≤ m) → base.length + l.length + 4 * m ≤ 4 * N + 4 → Low N (l.map (fun a => (a, false)) ++ base)
  | [], _, _ => hb
  | a :: r, h3, h4 => by
    rw [List.length_cons] at h4
    refine ⟨?_, Low.args hb (fun c hc => h3 c (List.mem_cons_of_mem _ hc)) (by (first | lia | omega))⟩
    have := h3 a List.mem_cons_self
    show (r.map (fun a => (a, false)) ++ base).length + 4 * a.toNat ≤ _
    rw [List.length_append, List.length_map]
    (first | lia | omega)
theorem Low.push (X : Wr ts) {N : Nat} {q : TK} (hq : Tm ts x q) (h : Low N ((x, false) :: stk)) : Low N (pushed ts fnd x ++ (x, true) :: stk) := by
  have ha : argsOf ts x = q.args := by unfold argsOf; rw [tm_of hq]
  have h1 : stk.length + 4 * x.toNat ≤ 4 * N := h.1
  have h2 : ((argsOf ts x).filter fun a => decide (a ∉ fnd)).length ≤ 3 := Nat.le_trans (List.length_filter_le _ _) (by rw [ha]; exact X.alen x q hq)
  have h3 : ∀ a ∈ (argsOf ts x).filter (fun a => decide (a ∉ fnd)), a.toNat + 1 ≤ x.toNat := fun a h => by
    have := X.args x q hq a (by rw [← ha]; exact (List.mem_filter.mp h).1)
    (first | lia | omega)
  exact Low.args (m := x.toNat) (base := (x, true) :: stk) ⟨h1, h.2⟩ h3 (by rw [List.length_cons]; (first | lia | omega))
end
theorem dfs_ok {ts : List TK} (X : Wr ts) {C : Int → Prop} (hC : ∀ x, C x → ∀ a ∈ argsOf ts x, C a) {root : Int} : ∀ (n : Nat) (stk : List (Int × Bool)) (fnd : List Int), wgt stk < n → Dfs ts C root stk fnd → Dfs ts C root [] (dfs ts n stk fnd)
  | 0, _, _, h, _ => absurd h (Nat.not_lt_zero _)
  | n + 1, [], fnd, _, D => by unfold dfs; exact D
  | n + 1, (x, b) :: stk, fnd, h, D => by
    have hpos : wgt stk < wgt ((x, b) :: stk) := wgt_pos
    unfold dfs
    by_cases hx : x ∈ fnd
    · rw [if_pos hx]
      exact dfs_ok X hC n stk fnd (by (first | lia | omega)) (D.skip hx)
    · rw [if_neg hx]
      cases b with
      | true =>
        rw [if_pos rfl]
        exact dfs_ok X hC n stk (fnd ++ [x]) (by (first | lia | omega)) (D.close hx)
      | false =>
        rw [if_neg Bool.false_ne_true]
        obtain ⟨q, hq⟩ := D.tms (x, false) List.mem_cons_self
        have hq : Tm ts x q := hq
        have hw := wgt_push X hq fnd stk
        exact dfs_ok X hC n _ fnd (by (first | lia | omega)) (D.push X hC)
noncomputable def partsOf (ts : List TK) (t : Int) : List Int := dfs ts (5 ^ (t.toNat + 1) + 1) [(t, false)] []
theorem wgt_one (t : Int) : wgt [(t, false)] < 5 ^ (t.toNat + 1) + 1 := by simp only [wgt, Bool.false_eq_true, if_false]; (first | lia | omega)
theorem dfs0 {ts : List TK} {C : Int → Prop} {t : Int} {q : TK} (hq : Tm ts t q) (ht : C t) : Dfs ts C t [(t, false)] [] where
  nodup := List.nodup_nil
  closed := fun x h => by cases h
  inS := fun e he => by rw [List.mem_singleton.mp he]; exact ht
  inF := fun x h => by cases h
  opened := fun pre post x hy => by
    cases pre with
    | nil => cases hy
    | cons e r => obtain ⟨_, h⟩ := List.cons.inj hy; cases r <;> cases h
  root := .inr ⟨false, List.mem_cons_self⟩
  tms := fun e he => by rw [List.mem_singleton.mp he]; exact ⟨q, hq⟩
theorem parts_dfs {ts : List TK} (X : Wr ts) {C : Int → Prop} (hC : ∀ x, C x → ∀ a ∈ argsOf ts x, C a) {t : Int} {q : TK} (hq : Tm ts t q) (ht : C t) : Dfs ts C t [] (partsOf ts t) :=
  dfs_ok X hC _ _ _ (wgt_one t) (dfs0 hq ht)
section
variable {ts : List TK} {t : Int} {q : TK}
theorem parts_nodup (X : Wr ts) (hq : Tm ts t q) : (partsOf ts t).Nodup := (parts_dfs X (C := fun _ => True) (fun _ _ _ _ => trivial) hq trivial).nodup
theorem parts_closed (X : Wr ts) (hq : Tm ts t q) : ∀ x ∈ partsOf ts t, ∀ a ∈ argsOf ts x, a ∈ partsOf ts t := (parts_dfs X (C := fun _ => True) (fun _ _ _ _ => trivial) hq trivial).closed
theorem parts_self (X : Wr ts) (hq : Tm ts t q) : t ∈ partsOf ts t := by
  rcases (parts_dfs X (C := fun _ => True) (fun _ _ _ _ => trivial) hq trivial).root with z | ⟨b, z⟩
  · exact z
  · cases z
theorem parts_sub (X : Wr ts) (hq : Tm ts t q) {L : List Int} (hL : ∀ x ∈ L, ∀ a ∈ argsOf ts x, a ∈ L) (ht : t ∈ L) : ∀ x ∈ partsOf ts t, x ∈ L := (parts_dfs X (C := fun x => x ∈ L) hL hq ht).inF
theorem tm_args (X : Wr ts) : ∀ x, (∃ q, Tm ts x q) → ∀ a ∈ argsOf ts x, ∃ q, Tm ts a q := fun x ⟨q, hq⟩ a ha => by
  unfold argsOf at ha; rw [tm_of hq] at ha; exact X.arg hq ha
theorem parts_tm (X : Wr ts) (hq : Tm ts t q) : ∀ x ∈ partsOf ts t, ∃ q, Tm ts x q := (parts_dfs X (C := fun x => ∃ q, Tm ts x q) (tm_args X) hq ⟨q, hq⟩).inF
theorem tms_len {l : List Int} (hn : l.Nodup) (h : ∀ x ∈ l, ∃ q, Tm ts x q) : l.length ≤ ts.length := by
  have := sub_len (K := (List.range ts.length).map fun (i : Nat) => (i : Int)) hn fun x hx => by
    obtain ⟨q, hq⟩ := h x hx
    have h1 := hq.1
    have h2 := hq.lt
    exact List.mem_map.mpr ⟨x.toNat, List.mem_range.mpr (by (first | lia | omega)), by (first | lia | omega)⟩
  rwa [List.length_map, List.length_range] at this
end
end Mine
namespace Mine
open PySem

/-! parts_of_all walks as dfs says -/
noncomputable def ent (e : Int × Bool) : V := .tup [.int e.1, .bool e.2]
noncomputable def stkV (stk : List (Int × Bool)) : List V := (stk.map ent).reverse
theorem stkV_len (stk : List (Int × Bool)) : (stkV stk).length = stk.length := by unfold stkV; rw [List.length_reverse, List.length_map]
theorem stkV_cons (e : Int × Bool) (stk : List (Int × Bool)) : stkV (e :: stk) = stkV stk ++ [ent e] := by unfold stkV; rw [List.map_cons, List.reverse_cons]
theorem stkV_app (a b : List (Int × Bool)) : stkV (a ++ b) = stkV b ++ stkV a := by unfold stkV; rw [List.map_append, List.reverse_append]
noncomputable def pushB : List Stm := [.ite (.cmp Cop.notin (.loc Nm.n_part) (.loc Nm.n_done)) [
          .expr (.lm Lm.append (.loc Nm.n_stack) [(.tup [(.loc Nm.n_part), (.lit (.bool false))])])] []]
noncomputable def dfsB : List Stm := [
      .asgT [Nm.n_t, Nm.n_is_open] (.lm Lm.pop (.loc Nm.n_stack) []),
      .ite (.cmp Cop.isin (.loc Nm.n_t) (.loc Nm.n_done)) [
        .cont] [],
      .ite (.loc Nm.n_is_open) [
        .seti (.loc Nm.n_done) (.loc Nm.n_t) (.lit (.bool true)),
        .expr (.lm Lm.append (.loc Nm.n_found) [(.loc Nm.n_t)]),
        .cont] [],
      .expr (.lm Lm.append (.loc Nm.n_stack) [(.tup [(.loc Nm.n_t), (.lit (.bool true))])]),
      .for (.nm Nm.n_part) (.rev (.idx (.attr (.loc Nm.n_self) Fd.f_term_args) (.loc Nm.n_t))) pushB]
noncomputable def dfsC : E := .cmp Cop.gt (.bi Bi.len [(.loc Nm.n_stack)]) (.lit (.int 0))
noncomputable def rootB : List Stm := [.asg Nm.n_stack (.list [(.tup [(.loc Nm.n_root), (.lit (.bool false))])]), .while dfsC dfsB]
theorem parts_shape : B.bk_parts_of_all = [
  .asgT [Nm.n_found, Nm.n_done] (.tup [(.list []), (.dict DK.i [] [])]),
  .for (.nm Nm.n_root) (.e (.loc Nm.n_some)) rootB,
  .ret (.loc Nm.n_found)] := rfl

section
variable {d : Nat} {σ : Sto} {ts : List TK} {t : Int} {q : TK} {Q : V → Sto → Prop}
theorem evLm_pop {n : Nat} {xs : List V} {v : V} (e : σ[n]? = some (.lst (xs ++ [v]))) (h : (xs ++ [v]).length ≤ 2 * lim) : evLm σ .pop (.ref n) [] = some (v, σ.set n (.lst xs)) := by
  have e2 : popV σ n (xs ++ [v]) [] = some (v, σ.set n (.lst xs)) := (bnd_of List.getLast?_concat).trans ((gd_of h).trans (by rw [List.dropLast_concat]))
  exact (bnd_of (lst_of e)).trans e2
theorem push_loop {A fnd : List Int} {xs : List V} {m : List (Int × V)} {s dn : Nat} {l : Locs} {K : Fl → Locs → Sto → Prop} (hsd : dn ≠ s) (h1 : l .n_done = some (.ref dn)) (h2 : l .n_stack = some (.ref s)) (e : σ[s]? = some (.lst xs)) (em : σ[dn]? = some (.dI m)) (hm : m.map (·.1) = fnd) (hl : xs.length + A.length < 1500)
    (h : ∀ l' σ', (∀ x, x ≠ .n_part → l' x = l x) → (∀ n, n ≠ s → σ'[n]? = σ[n]?) → σ'.length = σ.length → σ'[s]? = some (.lst (xs ++ (A.filter fun a => decide (a ∉ fnd)).map fun a => ent (a, false))) → K .next l' σ') :
    goFor (fun v l σ k => opt (bindT (.nm .n_part) v l) fun l => evB (Sp d) pushB l σ k) none (ivs A) l σ K := by
  refine for_inv (fun r l' σ' => ∃ A1 A2, A = A1 ++ A2 ∧ r = ivs A2 ∧ (∀ x, x ≠ .n_part → l' x = l x) ∧ (∀ n, n ≠ s → σ'[n]? = σ[n]?) ∧ σ'.length = σ.length ∧ σ'[s]? = some (.lst (xs ++ (A1.filter fun a => decide (a ∉ fnd)).map fun a => ent (a, false)))) (fun v r l' σ' K I hK => ?_) _ _ _ _ ⟨[], A, rfl, rfl, fun _ _ => rfl, fun _ _ => rfl, rfl, by simpa using e⟩ (fun l' σ' I => ?_)
  · obtain ⟨A1, A2, hsp, hr, hl', hσ, hlen, hs⟩ := I
    cases A2 with
    | nil => cases hr
    | cons a A2 =>
      obtain ⟨rfl, rfl⟩ : v = .int a ∧ r = ivs A2 := List.cons.inj hr
      have hAl : A.length = A1.length + (A2.length + 1) := by rw [hsp, List.length_append]; rfl
      have hx : ∀ x, x ≠ .n_part → upd l' .n_part (.int a) x = l x := fun x hx => by
        show (if x = Nm.n_part then _ else l' x) = _
        rw [if_neg hx]; exact hl' x hx
      refine o_some rfl ?_
      unfold pushB
      refine b_if (t_cmp (e_loc (v := .int a) rfl (e_loc ((hx .n_done (by decide)).trans h1) ?_)))
      refine o_some (a := !decide (a ∈ fnd)) (by unfold evCmp; dsimp only; rw [amem_dI ((hσ dn hsd).trans em), hm]; rfl) ?_
      by_cases hf : a ∈ fnd
      · refine if_f (by rw [decide_eq_true hf]; rfl) ?_
        refine b_nil ?_
        refine (hK _ _ trivial ⟨A1 ++ [a], A2, by rw [hsp, List.append_assoc]; rfl, rfl, hx, hσ, hlen, ?_⟩).1
        rw [List.filter_append, show [a].filter (fun a => decide (a ∉ fnd)) = [] by simp [hf], List.append_nil]; exact hs
      · refine if_t (by rw [decide_eq_false hf]; rfl) ?_
        refine b_expr (e_lm (e_loc ((hx .n_stack (by decide)).trans h2) ?_))
        refine o_if (lmOk_lst (by intro z; cases z) hs) ?_
        refine es_cons (e_tup (es_cons (e_loc (v := .int a) rfl (es_cons (e_lit (es_nil (es_nil ?_)))))))
        have hfl := List.length_filter_le (fun a => decide (a ∉ fnd)) A1
        refine o_some (evLm_append hs (by rw [List.length_append, List.length_map]; unfold lim; (first | lia | omega))) ?_
        dsimp only
        refine b_nil ?_
        refine (hK _ _ trivial ⟨A1 ++ [a], A2, by rw [hsp, List.append_assoc]; rfl, rfl, hx, fun n hn => ?_, by rw [List.length_set]; exact hlen, ?_⟩).1
        · rw [List.getElem?_set_ne (fun z => hn z.symm)]; exact hσ n hn
        · rw [List.getElem?_set_self (List.getElem?_eq_some_iff.mp hs).1, List.filter_append, show [a].filter (fun a => decide (a ∉ fnd)) = [a] by simp [hf], List.map_append, ← List.append_assoc]; rfl
  · obtain ⟨A1, A2, hsp, hr, hl', hσ, hlen, hs⟩ := I
    cases A2 with
    | cons _ _ => cases hr
    | nil =>
      rw [List.append_nil] at hsp
      subst hsp
      exact h l' σ' hl' hσ hlen hs

structure Dst (σ0 σ : Sto) (f : Nat) (stk : List (Int × Bool)) (fnd : List Int) : Prop where
  ext : Ext σ0 σ
  fd : σ[f]? = some (.lst (ivs fnd))
  dn : ∃ m, σ[f + 1]? = some (.dI m) ∧ m.map (·.1) = fnd
  st : σ[f + 2]? = some (.lst (stkV stk))
structure DL (f : Nat) (l : Locs) : Prop where
  self : l .n_self = some (.ref 3)
  found : l .n_found = some (.ref f)
  done : l .n_done = some (.ref (f + 1))
  stack : l .n_stack = some (.ref (f + 2))
theorem rev_push (A fnd : List Int) : (A.reverse.filter fun a => decide (a ∉ fnd)).map (fun a => ent (a, false)) = stkV ((A.filter fun a => decide (a ∉ fnd)).map fun a => (a, false)) := by
  unfold stkV
  rw [List.map_map, List.filter_reverse, List.map_reverse]; rfl
theorem while_parts {σ0 : Sto} {f : Nat} {root : Int} (R : Rd σ0 ts) (X : Wr ts) (hf : σ0.length ≤ f) : ∀ (n : Nat) (stk : List (Int × Bool)) (fnd : List Int) (l : Locs) (σ : Sto) (K : Fl → Locs → Sto → Prop), wgt stk < n → Dfs ts (fun x => ∃ q, Tm ts x q) root stk fnd → Low ts.length stk → Dst σ0 σ f stk fnd → DL f l →
    (∀ l' σ', DL f l' → Ext σ0 σ' → σ'[f]? = some (.lst (ivs (dfs ts n stk fnd))) → K .next l' σ') →
    goWhile (fun l σ k => evT (Sp d) dfsC l σ k) (fun l σ k => evB (Sp d) dfsB l σ k) n l σ K
  | 0, _, _, _, _, _, hw, _, _, _, _, _ => absurd hw (Nat.not_lt_zero _)
  | n + 1, stk, fnd, l, σ, K, hw, D, hlow, T, L, h => by
    have hN := R.len
    have hsl := hlow.len
    have hfl : fnd.length ≤ ts.length := tms_len D.nodup D.inF
    obtain ⟨m, hm, hmk⟩ := T.dn
    have hml : m.length = fnd.length := by rw [← hmk, List.length_map]
    show evT (Sp d) dfsC l σ _
    unfold dfsC
    refine t_cmp (e_bi (es_cons (e_loc L.stack (es_nil ?_))))
    refine o_some (evBi_len T.st (by rw [stkV_len]; unfold lim; (first | lia | omega))) ?_
    refine e_lit ?_
    refine o_some (a := decide (((stkV stk).length : Int) > 0)) rfl ?_
    cases stk with
    | nil =>
      refine if_f (by rw [stkV_len]; rfl) ?_
      exact h l σ L T.ext (by unfold dfs; exact T.fd)
    | cons e stk =>
      obtain ⟨x, b⟩ := e
      refine if_t (by rw [stkV_len, List.length_cons]; exact decide_eq_true (by (first | lia | omega))) ?_
      have hsl' : stk.length + 1 ≤ 4 * ts.length + 1 := hsl
      have hpos : wgt stk < wgt ((x, b) :: stk) := wgt_pos
      have hst := T.st
      rw [stkV_cons] at hst
      show evB (Sp d) dfsB l σ _
      unfold dfsB
      refine b_asgT (e_lm (e_loc L.stack ?_))
      refine o_if (lmOk_lst (by intro z; cases z) hst) ?_
      refine es_nil ?_
      refine o_some (evLm_pop hst (by rw [List.length_append, stkV_len]; have : [ent (x, b)].length = 1 := rfl; unfold lim; (first | lia | omega))) ?_
      refine o_some (a := [.int x, .bool b]) rfl ?_
      refine o_some (a := upd (upd l .n_t (.int x)) .n_is_open (.bool b)) rfl ?_
      dsimp only
      have E1 : Ext σ0 (σ.set (f + 2) (.lst (stkV stk))) := T.ext.set (by (first | lia | omega)) _
      have f1 : (σ.set (f + 2) (.lst (stkV stk)))[f]? = some (.lst (ivs fnd)) := by rw [List.getElem?_set_ne (by (first | lia | omega))]; exact T.fd
      have d1 : (σ.set (f + 2) (.lst (stkV stk)))[f + 1]? = some (.dI m) := by rw [List.getElem?_set_ne (by (first | lia | omega))]; exact hm
      have s1 : (σ.set (f + 2) (.lst (stkV stk)))[f + 2]? = some (.lst (stkV stk)) := List.getElem?_set_self (List.getElem?_eq_some_iff.mp hst).1
      generalize σ.set (f + 2) (.lst (stkV stk)) = σ1 at E1 f1 d1 s1 ⊢
      have L1 : DL f (upd (upd l .n_t (.int x)) .n_is_open (.bool b)) := ⟨L.self, L.found, L.done, L.stack⟩
      refine b_if (t_cmp (e_loc (v := .int x) rfl (e_loc L1.done ?_)))
      refine o_some (show evCmp σ1 .isin (.int x) (.ref (f + 1)) = some (decide (x ∈ m.map (·.1))) from amem_dI d1) ?_
      rw [hmk]
      by_cases hx : x ∈ fnd
      · refine if_t (decide_eq_true hx) ?_
        refine b_cont ?_
        refine while_parts R X hf n stk fnd _ σ1 K (by (first | lia | omega)) (D.skip hx) hlow.2 ⟨E1, f1, ⟨m, d1, hmk⟩, s1⟩ L1 fun l' σ' L' E' e' => h l' σ' L' E' ?_
        unfold dfs; rw [if_pos hx]; exact e'
      · refine if_f (decide_eq_false hx) ?_
        refine b_if (t_loc (b := b) rfl ?_)
        cases b with
        | true =>
          refine if_t rfl ?_
          refine b_seti (e_lit (e_loc L1.done (e_loc (v := .int x) rfl ?_)))
          have hset : setIdx σ1 (.ref (f + 1)) (.int x) (.bool true) = some (σ1.set (f + 1) (.dI (aset m x (.bool true)))) := setIdx_dI d1 (by unfold lim; (first | lia | omega))
          refine o_some hset ?_
          have E2 : Ext σ0 (σ1.set (f + 1) (.dI (aset m x (.bool true)))) := E1.set (by (first | lia | omega)) _
          have f2 : (σ1.set (f + 1) (.dI (aset m x (.bool true))))[f]? = some (.lst (ivs fnd)) := by rw [List.getElem?_set_ne (by (first | lia | omega))]; exact f1
          have d2 : (σ1.set (f + 1) (.dI (aset m x (.bool true))))[f + 1]? = some (.dI (aset m x (.bool true))) := List.getElem?_set_self (List.getElem?_eq_some_iff.mp d1).1
          have s2 : (σ1.set (f + 1) (.dI (aset m x (.bool true))))[f + 2]? = some (.lst (stkV stk)) := by rw [List.getElem?_set_ne (by (first | lia | omega))]; exact s1
          generalize σ1.set (f + 1) (.dI (aset m x (.bool true))) = σ2 at E2 f2 d2 s2 ⊢
          refine b_expr (e_lm (e_loc L1.found ?_))
          refine o_if (lmOk_lst (by intro z; cases z) f2) ?_
          refine es_cons (e_loc (v := .int x) rfl (es_nil ?_))
          refine o_some (evLm_append f2 (by rw [ivs_len]; unfold lim; (first | lia | omega))) ?_
          dsimp only
          refine b_cont ?_
          refine while_parts R X hf n stk (fnd ++ [x]) _ (σ2.set f (.lst (ivs fnd ++ [.int x]))) K (by (first | lia | omega)) (D.close hx) hlow.2 ⟨E2.set hf _, ?_, ⟨_, by rw [List.getElem?_set_ne (by (first | lia | omega))]; exact d2, ?_⟩, by rw [List.getElem?_set_ne (by (first | lia | omega))]; exact s2⟩ L1 fun l' σ' L' E' e' => h l' σ' L' E' ?_
          · rw [List.getElem?_set_self (List.getElem?_eq_some_iff.mp f2).1, ivs_app]; rfl
          · rw [aset_keys, hmk, if_neg hx]
          · unfold dfs; rw [if_neg hx, if_pos rfl]; exact e'
        | false =>
          refine if_f rfl ?_
          obtain ⟨q, hq⟩ := D.tms (x, false) List.mem_cons_self
          have hq : Tm ts x q := hq
          have ha : argsOf ts x = q.args := by unfold argsOf; rw [tm_of hq]
          have hal := X.alen x q hq
          refine b_expr (e_lm (e_loc L1.stack ?_))
          refine o_if (lmOk_lst (by intro z; cases z) s1) ?_
          refine es_cons (e_tup (es_cons (e_loc (v := .int x) rfl (es_cons (e_lit (es_nil (es_nil ?_)))))))
          refine o_some (evLm_append s1 (by rw [stkV_len]; unfold lim; (first | lia | omega))) ?_
          dsimp only
          have E2 : Ext σ0 (σ1.set (f + 2) (.lst (stkV stk ++ [.tup [.int x, .bool true]]))) := E1.set (by (first | lia | omega)) _
          have f2 : (σ1.set (f + 2) (.lst (stkV stk ++ [.tup [.int x, .bool true]])))[f]? = some (.lst (ivs fnd)) := by rw [List.getElem?_set_ne (by (first | lia | omega))]; exact f1
          have d2 : (σ1.set (f + 2) (.lst (stkV stk ++ [.tup [.int x, .bool true]])))[f + 1]? = some (.dI m) := by rw [List.getElem?_set_ne (by (first | lia | omega))]; exact d1
          have s2 : (σ1.set (f + 2) (.lst (stkV stk ++ [.tup [.int x, .bool true]])))[f + 2]? = some (.lst (stkV stk ++ [.tup [.int x, .bool true]])) := List.getElem?_set_self (List.getElem?_eq_some_iff.mp s1).1
          have l2 : (σ1.set (f + 2) (.lst (stkV stk ++ [.tup [.int x, .bool true]]))).length = σ1.length := List.length_set ..
          change evB (Sp d) _ _ (σ1.set (f + 2) (.lst (stkV stk ++ [.tup [.int x, .bool true]]))) _
          generalize σ1.set (f + 2) (.lst (stkV stk ++ [.tup [.int x, .bool true]])) = σ2 at E2 f2 d2 s2 l2 ⊢
          have R2 := R.ext E2
          refine b_for ?_
          show evE _ _ _ _ _
          refine e_idx (e_attr L1.self (R2.fld rfl) (e_loc (v := .int x) rfl ?_))
          refine o_some (R2.idx R2.args hq) ?_
          show (if (ivs q.args).length < 2000 then _ else False)
          rw [if_pos (by rw [ivs_len]; (first | lia | omega)), show (ivs q.args).reverse = ivs q.args.reverse from (List.map_reverse).symm]
          refine push_loop (d := d) (A := q.args.reverse) (fnd := fnd) (s := f + 2) (dn := f + 1) (by (first | lia | omega)) L1.done L1.stack s2 d2 hmk (by rw [List.length_append, stkV_len, List.length_reverse]; have : ([.tup [.int x, .bool true]] : List V).length = 1 := rfl; (first | lia | omega)) fun l3 σ3 hl3 h3 hlen3 s3 => ?_
          rw [rev_push, ← ha] at s3
          show evB _ _ _ _ _
          refine b_nil ?_
          have L3 : DL f l3 := ⟨(hl3 _ (by decide)).trans L1.self, (hl3 _ (by decide)).trans L1.found, (hl3 _ (by decide)).trans L1.done, (hl3 _ (by decide)).trans L1.stack⟩
          have hw2 := wgt_push X hq fnd stk
          refine while_parts R X hf n (pushed ts fnd x ++ (x, true) :: stk) fnd l3 σ3 K (by unfold pushed; (first | lia | omega)) (D.push X (tm_args X)) (Low.push X hq hlow) ⟨fun n o e => ?_, (h3 _ (by (first | lia | omega))).trans f2, ⟨m, (h3 _ (by (first | lia | omega))).trans d2, hmk⟩, ?_⟩ L3 fun l' σ' L' E' e' => h l' σ' L' E' ?_
          · have := (List.getElem?_eq_some_iff.mp e).1
            exact (h3 n (by (first | lia | omega))).trans (E2 n o e)
          · rw [s3, stkV_app, stkV_cons]; rfl
          · unfold dfs; rw [if_neg hx, if_neg Bool.false_ne_true]; exact e'

theorem parts_ok (R : Rd σ ts) (X : Wr ts) (hq : Tm ts t q) (h : ∀ σ' n, Ext σ σ' → σ'[n]? = some (.lst (ivs (partsOf ts t))) → σ.length ≤ n → Q (.ref n) σ') : Sp (d + 2) .bk_parts [.ref 3, .int t] σ Q := by
  refine sp_go rfl ?_
  unfold Fn.body B.bk_parts
  dsimp only
  refine b_ret (e_meth (n := 3) rfl R.cls (es_cons (e_tup (es_cons (e_loc (v := .int t) rfl (es_nil (es_nil ?_)))))))
  refine sp_go rfl ?_
  unfold Fn.body
  dsimp only
  rw [parts_shape]
  refine b_asgT (e_tup (es_cons (e_list (es_nil (es_cons (e_dict (es_nil ?_)))))))
  refine o_some (a := .dI []) rfl (es_nil ?_)
  refine o_some rfl ?_
  have hl1 : (σ ++ [AObj.lst []]).length = σ.length + 1 := by rw [List.length_append]; rfl
  rw [hl1]
  refine b_for ?_
  show evE _ _ _ _ _
  refine e_loc (v := .tup [.int t]) rfl ?_
  refine o_some (itemsOf_tup (by show 1 < 100; decide)) ?_
  dsimp only
  unfold goFor
  refine o_some rfl ?_
  unfold rootB
  refine b_asg (e_list (es_cons (e_tup (es_cons (e_loc (v := .int t) rfl (es_cons (e_lit (es_nil (es_nil ?_)))))))))
  have hl2 : (σ ++ [AObj.lst []] ++ [AObj.dI []]).length = σ.length + 2 := by rw [List.length_append, hl1]; rfl
  rw [hl2]
  refine b_while (5 ^ (t.toNat + 1) + 1) ?_
  have hlt := hq.lt
  have E : Ext σ (σ ++ [AObj.lst []] ++ [AObj.dI []] ++ [.lst [.tup [.int t, .bool false]]]) := (Ext.push _ _).trans ((Ext.push _ _).trans (Ext.push _ _))
  refine while_parts (σ0 := σ) (f := σ.length) (root := t) R X (Nat.le_refl _) _ [(t, false)] [] _ _ _ (wgt_one t) (dfs0 hq ⟨q, hq⟩) ⟨by rw [List.length_nil]; show 0 + 4 * t.toNat ≤ _; (first | lia | omega), trivial⟩ ⟨E, ?_, ⟨[], ?_, rfl⟩, ?_⟩ ⟨rfl, rfl, rfl, rfl⟩ fun l' σ' L' E' e' => ?_
  · exact Ext.push _ _ _ _ (Ext.push _ _ _ _ (push_last _ _))
  · rw [← hl1]; exact Ext.push _ _ _ _ (push_last _ _)
  · rw [← hl2]; exact push_last _ _
  · refine b_end (b_nil (And.intro trivial ?_))
    show evB _ _ _ _ _
    refine b_ret (e_loc L'.found ?_)
    exact h σ' _ E' e' (Nat.le_refl _)
end
end Mine
namespace Mine
open PySem

/-! add_term -/
noncomputable def addP (ts : List TK) (L : List Int) (t : Int) : List Int := L ++ (partsOf ts t).filter fun x => decide (x ∉ L)
structure Wkd (ts : List TK) (L : List Int) : Prop where
  nodup : L.Nodup
  closed : ∀ x ∈ L, ∀ a ∈ argsOf ts x, a ∈ L
  tms : ∀ x ∈ L, ∃ q, Tm ts x q
theorem Wkd.nil (ts : List TK) : Wkd ts [] := ⟨List.nodup_nil, fun _ h => (by cases h), fun _ h => (by cases h)⟩
section
variable {ts : List TK} {L : List Int} {t x : Int} {q : TK}
theorem mem_addP : x ∈ addP ts L t ↔ x ∈ L ∨ x ∈ partsOf ts t := by
  unfold addP
  rw [List.mem_append, List.mem_filter]
  constructor
  · rintro (h | ⟨h, _⟩)
    · exact .inl h
    · exact .inr h
  · rintro (h | h)
    · exact .inl h
    · by_cases z : x ∈ L
      · exact .inl z
      · exact .inr ⟨h, by simpa using z⟩
theorem nodup_more {A B : List Int} (hA : A.Nodup) (hB : B.Nodup) : (A ++ B.filter fun x => decide (x ∉ A)).Nodup := by
  rw [List.nodup_append]
  refine ⟨hA, hB.filter _, fun a ha b hb e => ?_⟩
  subst e
  have := (List.mem_filter.mp hb).2
  simp at this
  exact this ha
theorem Wkd.add (X : Wr ts) (H : Wkd ts L) (hq : Tm ts t q) : Wkd ts (addP ts L t) := by
  refine ⟨nodup_more H.nodup (parts_nodup X hq), fun x hx a ha => ?_, fun x hx => ?_⟩
  · rcases mem_addP.mp hx with h | h
    · exact mem_addP.mpr (.inl (H.closed x h a ha))
    · exact mem_addP.mpr (.inr (parts_closed X hq x h a ha))
  · rcases mem_addP.mp hx with h | h
    · exact H.tms x h
    · exact parts_tm X hq x h
theorem addP_self (X : Wr ts) (hq : Tm ts t q) : t ∈ addP ts L t := mem_addP.mpr (.inr (parts_self X hq))
theorem addP_in (X : Wr ts) (H : Wkd ts L) (hq : Tm ts t q) (ht : t ∈ L) : addP ts L t = L := by
  unfold addP
  have : (partsOf ts t).filter (fun x => decide (x ∉ L)) = [] := List.filter_eq_nil_iff.mpr fun x hx => by
    have := parts_sub X hq H.closed ht x hx
    simpa using this
  rw [this, List.append_nil]
theorem shared_len4 (X : Wr ts) : ∀ {L : List Int}, (∀ x ∈ L, ∃ q, Tm ts x q) → (sharedOf ts L).length ≤ 4 * L.length := fun {L} h => by
  have key : ∀ C : List Int, (∀ x ∈ C, ∃ q, Tm ts x q) → (C.flatMap (turnOf ts)).length ≤ 4 * C.length := by
    intro C
    induction C with
    | nil => intro _; exact Nat.zero_le _
    | cons x r ih =>
      intro h
      obtain ⟨q, hq⟩ := h x List.mem_cons_self
      have h1 := turn_len X hq
      have h2 := ih fun y hy => h y (List.mem_cons_of_mem _ hy)
      rw [List.flatMap_cons, List.length_append, List.length_cons]
      (first | lia | omega)
  have h1 := key (callsOf ts L) fun x hx => h x (List.mem_filter.mp hx).1
  have h2 := List.length_filter_le (isCall ts) L
  unfold sharedOf
  unfold callsOf at h1 ⊢
  (first | lia | omega)
end

/-- kept, but for a Sharing's own -/
structure Fr4 (k : Nat) (P : Nat → Prop) (σ σ' : Sto) : Prop where
  kept : ∀ (n : Nat) (o : AObj), ¬ P n → n ≠ k + 1 → n ≠ k + 2 → n ≠ k + 3 → n ≠ k + 4 → σ[n]? = some o → σ'[n]? = some o
  len : σ.length ≤ σ'.length
section
variable {d : Nat} {σ σ' σ'' : Sto} {ts : List TK} {t : Int} {q : TK} {Q : V → Sto → Prop} {k : Nat} {P P' : Nat → Prop} {L : List Int} {W : List (Int × V)}
theorem Fr4.refl : Fr4 k P σ σ := ⟨fun _ _ _ _ _ _ _ e => e, Nat.le_refl _⟩
theorem Fr4.trans (a : Fr4 k P σ σ') (b : Fr4 k P σ' σ'') : Fr4 k P σ σ'' := ⟨fun n o h0 h1 h2 h3 h4 e => b.kept n o h0 h1 h2 h3 h4 (a.kept n o h0 h1 h2 h3 h4 e), Nat.le_trans a.len b.len⟩
theorem Fra.four (F : Fra k P σ σ') : Fr4 k P σ σ' := ⟨fun n o h0 _ h2 h3 h4 e => F.kept n o h0 h2 h3 h4 e, F.len⟩
theorem Ext.four (E : Ext σ σ') : Fr4 k P σ σ' := ⟨fun n o _ _ _ _ _ e => E n o e, E.len⟩
theorem Fr4.weak (F : Fr4 k P' σ σ') (h : ∀ r, P' r → P r) : Fr4 k P σ σ' := ⟨fun n o h0 h1 h2 h3 h4 e => F.kept n o (fun z => h0 (h n z)) h1 h2 h3 h4 e, F.len⟩
theorem Rd.four (R : Rd σ ts) (F : Fr4 k P σ σ') (h : 13 < k) (h' : ∀ r, P r → k + 5 < r) : Rd σ' ts := by
  have key : ∀ (n : Nat) (o : AObj), n ≤ 13 → σ[n]? = some o → σ'[n]? = some o := fun n o hn e => F.kept n o (fun z => by have := h' _ z; (first | lia | omega)) (by (first | lia | omega)) (by (first | lia | omega)) (by (first | lia | omega)) (by (first | lia | omega)) e
  exact ⟨key _ _ (by decide) R.bank, key _ _ (by decide) R.wid, key _ _ (by decide) R.ops, key _ _ (by decide) R.args, key _ _ (by decide) R.sorts, key _ _ (by decide) R.datas, R.len⟩

theorem Shar.weak (H : Shar σ ts k P' L W) (h : ∀ r, P' r → P r) (low : ∀ r, P r → k + 5 < r) : Shar σ ts k P L W where
  inst := H.inst
  walked := H.walked
  shared := H.shared
  heads := H.heads
  calls := by
    obtain ⟨m, a, b, c, f⟩ := H.calls
    refine ⟨m, a, b, fun x hx => ?_, f⟩
    obtain ⟨r, g1, g2, g3⟩ := c x hx
    exact ⟨r, g1, h r g2, g3⟩
  low := low
  len := fun r hr => h r (H.len r hr)
/-- all that has been made since is no place of its own -/
theorem Shar.re (H : Shar σ ts k P L W) (E : Ext σ σ') : Shar σ' ts k (fun r => (P r ∧ r < σ.length) ∨ σ'.length ≤ r) L W where
  inst := E _ _ H.inst
  walked := E _ _ H.walked
  shared := let ⟨m, a, b⟩ := H.shared; ⟨m, E _ _ a, b⟩
  heads := E _ _ H.heads
  calls := by
    obtain ⟨m, a, b, c, f⟩ := H.calls
    refine ⟨m, E _ _ a, b, fun x hx => ?_, f⟩
    obtain ⟨r, g1, g2, g3⟩ := c x hx
    exact ⟨r, g1, .inl ⟨g2, (List.getElem?_eq_some_iff.mp g3).1⟩, E _ _ g3⟩
  low := fun r hr => hr.elim (fun z => H.low r z.1) fun z => H.low r (H.len r (Nat.le_trans E.len z))
  len := fun r hr => .inr hr
theorem Shar.move (H : Shar σ ts k P L W) (hk : ∀ n o, n = k ∨ n = k + 1 ∨ n = k + 2 ∨ n = k + 3 ∨ n = k + 4 ∨ P n → σ[n]? = some o → σ'[n]? = some o) (hl : σ.length ≤ σ'.length) : Shar σ' ts k P L W where
  inst := hk _ _ (by simp) H.inst
  walked := hk _ _ (by simp) H.walked
  shared := let ⟨m, a, b⟩ := H.shared; ⟨m, hk _ _ (by simp) a, b⟩
  heads := hk _ _ (by simp) H.heads
  calls := by
    obtain ⟨m, a, b, c, f⟩ := H.calls
    refine ⟨m, hk _ _ (by simp) a, b, fun x hx => ?_, f⟩
    obtain ⟨r, g1, g2, g3⟩ := c x hx
    exact ⟨r, g1, g2, hk _ _ (by simp [g2]) g3⟩
  low := H.low
  len := fun r hr => H.len r (Nat.le_trans hl hr)
theorem Shar.move' (H : Shar σ ts k P L W) (hk : ∀ n o, k ≤ n → σ[n]? = some o → σ'[n]? = some o) (hl : σ.length ≤ σ'.length) : Shar σ' ts k P L W :=
  H.move (fun n o hn => hk n o (by
    have hlow := H.low n
    rcases hn with z | z | z | z | z | z
    · exact Nat.le_of_eq z.symm
    · rw [z]; exact Nat.le_add_right ..
    · rw [z]; exact Nat.le_add_right ..
    · rw [z]; exact Nat.le_add_right ..
    · rw [z]; exact Nat.le_add_right ..
    · exact Nat.le_trans (Nat.le_add_right ..) (Nat.le_of_lt (hlow z)))) hl
theorem Shar.klt (H : Shar σ ts k P L W) : k + 5 < σ.length := H.low _ (H.len _ (Nat.le_refl _))
/-- a new place in walked -/
theorem Shar.walk (H : Shar σ ts k P L W) (W' : List (Int × V)) : Shar (σ.set (k + 1) (.dI W')) ts k P L W' where
  inst := by rw [List.getElem?_set_ne (by (first | lia | omega))]; exact H.inst
  walked := List.getElem?_set_self (by have := H.klt; (first | lia | omega))
  shared := let ⟨m, a, b⟩ := H.shared; ⟨m, by rw [List.getElem?_set_ne (by (first | lia | omega))]; exact a, b⟩
  heads := by rw [List.getElem?_set_ne (by (first | lia | omega))]; exact H.heads
  calls := by
    obtain ⟨m, a, b, c, f⟩ := H.calls
    refine ⟨m, by rw [List.getElem?_set_ne (by (first | lia | omega))]; exact a, b, fun x hx => ?_, f⟩
    obtain ⟨r, g1, g2, g3⟩ := c x hx
    have := H.low r g2
    exact ⟨r, g1, g2, by rw [List.getElem?_set_ne (by (first | lia | omega))]; exact g3⟩
  low := H.low
  len := fun r hr => H.len r (by rwa [List.length_set] at hr)

noncomputable def addB : List Stm := [
    .ite (.cmp Cop.notin (.loc Nm.n_part) (.attr (.loc Nm.n_self) Fd.f_walked)) [
      .seti (.attr (.loc Nm.n_self) Fd.f_walked) (.loc Nm.n_part) (.lit (.bool true)),
      .expr (.meth (.loc Nm.n_self) Fn.sh_enter_part [(.loc Nm.n_part)])] []]
theorem add_shape : B.sh_add_term = [
  .ite (.cmp Cop.isin (.loc Nm.n_term) (.attr (.loc Nm.n_self) Fd.f_walked)) [.retn] [],
  .for (.nm Nm.n_part) (.e (.meth (.attr (.loc Nm.n_self) Fd.f_bank) Fn.bk_parts [(.loc Nm.n_term)])) addB] := rfl
theorem add_term_ok (R : Rd σ ts) (X : Wr ts) (hk : 13 < k) (H : Shar σ ts k P L W) (hW : W.map (·.1) = L) (hL : Wkd ts L) (hq : Tm ts t q)
    (h : ∀ σ' W', Shar σ' ts k P (addP ts L t) W' → W'.map (·.1) = addP ts L t → Fr4 k P σ σ' → Q .none σ') : Sp (d + 4) .sh_add_term [.ref k, .int t] σ Q := by
  have hN := R.len
  refine sp_go rfl ?_
  unfold Fn.body
  dsimp only
  rw [add_shape]
  refine b_if (t_cmp (e_loc (v := .int t) rfl (e_attr (n := k) rfl (shar_fld H.inst rfl) ?_)))
  refine o_some (show evCmp σ .isin (.int t) (.ref (k + 1)) = some (decide (t ∈ W.map (·.1))) from amem_dI H.walked) ?_
  rw [hW]
  by_cases ht : t ∈ L
  · refine if_t (decide_eq_true ht) ?_
    have e := addP_in X hL hq ht
    exact b_retn (h σ W (e.symm ▸ H) (e.symm ▸ hW) Fr4.refl)
  · refine if_f (decide_eq_false ht) ?_
    refine b_for ?_
    show evE _ _ _ _ _
    refine e_methA (m := k) (n := 3) rfl (shar_fld H.inst rfl) R.cls (es_cons (e_loc (v := .int t) rfl (es_nil ?_)))
    refine parts_ok (d := d + 1) R X hq fun σ1 n0 E1 e0 hn0 => ?_
    have hP := parts_nodup X hq
    have hPt := parts_tm X hq
    have hPl : (partsOf ts t).length ≤ ts.length := tms_len hP hPt
    have H1 := H.re E1
    have n0lt := (List.getElem?_eq_some_iff.mp e0).1
    have hklt := H.klt
    have R1 := R.ext E1
    have W1 := hL.add X hq
    have hsubP : ∀ r, ((P r ∧ r < σ.length) ∨ σ1.length ≤ r) → P r := fun r hr => hr.elim (·.1) fun z => H.len r (Nat.le_trans E1.len z)
    refine o_some (itemsOf_lst e0 (by rw [ivs_len]; (first | lia | omega))) ?_
    refine for_inv (fun r l' σ' => ∃ P1 P2 W', partsOf ts t = P1 ++ P2 ∧ r = ivs P2 ∧ l' .n_self = some (.ref k) ∧ Shar σ' ts k (fun r => (P r ∧ r < σ.length) ∨ σ1.length ≤ r) (L ++ P1.filter fun x => decide (x ∉ L)) W' ∧ W'.map (·.1) = L ++ P1.filter (fun x => decide (x ∉ L)) ∧ Fr4 k (fun r => (P r ∧ r < σ.length) ∨ σ1.length ≤ r) σ1 σ')
      (fun v r l' σ' K I hK => ?_) _ _ _ _ ⟨[], partsOf ts t, W, rfl, rfl, rfl, by simpa using H1, by simpa using hW, Fr4.refl⟩ (fun l' σ' I => ?_)
    · obtain ⟨P1, P2, W', hs, hr, hself, HS, hW', F⟩ := I
      cases P2 with
      | nil => cases hr
      | cons x P2 =>
        obtain ⟨rfl, rfl⟩ : v = .int x ∧ r = ivs P2 := List.cons.inj hr
        have hx : x ∉ P1 := fun z => by
          rw [hs, List.nodup_append] at hP
          exact hP.2.2 x z x List.mem_cons_self rfl
        have hxP : x ∈ partsOf ts t := by rw [hs]; simp
        obtain ⟨qx, hqx⟩ := hPt x hxP
        have hstay : ∀ σ3, Fr4 k (fun r => (P r ∧ r < σ.length) ∨ σ1.length ≤ r) σ1 σ3 → stays (some (n0, ivs (partsOf ts t))) σ3 := fun σ3 F3 =>
          lst_of (F3.kept n0 _ (fun z => by rcases z with z | z <;> (first | lia | omega)) (by (first | lia | omega)) (by (first | lia | omega)) (by (first | lia | omega)) (by (first | lia | omega)) e0)
        have hcur : (L ++ P1.filter fun x => decide (x ∉ L)).Nodup := nodup_more hL.nodup (by rw [hs, List.nodup_append] at hP; exact hP.1)
        have hcurt : ∀ y ∈ L ++ P1.filter (fun x => decide (x ∉ L)), ∃ q, Tm ts y q := fun y hy => by
          rcases List.mem_append.mp hy with z | z
          · exact hL.tms y z
          · exact hPt y (by rw [hs]; exact List.mem_append_left _ (List.mem_filter.mp z).1)
        have hcl := tms_len hcur hcurt
        have hsl := shared_len4 X hcurt
        refine o_some (a := upd l' .n_part (.int x)) rfl ?_
        have hself' : upd l' .n_part (.int x) .n_self = some (.ref k) := hself
        unfold addB
        refine b_if (t_cmp (e_loc (v := .int x) rfl (e_attr hself' (shar_fld HS.inst rfl) ?_)))
        refine o_some (a := !decide (x ∈ L)) (by
          unfold evCmp
          dsimp only
          rw [amem_dI HS.walked, hW']
          have : (x ∈ L ++ P1.filter fun x => decide (x ∉ L)) ↔ x ∈ L := by
            rw [List.mem_append, List.mem_filter]
            exact ⟨fun z => z.elim id fun z => absurd z.1 hx, .inl⟩
          rw [decide_eq_decide.mpr this]; rfl) ?_
        by_cases hxL : x ∈ L
        · refine if_f (by rw [decide_eq_true hxL]; rfl) ?_
          refine b_nil ?_
          have e1 : [x].filter (fun x => decide (x ∉ L)) = [] := by simp [hxL]
          refine (hK _ _ (hstay σ' F) ⟨P1 ++ [x], P2, W', by rw [hs, List.append_assoc]; rfl, rfl, hself', ?_, ?_, F⟩).1
          · rw [List.filter_append, e1, List.append_nil]; exact HS
          · rw [List.filter_append, e1, List.append_nil]; exact hW'
        · refine if_t (by rw [decide_eq_false hxL]; rfl) ?_
          have e1 : [x].filter (fun x => decide (x ∉ L)) = [x] := by simp [hxL]
          have hxc : x ∉ L ++ P1.filter (fun x => decide (x ∉ L)) := fun z => by
            rcases List.mem_append.mp z with z | z
            · exact hxL z
            · exact hx (List.mem_filter.mp z).1
          refine b_seti (e_lit (e_attr hself' (shar_fld HS.inst rfl) (e_loc (v := .int x) rfl ?_)))
          have hset : setIdx σ' (.ref (k + 1)) (.int x) (.bool true) = some (σ'.set (k + 1) (.dI (aset W' x (.bool true)))) := setIdx_dI HS.walked (by have := congrArg List.length hW'; rw [List.length_map] at this; unfold lim; (first | lia | omega))
          refine o_some hset ?_
          have HS2 := HS.walk (aset W' x (.bool true))
          have F2 : Fr4 k (fun r => (P r ∧ r < σ.length) ∨ σ1.length ≤ r) σ1 (σ'.set (k + 1) (.dI (aset W' x (.bool true)))) := F.trans ⟨fun n o _ h1 _ _ _ e => by rw [List.getElem?_set_ne (fun z => h1 z.symm)]; exact e, by rw [List.length_set]; exact Nat.le_refl _⟩
          generalize σ'.set (k + 1) (.dI (aset W' x (.bool true))) = σ2 at HS2 F2 ⊢
          have R2 := R1.four F2 hk H1.low
          refine b_expr (e_meth (n := k) hself' (shar_cls HS2.inst) (es_cons (e_loc (v := .int x) rfl (es_nil ?_))))
          refine enter_ok (d := d) R2 X hk HS2 hqx (by (first | lia | omega)) (by (first | lia | omega)) fun σ3 HS3 F3 => ?_
          refine b_nil ?_
          have F4 := F2.trans F3.four
          refine (hK _ _ (hstay σ3 F4) ⟨P1 ++ [x], P2, aset W' x (.bool true), by rw [hs, List.append_assoc]; rfl, rfl, hself', ?_, ?_, F4⟩).1
          · rw [List.filter_append, e1, ← List.append_assoc]; exact HS3
          · rw [aset_keys, hW', if_neg hxc, List.filter_append, e1, List.append_assoc]
    · obtain ⟨P1, P2, W', hs, hr, hself, HS, hW', F⟩ := I
      cases P2 with
      | cons _ _ => cases hr
      | nil =>
        rw [List.append_nil] at hs
        subst hs
        show evB _ _ _ _ _
        refine b_nil ?_
        exact h σ' W' (HS.weak hsubP H.low) hW' ((Ext.four E1).trans (F.weak hsubP))
end
end Mine
namespace Mine
open PySem

/-! the store's front -/
noncomputable def W.pre (w : W) : Sto := { w with post := [] }.sto
theorem sto_pre (w : W) : w.sto = w.pre ++ w.post := rfl
theorem pre_len (w : W) : w.pre.length = 25 := rfl
theorem sto_of {w : W} {σ : Sto} (h : ∀ n o, n < 25 → w.sto[n]? = some o → σ[n]? = some o) : ∃ P, σ = { w with post := P }.sto := by
  have hp : ∀ n, n < 25 → σ[n]? = w.pre[n]? := fun n hn => by
    have e : w.pre[n]? = some w.pre[n] := List.getElem?_eq_getElem (by rw [pre_len]; exact hn)
    have e2 : w.sto[n]? = w.pre[n]? := by rw [sto_pre, List.getElem?_append_left (by rw [pre_len]; exact hn)]
    rw [e]
    exact h n _ hn (e2.trans e)
  refine ⟨σ.drop 25, ?_⟩
  rw [sto_pre]
  show σ = w.pre ++ σ.drop 25
  apply List.ext_getElem?
  intro n
  rcases Nat.lt_or_ge n 25 with hn | hn
  · rw [List.getElem?_append_left (by rw [pre_len]; exact hn)]; exact hp n hn
  · rw [List.getElem?_append_right (by rw [pre_len]; exact hn), List.getElem?_drop, pre_len]
    congr 1; (first | lia | omega)
theorem pan_ne (w : W) (a : Int) {n : Nat} (h : n ≠ 2) : { w with at' := a }.sto[n]? = w.sto[n]? := by
  have : { w with at' := a }.sto = w.sto.set 2 (panO a) := rfl
  rw [this, List.getElem?_set_ne (fun z => h z.symm)]
theorem pan_len (w : W) (a : Int) : { w with at' := a }.sto.length = w.sto.length := rfl

section
variable {σ : Sto} {ts : List TK}
theorem eqvAll_nil (l : List Int) : PyData.eqvAll (dints l) [] = l.isEmpty := by
  cases l <;> simp [PyData.eqvAll, dints]
theorem eqv_list_nil (l : List Int) : PyData.eqv (.list (dints l)) (.list []) = l.isEmpty := by
  cases l <;> simp [PyData.eqv, PyData.eqvAll, dints]
theorem deq_refs {a b : Nat} {x y : PyData} (h1 : rd 4 σ (.ref a) = some x) (h2 : rd 4 σ (.ref b) = some y) : deq σ (.ref a) (.ref b) = some (PyData.eqv x y) := deq_rd h1 h2
/-- left != [] -/
theorem ne_empty {a b : Nat} {l : List Int} (h1 : σ[a]? = some (.lst (ivs l))) (h2 : σ[b]? = some (.lst [])) : evCmp σ .ne (.ref a) (.ref b) = some (!l.isEmpty) := by
  have r2 : rd 4 σ (.ref b) = some (.list []) := rd_list (l := []) h2
  show (deq σ (.ref a) (.ref b)).map (!·) = _
  rw [deq_refs (rd_list (k := 3) h1) r2, eqv_list_nil]; rfl
theorem eq_lists {a b : Nat} {l : List Int} (h1 : σ[a]? = some (.lst (ivs l))) (h2 : σ[b]? = some (.lst (ivs l))) : evCmp σ .eq (.ref a) (.ref b) = some true := by
  show deq σ (.ref a) (.ref b) = _
  rw [deq_refs (rd_list (k := 3) h1) (rd_list (k := 3) h2)]
  simp [PyData.eqv, eqvAll_ints]
theorem ne_due {u v : V} {L : List Int} (h1 : rd 4 σ u = some (dueOf ts L)) (h2 : rd 4 σ v = some (dueOf ts L)) : evCmp σ .ne u v = some false := by
  show (deq σ u v).map (!·) = _
  rw [deq_trip h1 h2]; rfl
theorem eq_due {u v : V} {L : List Int} (h1 : rd 4 σ u = some (dueOf ts L)) (h2 : rd 4 σ v = some (dueOf ts L)) : evCmp σ .eq u v = some true := by
  show deq σ u v = _
  rw [deq_trip h1 h2]

theorem Wt.wr {m : List (TK × V)} (X : Wt ts m) : Wr ts := ⟨X.args, fun t q h => (X.alen t q h).1, X.sort⟩
theorem turn3 {m : List (TK × V)} (X : Wt ts m) {t : Int} (hc : isCall ts t = true) (h : ∃ q, Tm ts t q) : (turnOf ts t).length ≤ 3 := by
  obtain ⟨q, hq⟩ := h
  unfold isCall at hc
  rw [tm_of hq, Bool.and_eq_true, decide_eq_true_eq] at hc
  have := (X.alen t q hq).2 hc.1
  unfold turnOf
  refine Nat.le_trans (List.length_filter_le _ _) ?_
  rw [tm_of hq, List.length_append]
  show _ + 1 ≤ 3
  (first | lia | omega)
theorem shared3 {m : List (TK × V)} (X : Wt ts m) {L : List Int} (hL : ∀ x ∈ L, ∃ q, Tm ts x q) : (sharedOf ts L).length ≤ 3 * (callsOf ts L).length := by
  have key : ∀ C : List Int, (∀ x ∈ C, isCall ts x = true ∧ ∃ q, Tm ts x q) → (C.flatMap (turnOf ts)).length ≤ 3 * C.length := by
    intro C
    induction C with
    | nil => intro _; exact Nat.zero_le _
    | cons x r ih =>
      intro h
      have h0 := h x List.mem_cons_self
      have h1 := turn3 X h0.1 h0.2
      have h2 := ih fun y hy => h y (List.mem_cons_of_mem _ hy)
      rw [List.flatMap_cons, List.length_append, List.length_cons]
      (first | lia | omega)
  exact key _ fun x hx => ⟨(List.mem_filter.mp hx).2, hL x (List.mem_filter.mp hx).1⟩
theorem shared_len {m : List (TK × V)} (X : Wt ts m) {L : List Int} (hL : ∀ x ∈ L, ∃ q, Tm ts x q) (hl : L.length ≤ 21) : (sharedOf ts L).length < 64 := by
  have h1 := shared3 X hL
  have h2 : (callsOf ts L).length ≤ L.length := List.length_filter_le _ _
  (first | lia | omega)
theorem call_ge {m : List (TK × V)} (X : Wt ts m) {t : Int} (h : ∃ q, Tm ts t q) (hc : isCall ts t = true) : 8 ≤ t := by
  obtain ⟨q, hq⟩ := h
  obtain ⟨r, hr⟩ := X.pre
  rcases Int.lt_or_le t 8 with hlt | hge
  · have h0 := hq.1
    have hn : t = 0 ∨ t = 1 ∨ t = 2 ∨ t = 3 ∨ t = 4 ∨ t = 5 ∨ t = 6 ∨ t = 7 := by (first | lia | omega)
    have noArgs : (tm ts t).args = [] := by
      rw [hr]
      rcases hn with rfl | rfl | rfl | rfl | rfl | rfl | rfl | rfl <;> rfl
    unfold isCall at hc
    rw [noArgs] at hc
    simp at hc
  · exact hge
theorem shared_walked {m : List (TK × V)} (X : Wt ts m) {L : List Int} (H : Wkd ts L) (h24 : ts.length ≤ 24) : (sharedOf ts L).length < 64 := by
  have h1 := shared3 X H.tms
  have h2 : (callsOf ts L).length ≤ 16 := by
    have := sub_len (K := (List.range 16).map fun (i : Nat) => (i : Int) + 8) (H.nodup.filter (isCall ts)) fun x hx => by
      obtain ⟨hx, hc⟩ := List.mem_filter.mp hx
      have h8 := call_ge X (H.tms x hx) hc
      obtain ⟨q, hq⟩ := H.tms x hx
      have hlt := hq.lt
      exact List.mem_map.mpr ⟨(x - 8).toNat, List.mem_range.mpr (by (first | lia | omega)), by (first | lia | omega)⟩
    rwa [List.length_map, List.length_range] at this
  (first | lia | omega)
theorem Wkd.len (H : Wkd ts L) : L.length ≤ ts.length := tms_len H.nodup H.tms

/-! folding addP -/
variable {A L : List Int}
theorem fold_wkd (X : Wr ts) : ∀ {A L : List Int}, Wkd ts L → (∀ x ∈ A, ∃ q, Tm ts x q) → Wkd ts (A.foldl (addP ts) L)
  | [], _, H, _ => H
  | x :: r, L, H, h => by
    obtain ⟨q, hq⟩ := h x List.mem_cons_self
    exact fold_wkd X (A := r) (H.add X hq) fun y hy => h y (List.mem_cons_of_mem _ hy)
theorem fold_mono : ∀ {A L : List Int} {x : Int}, x ∈ L → x ∈ A.foldl (addP ts) L
  | [], _, _, h => h
  | _ :: r, _, _, h => fold_mono (A := r) (mem_addP.mpr (.inl h))
theorem fold_mem (X : Wr ts) : ∀ {A L : List Int}, (∀ x ∈ A, ∃ q, Tm ts x q) → ∀ x ∈ A, x ∈ A.foldl (addP ts) L
  | [], _, _, _, h => by cases h
  | y :: r, L, h, x, hx => by
    rcases List.mem_cons.mp hx with rfl | hx
    · obtain ⟨q, hq⟩ := h x List.mem_cons_self
      exact fold_mono (A := r) (addP_self X hq)
    · exact fold_mem X (A := r) (fun z hz => h z (List.mem_cons_of_mem _ hz)) x hx
theorem fold_in (X : Wr ts) : ∀ {A L : List Int}, Wkd ts L → (∀ x ∈ A, ∃ q, Tm ts x q) → (∀ x ∈ A, x ∈ L) → A.foldl (addP ts) L = L
  | [], _, _, _, _ => rfl
  | x :: r, L, H, h, hs => by
    obtain ⟨q, hq⟩ := h x List.mem_cons_self
    rw [List.foldl_cons, addP_in X H hq (hs x List.mem_cons_self)]
    exact fold_in X (A := r) H (fun y hy => h y (List.mem_cons_of_mem _ hy)) fun y hy => hs y (List.mem_cons_of_mem _ hy)
theorem fold_twice (X : Wr ts) (h : ∀ x ∈ A, ∃ q, Tm ts x q) : (A ++ A).foldl (addP ts) [] = A.foldl (addP ts) [] := by
  rw [List.foldl_append]
  exact fold_in X (fold_wkd X (Wkd.nil ts) h) h (fold_mem X h)
end
end Mine
namespace Mine
open PySem

/-! the law's first loop -/
noncomputable def lawC : E := .cmp Cop.ne (.loc Nm.n_left) (.list [])
noncomputable def lawB : List Stm := [
    .asg Nm.n_t (.lm Lm.pop (.loc Nm.n_left) [(.call Fn.law_sift [(.loc Nm.n_pan), (.bi Bi.len [(.loc Nm.n_left)])])]),
    .expr (.meth (.loc Nm.n_sharing) Fn.sh_enter_part [(.loc Nm.n_t)]),
    .expr (.lm Lm.append (.loc Nm.n_entered) [(.loc Nm.n_t)]),
    .ite (.or (.cmp Cop.ne (.call Fn.law_told [(.loc Nm.n_sharing), (.loc Nm.n_some)]) (.call Fn.law_due [(.loc Nm.n_bank), (.loc Nm.n_entered)])) (.cmp Cop.ne (.bi Bi.len [(.attr (.loc Nm.n_sharing) Fd.f_calls)]) (.bi Bi.len [(.attr (.loc Nm.n_sharing) Fd.f_heads)]))) [
      .ret (.lit (.bool false))] []]
structure L1 (i : Nat) (l : Locs) : Prop where
  pan : l .n_pan = some (.ref 2)
  bank : l .n_bank = some (.ref 3)
  some' : l .n_some = some (.ref i)
  left : l .n_left = some (.ref (i + 1))
  ent : l .n_entered = some (.ref (i + 2))
  sharing : l .n_sharing = some (.ref (i + 3))
structure St1 (w : W) (T : List Int) (i : Nat) (σ : Sto) (L Rm : List Int) : Prop where
  form : ∃ (a : Int) (P : Sto), σ = { w with at' := a, post := P }.sto ∧ 0 ≤ a ∧ a + (Rm.length : Int) ≤ 100
  some' : σ[i]? = some (.lst (ivs T))
  left : σ[i + 1]? = some (.lst (ivs Rm))
  ent : σ[i + 2]? = some (.lst (ivs L))
  shar : Shar σ w.ts (i + 3) (fun r => i + 3 + 6 ≤ r) L []
  len : L.length + Rm.length = T.length
  tmL : ∀ x ∈ L, ∃ q, Tm w.ts x q
  tmR : ∀ x ∈ Rm, ∃ q, Tm w.ts x q
theorem ivs_erase : ∀ (l : List Int) (j : Nat), (ivs l).eraseIdx j = ivs (l.eraseIdx j)
  | [], _ => rfl
  | _ :: _, 0 => rfl
  | x :: r, j + 1 => by
    show V.int x :: (ivs r).eraseIdx j = V.int x :: ivs (r.eraseIdx j)
    rw [ivs_erase r j]
section
variable {w : W} {T : List Int} {i : Nat} {σ σ' : Sto} {L Rm : List Int}
theorem St1.rd (S : St1 w T i σ L Rm) (h : w.ts.length < 100) : Rd σ w.ts := by
  obtain ⟨a, P, rfl, _⟩ := S.form
  exact Rd.of { w with at' := a, post := P } h
theorem St1.ext (S : St1 w T i σ L Rm) (E : Ext σ σ') : St1 w T i σ' L Rm where
  form := by
    obtain ⟨a, P, rfl, h1, h2⟩ := S.form
    obtain ⟨P', e⟩ := sto_of (w := { w with at' := a, post := P }) (σ := σ') fun n o _ e => E n o e
    exact ⟨a, P', e, h1, h2⟩
  some' := E _ _ S.some'
  left := E _ _ S.left
  ent := E _ _ S.ent
  shar := S.shar.ext E
  len := S.len
  tmL := S.tmL
  tmR := S.tmR
theorem evLm_popAt {n j : Nat} {Rm : List Int} (e : σ[n]? = some (.lst (ivs Rm))) (hj : j < Rm.length) (hl : Rm.length ≤ lim) : evLm σ .pop (.ref n) [.int (j : Int)] = some (.int Rm[j], σ.set n (.lst (ivs (Rm.eraseIdx j)))) := by
  have e1 : (ivs Rm)[j]? = some (.int Rm[j]) := by rw [ivs_at, List.getElem?_eq_getElem hj]; rfl
  have e2 : popV σ n (ivs Rm) [.int (j : Int)] = some (.int Rm[j], σ.set n (.lst ((ivs Rm).eraseIdx j))) := (bnd_of (gd_of ⟨Int.natCast_nonneg j, by rw [ivs_len]; exact hl⟩)).trans (map_of e1)
  rw [ivs_erase] at e2
  exact (bnd_of (lst_of e)).trans e2
theorem loop1 (Wm : Wt w.ts w.m) (hc : w.cells.length < 64) (h24 : w.ts.length ≤ 24) (hT : T.length ≤ 21) (hi : 25 ≤ i) : ∀ (n : Nat) (Rm L : List Int) (l : Locs) (σ : Sto) (K : Fl → Locs → Sto → Prop), Rm.length < n → St1 w T i σ L Rm → L1 i l →
    (∀ l' σ' L', L1 i l' → St1 w T i σ' L' [] → K .next l' σ') → goWhile (fun l σ k => evT (Sp 7) lawC l σ k) (fun l σ k => evB (Sp 7) lawB l σ k) n l σ K
  | 0, _, _, _, _, _, h, _, _, _ => absurd h (Nat.not_lt_zero _)
  | n + 1, Rm, L, l, σ, K, hn, S, Y, h => by
    have X := Wm.wr
    show evT (Sp 7) (.cmp Cop.ne (.loc Nm.n_left) (.list [])) l σ _
    refine t_cmp (e_loc Y.left (e_list (es_nil ?_)))
    have E0 := Ext.push σ (.lst [])
    have h0 := push_last σ (.lst [])
    generalize σ ++ [.lst []] = σ1 at E0 h0 ⊢
    have S1 := S.ext E0
    refine o_some (ne_empty S1.left h0) ?_
    cases hR : Rm with
    | nil =>
      refine if_f rfl ?_
      subst hR
      exact h l σ1 L Y S1
    | cons r0 rr =>
      refine if_t rfl ?_
      have hpos : 0 < Rm.length := by rw [hR]; exact Nat.succ_pos _
      clear hR
      have hlen := S1.len
      show evB (Sp 7) lawB l σ1 _
      unfold lawB
      refine b_asg (e_lm (e_loc Y.left ?_))
      refine o_if (lmOk_lst (by intro z; cases z) S1.left) ?_
      refine es_cons (e_call (es_cons (e_loc Y.pan (es_cons (e_bi (es_cons (e_loc Y.left (es_nil ?_))))))))
      refine o_some (evBi_len S1.left (by rw [ivs_len]; unfold lim; (first | lia | omega))) (es_nil ?_)
      obtain ⟨a, P, rfl, ha0, ha⟩ := S1.form
      refine sift_ok (d := 6) (w := { w with at' := a, post := P }) (by rw [ivs_len]; (first | lia | omega)) ⟨ha0, by show a < 1000; (first | lia | omega)⟩ hc fun j hj => ?_
      rw [ivs_len] at hj
      have hj : j < Rm.length := by (first | lia | omega)
      have pan : ∀ {n : Nat}, n ≠ 2 → { { w with at' := a, post := P } with at' := a + 1 }.sto[n]? = { w with at' := a, post := P }.sto[n]? := fun h => pan_ne _ _ h
      refine es_nil ?_
      refine o_some (evLm_popAt ((pan (by (first | lia | omega))).trans S1.left) hj (by unfold lim; (first | lia | omega))) ?_
      dsimp only
      obtain ⟨q, hq⟩ := S1.tmR Rm[j] (List.getElem_mem hj)
      have S3 : Shar ({ { w with at' := a, post := P } with at' := a + 1 }.sto.set (i + 1) (.lst (ivs (Rm.eraseIdx j)))) w.ts (i + 3) (fun r => i + 3 + 6 ≤ r) L [] := S1.shar.move' (fun n o hn e => by
        rw [List.getElem?_set_ne (by (first | lia | omega)), pan (by (first | lia | omega))]; exact e) (by rw [List.length_set]; exact Nat.le_refl _)
      have R3 : Rd ({ { w with at' := a, post := P } with at' := a + 1 }.sto.set (i + 1) (.lst (ivs (Rm.eraseIdx j)))) w.ts := by
        obtain ⟨P', e⟩ := sto_of (w := { w with at' := a + 1, post := P }) (σ := { { w with at' := a, post := P } with at' := a + 1 }.sto.set (i + 1) (.lst (ivs (Rm.eraseIdx j)))) fun n o hn e => by
          rw [List.getElem?_set_ne (by (first | lia | omega))]; exact e
        rw [e]; exact Rd.of { w with at' := a + 1, post := P' } (by show w.ts.length < 100; (first | lia | omega))
      have form3 : ∀ n o, n < 25 → { w with at' := a + 1, post := P }.sto[n]? = some o → ({ { w with at' := a, post := P } with at' := a + 1 }.sto.set (i + 1) (.lst (ivs (Rm.eraseIdx j))))[n]? = some o := fun n o hn e => by
        rw [List.getElem?_set_ne (by (first | lia | omega))]; exact e
      have some3 : ({ { w with at' := a, post := P } with at' := a + 1 }.sto.set (i + 1) (.lst (ivs (Rm.eraseIdx j))))[i]? = some (.lst (ivs T)) := by
        rw [List.getElem?_set_ne (by (first | lia | omega)), pan (by (first | lia | omega))]; exact S1.some'
      have left3 : ({ { w with at' := a, post := P } with at' := a + 1 }.sto.set (i + 1) (.lst (ivs (Rm.eraseIdx j))))[i + 1]? = some (.lst (ivs (Rm.eraseIdx j))) :=
        List.getElem?_set_self (by rw [pan_len]; exact (List.getElem?_eq_some_iff.mp S1.left).1)
      have ent3 : ({ { w with at' := a, post := P } with at' := a + 1 }.sto.set (i + 1) (.lst (ivs (Rm.eraseIdx j))))[i + 2]? = some (.lst (ivs L)) := by
        rw [List.getElem?_set_ne (by (first | lia | omega)), pan (by (first | lia | omega))]; exact S1.ent
      generalize { { w with at' := a, post := P } with at' := a + 1 }.sto.set (i + 1) (.lst (ivs (Rm.eraseIdx j))) = σ3 at S3 R3 form3 some3 left3 ent3 ⊢
      have tmL := S1.tmL
      have tmR := S1.tmR
      have Y1 : L1 i (upd l .n_t (.int Rm[j])) := ⟨Y.pan, Y.bank, Y.some', Y.left, Y.ent, Y.sharing⟩
      have hsl := shared_len4 X tmL
      refine b_expr (e_meth (n := i + 3) Y1.sharing (shar_cls S3.inst) (es_cons (e_loc (v := .int Rm[j]) rfl (es_nil ?_))))
      refine enter_ok (d := 4) R3 X (by (first | lia | omega)) S3 hq (by (first | lia | omega)) (by (first | lia | omega)) fun σ4 S4 F4 => ?_
      have low3 : ∀ n, n < i + 3 → ∀ o, σ3[n]? = some o → σ4[n]? = some o := fun n hn o e => F4.kept n o (by (first | lia | omega)) (by (first | lia | omega)) (by (first | lia | omega)) (by (first | lia | omega)) e
      have ent4 := low3 _ (by (first | lia | omega)) _ ent3
      refine b_expr (e_lm (e_loc Y1.ent ?_))
      refine o_if (lmOk_lst (by intro z; cases z) ent4) ?_
      refine es_cons (e_loc (v := .int Rm[j]) rfl (es_nil ?_))
      refine o_some (evLm_append ent4 (by rw [ivs_len]; unfold lim; (first | lia | omega))) ?_
      dsimp only
      have hel : (Rm.eraseIdx j).length + 1 = Rm.length := by rw [List.length_eraseIdx_of_lt hj]; (first | lia | omega)
      have S5 : St1 w T i (σ4.set (i + 2) (.lst (ivs L ++ [.int Rm[j]]))) (L ++ [Rm[j]]) (Rm.eraseIdx j) := by
        refine ⟨?_, ?_, ?_, ?_, ?_, ?_, ?_, ?_⟩
        · obtain ⟨P', e⟩ := sto_of (w := { w with at' := a + 1, post := P }) (σ := σ4.set (i + 2) (.lst (ivs L ++ [.int Rm[j]]))) fun n o hn e => by
            rw [List.getElem?_set_ne (by (first | lia | omega))]; exact low3 n (by (first | lia | omega)) o (form3 n o hn e)
          exact ⟨a + 1, P', e, by (first | lia | omega), by (first | lia | omega)⟩
        · rw [List.getElem?_set_ne (by (first | lia | omega))]; exact low3 _ (by (first | lia | omega)) _ some3
        · rw [List.getElem?_set_ne (by (first | lia | omega))]; exact low3 _ (by (first | lia | omega)) _ left3
        · rw [List.getElem?_set_self (List.getElem?_eq_some_iff.mp ent4).1, ivs_app]; rfl
        · exact S4.move' (fun n o hn e => by rw [List.getElem?_set_ne (by (first | lia | omega))]; exact e) (by rw [List.length_set]; exact Nat.le_refl _)
        · rw [List.length_append]
          have : [Rm[j]].length = 1 := rfl
          (first | lia | omega)
        · intro x hx
          rcases List.mem_append.mp hx with z | z
          · exact tmL x z
          · rw [List.mem_singleton.mp z]; exact ⟨q, hq⟩
        · exact fun x hx => tmR x (List.mem_of_mem_eraseIdx hx)
      generalize σ4.set (i + 2) (.lst (ivs L ++ [.int Rm[j]])) = σ5 at S5 ⊢
      have hlen5 := S5.len
      have h64 := shared_len Wm S5.tmL (by (first | lia | omega))
      have R5 := S5.rd (by (first | lia | omega))
      refine b_if (t_or (t_cmp (e_call (es_cons (e_loc Y1.sharing (es_cons (e_loc Y1.some' (es_nil ?_))))))))
      refine told_ok (d := 5) S5.shar (by (first | lia | omega)) h64 S5.some' (by (first | lia | omega)) fun σ6 v E6 r6 => ?_
      refine e_call (es_cons (e_loc Y1.bank (es_cons (e_loc Y1.ent (es_nil ?_)))))
      have S6 := S5.ext E6
      refine due_ok (d := 4) (R5.ext E6) X S6.ent (by (first | lia | omega)) S6.tmL h64 fun σ7 u E7 r7 => ?_
      have S7 := S6.ext E7
      refine o_some (ne_due (rd_ext E7 4 v _ r6) r7) ?_
      refine if_f rfl ?_
      obtain ⟨mc, hmc, hkeys, _⟩ := S7.shar.calls
      have hkl : mc.length = (headsOf w.ts (L ++ [Rm[j]])).length := by rw [← hkeys, List.length_map]
      have hHl : (headsOf w.ts (L ++ [Rm[j]])).length < 100 := Nat.lt_of_le_of_lt (heads_len _ _) (by (first | lia | omega))
      refine t_cmp (e_bi (es_cons (e_attr Y1.sharing (shar_fld S7.shar.inst rfl) (es_nil ?_))))
      refine o_some (evBi_lenD hmc (by unfold lim; (first | lia | omega))) ?_
      refine e_bi (es_cons (e_attr Y1.sharing (shar_fld S7.shar.inst rfl) (es_nil ?_)))
      refine o_some (evBi_len S7.shar.heads (by rw [ivs_len]; unfold lim; (first | lia | omega))) ?_
      refine o_some (cmp_ne _ _) ?_
      refine if_f (by rw [ivs_len, hkl]; simp) ?_
      refine b_nil ?_
      exact loop1 Wm hc h24 hT hi n (Rm.eraseIdx j) (L ++ [Rm[j]]) _ σ7 K (by (first | lia | omega)) S7 Y1 h
end
end Mine
namespace Mine
open PySem

/-! the law's later loops -/
noncomputable def otherB : List Stm := [.expr (.meth (.loc Nm.n_other) Fn.sh_enter_part [(.loc Nm.n_t)])]
noncomputable def earlyB : List Stm := [.expr (.meth (.loc Nm.n_early) Fn.sh_add_term [(.loc Nm.n_t)])]
noncomputable def walkE : E := .comp (.loc Nm.n_one) Nm.n_one (.meth (.loc Nm.n_bank) Fn.bk_parts [(.loc Nm.n_t)]) [(.cmp Cop.notin (.loc Nm.n_one) (.loc Nm.n_walked))]
noncomputable def walkB : List Stm := [.expr (.lm Lm.extend (.loc Nm.n_walked) [walkE])]
section
variable {σ : Sto} {ts : List TK} {k : Nat} {P : Nat → Prop} {A : List Int} {n0 : Nat} {l : Locs} {K : Fl → Locs → Sto → Prop}
theorem other_loop (R : Rd σ ts) (X : Wr ts) (hk : 13 < k) (H : Shar σ ts k P [] []) (hP : ∀ n, P n → σ.length ≤ n) (hA : ∀ x ∈ A, ∃ q, Tm ts x q) (hAl : A.length < 90) (e : σ[n0]? = some (.lst (ivs A))) (hn : k + 5 < n0) (h1 : l .n_other = some (.ref k))
    (h : ∀ l' σ', (∀ x, x ≠ .n_t → l' x = l x) → Shar σ' ts k P A [] → Fr4 k P σ σ' → K .next l' σ') :
    goFor (fun v l σ k => opt (bindT (.nm Nm.n_t) v l) fun l => evB (Sp 7) otherB l σ k) (some (n0, ivs A)) (ivs A) l σ K := by
  have n0lt := (List.getElem?_eq_some_iff.mp e).1
  refine for_inv (fun r l' σ' => ∃ A1 A2, A = A1 ++ A2 ∧ r = ivs A2 ∧ (∀ x, x ≠ .n_t → l' x = l x) ∧ Shar σ' ts k P A1 [] ∧ Fr4 k P σ σ') (fun v r l' σ' K I hK => ?_) _ _ _ _ ⟨[], A, rfl, rfl, fun _ _ => rfl, H, Fr4.refl⟩ (fun l' σ' I => ?_)
  · obtain ⟨A1, A2, hs, hr, hl', HS, F⟩ := I
    cases A2 with
    | nil => cases hr
    | cons x A2 =>
      obtain ⟨rfl, rfl⟩ : v = .int x ∧ r = ivs A2 := List.cons.inj hr
      obtain ⟨q, hq⟩ := hA x (by rw [hs]; simp)
      have hlen : A.length = A1.length + (A2.length + 1) := by rw [hs, List.length_append]; rfl
      have hA1 : ∀ y ∈ A1, ∃ q, Tm ts y q := fun y hy => hA y (by rw [hs]; exact List.mem_append_left _ hy)
      have hsl := shared_len4 X hA1
      have hx : ∀ y, y ≠ .n_t → upd l' .n_t (.int x) y = l y := fun y hy => by
        show (if y = Nm.n_t then _ else l' y) = _
        rw [if_neg hy]; exact hl' y hy
      refine o_some (a := upd l' .n_t (.int x)) rfl ?_
      unfold otherB
      refine b_expr (e_meth (n := k) ((hx _ (by decide)).trans h1) (shar_cls HS.inst) (es_cons (e_loc (v := .int x) rfl (es_nil ?_))))
      refine enter_ok (d := 4) (R.four F hk H.low) X hk HS hq (by (first | lia | omega)) (by (first | lia | omega)) fun σ2 H2 F2 => ?_
      refine b_nil ?_
      have F3 := F.trans F2.four
      exact (hK _ _ (lst_of (F3.kept n0 _ (fun z => by have := hP _ z; (first | lia | omega)) (by (first | lia | omega)) (by (first | lia | omega)) (by (first | lia | omega)) (by (first | lia | omega)) e)) ⟨A1 ++ [x], A2, by rw [hs, List.append_assoc]; rfl, rfl, hx, H2, F3⟩).1
  · obtain ⟨A1, A2, hs, hr, hl', HS, F⟩ := I
    cases A2 with
    | cons _ _ => cases hr
    | nil =>
      rw [List.append_nil] at hs
      subst hs
      exact h l' σ' hl' HS F
theorem early_loop (R : Rd σ ts) (X : Wr ts) (hk : 13 < k) (H : Shar σ ts k P [] []) (hP : ∀ n, P n → σ.length ≤ n) (hA : ∀ x ∈ A, ∃ q, Tm ts x q) (e : σ[n0]? = some (.lst (ivs A))) (hn : k + 5 < n0) (h1 : l .n_early = some (.ref k))
    (h : ∀ l' σ' W', (∀ x, x ≠ .n_t → l' x = l x) → Shar σ' ts k P (A.foldl (addP ts) []) W' → Fr4 k P σ σ' → K .next l' σ') :
    goFor (fun v l σ k => opt (bindT (.nm Nm.n_t) v l) fun l => evB (Sp 7) earlyB l σ k) (some (n0, ivs A)) (ivs A) l σ K := by
  have n0lt := (List.getElem?_eq_some_iff.mp e).1
  refine for_inv (fun r l' σ' => ∃ A1 A2 W', A = A1 ++ A2 ∧ r = ivs A2 ∧ (∀ x, x ≠ .n_t → l' x = l x) ∧ Shar σ' ts k P (A1.foldl (addP ts) []) W' ∧ W'.map (·.1) = A1.foldl (addP ts) [] ∧ Fr4 k P σ σ') (fun v r l' σ' K I hK => ?_) _ _ _ _ ⟨[], A, [], rfl, rfl, fun _ _ => rfl, H, rfl, Fr4.refl⟩ (fun l' σ' I => ?_)
  · obtain ⟨A1, A2, W', hs, hr, hl', HS, hW, F⟩ := I
    cases A2 with
    | nil => cases hr
    | cons x A2 =>
      obtain ⟨rfl, rfl⟩ : v = .int x ∧ r = ivs A2 := List.cons.inj hr
      obtain ⟨q, hq⟩ := hA x (by rw [hs]; simp)
      have hA1 : ∀ y ∈ A1, ∃ q, Tm ts y q := fun y hy => hA y (by rw [hs]; exact List.mem_append_left _ hy)
      have hx : ∀ y, y ≠ .n_t → upd l' .n_t (.int x) y = l y := fun y hy => by
        show (if y = Nm.n_t then _ else l' y) = _
        rw [if_neg hy]; exact hl' y hy
      refine o_some (a := upd l' .n_t (.int x)) rfl ?_
      unfold earlyB
      refine b_expr (e_meth (n := k) ((hx _ (by decide)).trans h1) (shar_cls HS.inst) (es_cons (e_loc (v := .int x) rfl (es_nil ?_))))
      refine add_term_ok (d := 3) (R.four F hk H.low) X hk HS hW (fold_wkd X (Wkd.nil ts) hA1) hq fun σ2 W2 H2 hW2 F2 => ?_
      refine b_nil ?_
      have F3 := F.trans F2
      exact (hK _ _ (lst_of (F3.kept n0 _ (fun z => by have := hP _ z; (first | lia | omega)) (by (first | lia | omega)) (by (first | lia | omega)) (by (first | lia | omega)) (by (first | lia | omega)) e)) ⟨A1 ++ [x], A2, W2, by rw [hs, List.append_assoc]; rfl, rfl, hx, by rw [List.foldl_append]; exact H2, by rw [List.foldl_append]; exact hW2, F3⟩).1
  · obtain ⟨A1, A2, W', hs, hr, hl', HS, hW, F⟩ := I
    cases A2 with
    | cons _ _ => cases hr
    | nil =>
      rw [List.append_nil] at hs
      subst hs
      exact h l' σ' W' hl' HS F
theorem evLm_extend {n m : Nat} {xs ys : List V} (e1 : σ[n]? = some (.lst xs)) (e2 : σ[m]? = some (.lst ys)) (h : n ≠ m) (h1 : xs.length < lim) (h2 : ys.length < lim) : evLm σ .extend (.ref n) [.ref m] = some (.none, σ.set n (.lst (xs ++ ys))) := (bnd_of (lst_of e1)).trans ((bnd_of (lst_of e2)).trans (gd_of ⟨h, h1, h2⟩))
theorem walk_loop (R : Rd σ ts) (X : Wr ts) {nW : Nat} (hA : ∀ x ∈ A, ∃ q, Tm ts x q) (e : σ[n0]? = some (.lst (ivs A))) (eW : σ[nW]? = some (.lst [])) (hn : n0 ≠ nW) (hW : 13 < nW) (h1 : l .n_bank = some (.ref 3)) (h2 : l .n_walked = some (.ref nW))
    (h : ∀ l' σ', (∀ x, x ≠ .n_t → l' x = l x) → (∀ n o, n ≠ nW → σ[n]? = some o → σ'[n]? = some o) → σ'[nW]? = some (.lst (ivs (A.foldl (addP ts) []))) → K .next l' σ') :
    goFor (fun v l σ k => opt (bindT (.nm Nm.n_t) v l) fun l => evB (Sp 7) walkB l σ k) (some (n0, ivs A)) (ivs A) l σ K := by
  have hN := R.len
  refine for_inv (fun r l' σ' => ∃ A1 A2, A = A1 ++ A2 ∧ r = ivs A2 ∧ (∀ x, x ≠ .n_t → l' x = l x) ∧ (∀ n o, n ≠ nW → σ[n]? = some o → σ'[n]? = some o) ∧ σ'[nW]? = some (.lst (ivs (A1.foldl (addP ts) [])))) (fun v r l' σ' K I hK => ?_) _ _ _ _ ⟨[], A, rfl, rfl, fun _ _ => rfl, fun _ _ _ e => e, eW⟩ (fun l' σ' I => ?_)
  · obtain ⟨A1, A2, hs, hr, hl', kept, hw⟩ := I
    cases A2 with
    | nil => cases hr
    | cons x A2 =>
      obtain ⟨rfl, rfl⟩ : v = .int x ∧ r = ivs A2 := List.cons.inj hr
      obtain ⟨q, hq⟩ := hA x (by rw [hs]; simp)
      have hA1 : ∀ y ∈ A1, ∃ q, Tm ts y q := fun y hy => hA y (by rw [hs]; exact List.mem_append_left _ hy)
      have hWk := fold_wkd X (Wkd.nil ts) hA1
      have hWl := hWk.len
      have hx : ∀ y, y ≠ .n_t → upd l' .n_t (.int x) y = l y := fun y hy => by
        show (if y = Nm.n_t then _ else l' y) = _
        rw [if_neg hy]; exact hl' y hy
      have R' : Rd σ' ts := ⟨kept _ _ (by (first | lia | omega)) R.bank, kept _ _ (by (first | lia | omega)) R.wid, kept _ _ (by (first | lia | omega)) R.ops, kept _ _ (by (first | lia | omega)) R.args, kept _ _ (by (first | lia | omega)) R.sorts, kept _ _ (by (first | lia | omega)) R.datas, R.len⟩
      refine o_some (a := upd l' .n_t (.int x)) rfl ?_
      unfold walkB walkE
      refine b_expr (e_lm (e_loc ((hx _ (by decide)).trans h2) ?_))
      refine o_if (lmOk_lst (by intro z; cases z) hw) ?_
      refine es_cons (e_comp (e_meth (n := 3) ((hx _ (by decide)).trans h1) R'.cls (es_cons (e_loc (v := .int x) rfl (es_nil ?_)))))
      refine parts_ok (d := 5) R' X hq fun σ1 n1 E1 e1 hn1 => ?_
      have hPl := tms_len (parts_nodup X hq) (parts_tm X hq)
      refine o_some (itemsOf_lst e1 (by rw [ivs_len]; (first | lia | omega))) ?_
      have w1 := E1 _ _ hw
      refine sift_comp (g := some (n1, ivs (partsOf ts x))) (lst_of e1) (fun y => decide (y ∉ A1.foldl (addP ts) [])) rfl (fun y hy K hK => ?_) ?_
      · refine ifs_one (t_cmp (e_loc (v := .int y) rfl (e_loc (v := .ref nW) ((hx _ (by decide)).trans h2) ?_)))
        refine o_some (show evCmp σ1 .notin (.int y) (.ref nW) = some (!decide (y ∈ A1.foldl (addP ts) [])) by unfold evCmp; dsimp only; rw [amem_lst w1]; rfl) ?_
        by_cases z : y ∈ A1.foldl (addP ts) []
        · refine if_f (by rw [decide_eq_true z]; rfl) ?_
          rw [decide_eq_false (not_not_intro z)] at hK; exact hK
        · refine if_t (by rw [decide_eq_false z]; rfl) ?_
          rw [decide_eq_true z] at hK; exact hK
      have hfl := List.length_filter_le (fun y => decide (y ∉ A1.foldl (addP ts) [])) (partsOf ts x)
      have E2 := Ext.push σ1 (.lst (ivs ((partsOf ts x).filter fun y => decide (y ∉ A1.foldl (addP ts) []))))
      have e2 := push_last σ1 (.lst (ivs ((partsOf ts x).filter fun y => decide (y ∉ A1.foldl (addP ts) []))))
      generalize σ1 ++ [.lst (ivs ((partsOf ts x).filter fun y => decide (y ∉ A1.foldl (addP ts) [])))] = σ2 at E2 e2 ⊢
      refine es_nil ?_
      have wlt := (List.getElem?_eq_some_iff.mp w1).1
      refine o_some (evLm_extend (E2 _ _ w1) e2 (by (first | lia | omega)) (by rw [ivs_len]; unfold lim; (first | lia | omega)) (by rw [ivs_len]; unfold lim; (first | lia | omega))) ?_
      dsimp only
      refine b_nil ?_
      have kept2 : ∀ n o, n ≠ nW → σ[n]? = some o → (σ2.set nW (.lst (ivs (A1.foldl (addP ts) []) ++ ivs ((partsOf ts x).filter fun y => decide (y ∉ A1.foldl (addP ts) [])))))[n]? = some o := fun n o hne e => by
        rw [List.getElem?_set_ne (fun z => hne z.symm)]; exact E2 _ _ (E1 _ _ (kept n o hne e))
      refine (hK _ _ (lst_of (kept2 n0 _ hn e)) ⟨A1 ++ [x], A2, by rw [hs, List.append_assoc]; rfl, rfl, hx, kept2, ?_⟩).1
      rw [List.getElem?_set_self (List.getElem?_eq_some_iff.mp (E2 _ _ w1)).1, ← ivs_app, List.foldl_append]
      rfl
  · obtain ⟨A1, A2, hs, hr, hl', kept, hw⟩ := I
    cases A2 with
    | cons _ _ => cases hr
    | nil =>
      rw [List.append_nil] at hs
      subst hs
      exact h l' σ' hl' kept hw
end
end Mine
namespace Mine
open PySem

/-! the law's tail -/
noncomputable def lawT : List Stm := [
  .asgT [Nm.n_other, Nm.n_early] (.tup [(.new Cls.Sharing [(.loc Nm.n_bank)]), (.new Cls.Sharing [(.loc Nm.n_bank)])]),
  .for (.nm Nm.n_t) (.e (.rev (.loc Nm.n_entered))) otherB,
  .for (.nm Nm.n_t) (.e (.bin Bop.add (.loc Nm.n_entered) (.loc Nm.n_entered))) earlyB,
  .asg Nm.n_walked (.list []),
  .for (.nm Nm.n_t) (.e (.loc Nm.n_entered)) walkB,
  .ite (.cmp Cop.ne (.call Fn.law_told [(.loc Nm.n_early), (.loc Nm.n_some)]) (.call Fn.law_due [(.loc Nm.n_bank), (.loc Nm.n_walked)])) [
    .ret (.lit (.bool false))] [],
  .ret (.and (.cmp Cop.eq (.call Fn.law_told [(.loc Nm.n_other), (.loc Nm.n_some)]) (.call Fn.law_due [(.loc Nm.n_bank), (.rev (.loc Nm.n_entered))])) (.cmp Cop.eq (.meth (.loc Nm.n_other) Fn.sh_shared_terms []) (.meth (.loc Nm.n_sharing) Fn.sh_shared_terms [])))]
theorem evRev_lst {σ : Sto} {n : Nat} {L : List Int} (e : σ[n]? = some (.lst (ivs L))) (h : L.length < lim) : evRev σ (.ref n) = some (.ref σ.length, σ ++ [.lst (ivs L.reverse)]) := by
  have h' : (ivs L).length < lim := by rw [ivs_len]; exact h
  refine (bnd_of (lst_of e)).trans ((gd_of h').trans (show some (V.ref σ.length, σ ++ [AObj.lst (ivs L).reverse]) = _ from ?_))
  rw [show (ivs L).reverse = ivs L.reverse from (List.map_reverse).symm]
section
variable {σ σ' : Sto} {ts : List TK} {k : Nat} {P : Nat → Prop} {L : List Int} {W' : List (Int × V)}
theorem Shar.empty (H : Shar σ ts k P [] W') : Shar σ ts k (fun r => σ.length ≤ r) [] W' where
  inst := H.inst
  walked := H.walked
  shared := H.shared
  heads := H.heads
  calls := by
    obtain ⟨m, a, b, c, f⟩ := H.calls
    exact ⟨m, a, b, fun h hh => by simp [headsOf, callsOf] at hh, fun h h' r hh => by simp [headsOf, callsOf] at hh⟩
  low := fun r hr => Nat.lt_of_lt_of_le H.klt hr
  len := fun _ h => h
theorem Fr4.at (F : Fr4 k (fun r => σ.length ≤ r) σ σ') {n : Nat} {o : AObj} (h : n < k + 1 ∨ k + 4 < n) (e : σ[n]? = some o) : σ'[n]? = some o :=
  F.kept n o (Nat.not_le.mpr (List.getElem?_eq_some_iff.mp e).1) (by (first | lia | omega)) (by (first | lia | omega)) (by (first | lia | omega)) (by (first | lia | omega)) e
theorem shared_rev : isort (dedup (sharedOf ts L.reverse)) = isort (dedup (sharedOf ts L)) := by
  refine keys_sorted (dedup_nodup _) fun x => ?_
  rw [dedup_mem]
  unfold sharedOf callsOf
  simp only [List.mem_flatMap, List.mem_filter, List.mem_reverse]
end
theorem tail_ok {w : W} {T : List Int} {i : Nat} {σ : Sto} {L : List Int} {l : Locs} {K : Fl → Locs → Sto → Prop} (Wm : Wt w.ts w.m) (h24 : w.ts.length ≤ 24) (hT : T.length ≤ 21) (hi : 25 ≤ i) (S : St1 w T i σ L []) (Y : L1 i l) (hK : ∀ l σ, K (.ret (.bool true)) l σ) :
    evB (Sp 7) lawT l σ K := by
  have X := Wm.wr
  have hlen := S.len
  rw [List.length_nil, Nat.add_zero] at hlen
  have R := S.rd (by (first | lia | omega))
  have hk1 := S.shar.klt
  have tmL := S.tmL
  have tmR : ∀ x ∈ L.reverse, ∃ q, Tm w.ts x q := fun x hx => tmL x (List.mem_reverse.mp hx)
  have tmLL : ∀ x ∈ L ++ L, ∃ q, Tm w.ts x q := fun x hx => (List.mem_append.mp hx).elim (tmL x) (tmL x)
  unfold lawT
  refine b_asgT (e_tup (es_cons (e_newS (es_cons (e_loc Y.bank (es_nil ?_))))))
  refine sharing_init_ok (d := 6) (o_some rfl ?_)
  have H2 := shar_new (σ := σ) (ts := w.ts)
  have Eb : Ext σ (σ ++ [AObj.inst Cls.Sharing (sharFs σ.length), AObj.dI [], AObj.dI [], AObj.lst [], AObj.dI [], AObj.dI []]) := fun n o e => by
    rw [List.getElem?_append_left (List.getElem?_eq_some_iff.mp e).1]; exact e
  have lb : (σ ++ [AObj.inst Cls.Sharing (sharFs σ.length), AObj.dI [], AObj.dI [], AObj.lst [], AObj.dI [], AObj.dI []]).length = σ.length + 6 := by rw [List.length_append]; rfl
  generalize σ ++ [AObj.inst Cls.Sharing (sharFs σ.length), AObj.dI [], AObj.dI [], AObj.lst [], AObj.dI [], AObj.dI []] = σb at H2 Eb lb ⊢
  refine es_cons (e_newS (es_cons (e_loc Y.bank (es_nil ?_))))
  refine sharing_init_ok (d := 6) (o_some rfl ?_)
  have H3 := shar_new (σ := σb) (ts := w.ts)
  have Ec : Ext σb (σb ++ [AObj.inst Cls.Sharing (sharFs σb.length), AObj.dI [], AObj.dI [], AObj.lst [], AObj.dI [], AObj.dI []]) := fun n o e => by
    rw [List.getElem?_append_left (List.getElem?_eq_some_iff.mp e).1]; exact e
  have lc : (σb ++ [AObj.inst Cls.Sharing (sharFs σb.length), AObj.dI [], AObj.dI [], AObj.lst [], AObj.dI [], AObj.dI []]).length = σb.length + 6 := by rw [List.length_append]; rfl
  generalize σb ++ [AObj.inst Cls.Sharing (sharFs σb.length), AObj.dI [], AObj.dI [], AObj.lst [], AObj.dI [], AObj.dI []] = σc at H3 Ec lc ⊢
  refine es_nil ?_
  refine o_some rfl ?_
  refine o_some (a := upd (upd l .n_other (.ref σ.length)) .n_early (.ref σb.length)) rfl ?_
  have E0c := Eb.trans Ec
  -- other
  refine b_for ?_
  show evE _ _ _ _ _
  refine e_rev (e_loc (v := .ref (i + 2)) Y.ent ?_)
  refine o_some (evRev_lst (E0c _ _ S.ent) (by unfold lim; (first | lia | omega))) ?_
  dsimp only
  have Ed := Ext.push σc (.lst (ivs L.reverse))
  have ed := push_last σc (.lst (ivs L.reverse))
  have ld : (σc ++ [AObj.lst (ivs L.reverse)]).length = σc.length + 1 := by rw [List.length_append]; rfl
  generalize σc ++ [.lst (ivs L.reverse)] = σd at Ed ed ld ⊢
  have E0d := E0c.trans Ed
  refine o_some (itemsOf_lst ed (by rw [ivs_len, List.length_reverse]; (first | lia | omega))) ?_
  have H2d := (H2.ext (Ec.trans Ed)).empty
  refine other_loop (k := σ.length) (R.ext E0d) X (by (first | lia | omega)) H2d (fun _ h => h) tmR (by rw [List.length_reverse]; (first | lia | omega)) ed (by (first | lia | omega)) rfl fun l1 σe hl1 H2e F2 => ?_
  show evB _ _ _ _ _
  have E0e : Ext σ σe := fun n o e => F2.at (.inl (by have := (List.getElem?_eq_some_iff.mp e).1; (first | lia | omega))) (E0d n o e)
  have H3e := (H3.ext Ed).move' (σ' := σe) (fun n o hn e => F2.at (.inr (by (first | lia | omega))) e) F2.len
  have le := F2.len
  -- early
  refine b_for ?_
  show evE _ _ _ _ _
  have ent1 : l1 .n_entered = some (.ref (i + 2)) := (hl1 _ (by decide)).trans Y.ent
  refine e_bin (e_loc ent1 (e_loc ent1 ?_))
  have ee := E0e _ _ S.ent
  refine o_some (evBin_app (lst_of ee) (lst_of ee) (by rw [ivs_len]; unfold lim; (first | lia | omega)) (by rw [ivs_len]; unfold lim; (first | lia | omega))) ?_
  dsimp only
  rw [← ivs_app]
  have Ef := Ext.push σe (.lst (ivs (L ++ L)))
  have ef := push_last σe (.lst (ivs (L ++ L)))
  have lf : (σe ++ [AObj.lst (ivs (L ++ L))]).length = σe.length + 1 := by rw [List.length_append]; rfl
  generalize σe ++ [.lst (ivs (L ++ L))] = σf at Ef ef lf ⊢
  have E0f := E0e.trans Ef
  refine o_some (itemsOf_lst ef (by rw [ivs_len, List.length_append]; (first | lia | omega))) ?_
  have H3f := (H3e.ext Ef).empty
  refine early_loop (k := σb.length) (R.ext E0f) X (by (first | lia | omega)) H3f (fun _ h => h) tmLL ef (by (first | lia | omega)) ((hl1 _ (by decide)).trans rfl) fun l2 σg Wg hl2 H3g F3 => ?_
  show evB _ _ _ _ _
  rw [fold_twice X tmL] at H3g
  have E0g : Ext σ σg := fun n o e => F3.at (.inl (by have := (List.getElem?_eq_some_iff.mp e).1; (first | lia | omega))) (E0f n o e)
  have H2g := (H2e.ext Ef).move (σ' := σg) (fun n o hn e => F3.at (by rcases hn with z | z | z | z | z | z <;> (first | lia | omega)) e) F3.len
  have lg := F3.len
  -- walked
  refine b_asg (e_list (es_nil ?_))
  have Eh := Ext.push σg (.lst [])
  have eh := push_last σg (.lst [])
  generalize σg ++ [.lst []] = σh at Eh eh ⊢
  have E0h := E0g.trans Eh
  have hl02 : ∀ x, x ≠ .n_t → l2 x = upd (upd l .n_other (.ref σ.length)) .n_early (.ref σb.length) x := fun x hx => (hl2 x hx).trans (hl1 x hx)
  refine b_for ?_
  show evE _ _ _ _ _
  refine e_loc (v := .ref (i + 2)) ((hl02 _ (by decide)).trans Y.ent) ?_
  have eH := E0h _ _ S.ent
  refine o_some (itemsOf_lst eH (by rw [ivs_len]; (first | lia | omega))) ?_
  have ilt := (List.getElem?_eq_some_iff.mp (E0g _ _ S.ent)).1
  refine walk_loop (nW := σg.length) (R.ext E0h) X tmL eH eh (by (first | lia | omega)) (by (first | lia | omega)) ((hl02 _ (by decide)).trans Y.bank) rfl fun l3 σj hl3 kj ej => ?_
  show evB _ _ _ _ _
  have Ej : Ext σg σj := fun n o e => kj n o (Nat.ne_of_lt (List.getElem?_eq_some_iff.mp e).1) (Eh n o e)
  have H1j := S.shar.ext (E0g.trans Ej)
  have H2j := H2g.ext Ej
  have H3j := H3g.ext Ej
  have Rj := R.ext (E0g.trans Ej)
  have somej := (E0g.trans Ej) _ _ S.some'
  have entj := (E0g.trans Ej) _ _ S.ent
  have hl03 : ∀ x, x ≠ .n_t → x ≠ .n_walked → l3 x = upd (upd l .n_other (.ref σ.length)) .n_early (.ref σb.length) x := fun x h1 h2 => by
    rw [hl3 x h1]
    show (if x = Nm.n_walked then _ else l2 x) = _
    rw [if_neg h2]; exact hl02 x h1
  have hWk := fold_wkd X (Wkd.nil w.ts) tmL
  have hWl := hWk.len
  -- told(early) = due(walked)
  refine b_if (t_cmp (e_call (es_cons (e_loc (v := .ref σb.length) ((hl03 _ (by decide) (by decide)).trans rfl) (es_cons (e_loc (v := .ref i) ((hl03 _ (by decide) (by decide)).trans Y.some') (es_nil ?_)))))))
  refine told_ok (d := 5) H3j (by (first | lia | omega)) (shared_walked Wm hWk h24) somej (by (first | lia | omega)) fun σ1 v1 E1 r1 => ?_
  refine e_call (es_cons (e_loc (v := .ref 3) ((hl03 _ (by decide) (by decide)).trans Y.bank) (es_cons (e_loc (v := .ref σg.length) ((hl3 _ (by decide)).trans rfl) (es_nil ?_)))))
  refine due_ok (d := 4) (Rj.ext E1) X (E1 _ _ ej) (by (first | lia | omega)) hWk.tms (shared_walked Wm hWk h24) fun σ2 v2 E2 r2 => ?_
  refine o_some (ne_due (rd_ext E2 4 v1 _ r1) r2) ?_
  refine if_f rfl ?_
  -- told(other) = due(reversed)
  have E12 := E1.trans E2
  have hR64 : (sharedOf w.ts L.reverse).length < 64 := shared_len Wm tmR (by rw [List.length_reverse]; (first | lia | omega))
  have hL64 : (sharedOf w.ts L).length < 64 := shared_len Wm tmL (by (first | lia | omega))
  refine b_ret (e_and (e_cmp (e_call (es_cons (e_loc (v := .ref σ.length) ((hl03 _ (by decide) (by decide)).trans rfl) (es_cons (e_loc (v := .ref i) ((hl03 _ (by decide) (by decide)).trans Y.some') (es_nil ?_))))))))
  refine told_ok (d := 5) (H2j.ext E12) (by rw [List.length_reverse]; (first | lia | omega)) hR64 (E12 _ _ somej) (by (first | lia | omega)) fun σ3 v3 E3 r3 => ?_
  have E13 := E12.trans E3
  refine e_call (es_cons (e_loc (v := .ref 3) ((hl03 _ (by decide) (by decide)).trans Y.bank) (es_cons (e_rev (e_loc (v := .ref (i + 2)) ((hl03 _ (by decide) (by decide)).trans Y.ent) ?_)))))
  refine o_some (evRev_lst (E13 _ _ entj) (by unfold lim; (first | lia | omega))) ?_
  dsimp only
  have E4 := Ext.push σ3 (.lst (ivs L.reverse))
  have e4 := push_last σ3 (.lst (ivs L.reverse))
  generalize σ3 ++ [.lst (ivs L.reverse)] = σ4 at E4 e4 ⊢
  refine es_nil ?_
  have E14 := E13.trans E4
  refine due_ok (d := 4) (Rj.ext E14) X e4 (by rw [List.length_reverse]; (first | lia | omega)) tmR hR64 fun σ5 v5 E5 r5 => ?_
  refine o_some (eq_due (rd_ext E5 4 v3 _ (rd_ext E4 4 v3 _ r3)) r5) ?_
  show evE _ _ _ _ _
  have E15 := E14.trans E5
  -- the shared terms
  refine e_cmp (e_meth (n := σ.length) ((hl03 _ (by decide) (by decide)).trans rfl) (shar_cls (H2j.ext E15).inst) (es_nil ?_))
  refine shared_terms_ok (d := 6) (H2j.ext E15) hR64 ?_
  have E6 := Ext.push σ5 (.lst (ivs (isort (dedup (sharedOf w.ts L.reverse)))))
  have e6 := push_last σ5 (.lst (ivs (isort (dedup (sharedOf w.ts L.reverse)))))
  generalize σ5 ++ [.lst (ivs (isort (dedup (sharedOf w.ts L.reverse))))] = σ6 at E6 e6 ⊢
  have E16 := E15.trans E6
  refine e_meth (n := i + 3) ((hl03 _ (by decide) (by decide)).trans Y.sharing) (shar_cls (H1j.ext E16).inst) (es_nil ?_)
  refine shared_terms_ok (d := 6) (H1j.ext E16) hL64 ?_
  rw [shared_rev] at e6
  refine o_some (eq_lists ((Ext.push _ _) _ _ e6) (push_last _ _)) ?_
  exact hK _ _
end Mine
open PySem PySem.W PyProof.Rows
namespace Mine
theorem left_of {p q : Program} {loose : List Str} {Xt : Shared → Bool} {α : Type} {Yf : Shared → α} {Ya : World → α} {H₀ : Params → Heap} {d₀ : Drawn} {k₀ : Nat} {m₀ : Nat} {ann : Option Value} {N : Nat} {T0 : World → OsState → SharedT}
    (open_ : ∀ w : World, (fencedOpening treeTable p w N).map (fun s => (s.heap, s.gens, s.drawn, s.toks)) = some (H₀ w.params, Array.mk [], d₀, k₀))
    (size : ∀ w : World, ((H₀ w.params).isNs mainGlobals && (Array.mk [] : Array GenState).size == 0, (H₀ w.params).objs.size, (H₀ w.params).nsMap mainGlobals "__annotations__") = (true, m₀, ann))
    (habs : ∀ w os, (T0 w os).abs = ⟨H₀ w.params, Array.mk [], d₀, k₀, os⟩)
    (run1 : ∀ w os, (topT PySem.W.Fast.tw14364793385576792824 p w m₀ ann N (T0 w os) (topStub p)).map (fun s => staticsOk (importedModules p.main.body) (H₀ w.params) s.abs.heap && namesBound p s.abs.heap && gensDone s.abs && laidKept (H₀ w.params) s.abs.heap) = some true)
    (run2 : ∀ w os, (topT PySem.W.Fast.tw14364793385576792824 p w m₀ ann N (T0 w os) (topStub p)).map (fun s => PySem.W.Fast.tw4187177175401517315 q loose (importedModules p.main.body) Xt true s.abs) = some (openGood q loose))
    (run3 : ∀ w os, (topT PySem.W.Fast.tw14364793385576792824 p w m₀ ann N (T0 w os) (topStub p)).map (fun s => Yf s.abs) = some (Ya w)) : LeftO p q loose Xt Yf Ya N := fun w => by
  obtain ⟨⟨h, gs, d, k, os⟩, e, e'⟩ := Option.map_eq_some_iff.mp (open_ w)
  obtain ⟨rfl, rfl, rfl, rfl⟩ : h = H₀ w.params ∧ gs = Array.mk [] ∧ d = d₀ ∧ k = k₀ := by simpa using e'
  obtain ⟨s, hs, l1⟩ := Option.map_eq_some_iff.mp (run1 w os)
  have l2 := run2 w os
  have l3 := run3 w os
  rw [hs] at l2 l3
  have l2 := Option.some.inj l2
  have l3 := Option.some.inj l3
  obtain ⟨z1, z2⟩ := Prod.mk.inj (size w)
  obtain ⟨z2, z3⟩ := Prod.mk.inj z2
  rw [← PySem.W.Fast.te4187177175401517315] at l2
  rw [← PySem.W.Fast.te14364793385576792824] at hs
  have r := topT_of hs
  rw [habs] at r
  have t : topFrom treeTable p w N ⟨H₀ w.params, Array.mk [], d, k, os⟩ = some s.abs := by
    unfold topFrom
    dsimp only
    rw [z1, z2, z3, r]
    show (match staticsOk (importedModules p.main.body) (H₀ w.params) s.abs.heap && namesBound p s.abs.heap && gensDone s.abs && laidKept (H₀ w.params) s.abs.heap with | true => _ | false => _) = _
    rw [l1]
  unfold openEnds
  rw [e]
  show (topFrom treeTable p w N _).map _ = _
  rw [t]
  exact congrArg some (Prod.ext l2 l3)
end Mine
open PySem PySem.W PyProof.Rows
namespace Mine
noncomputable def q39 : Program := view PySem.Challenge.rw_rg0214_01.row.prog [0, 2, 3, 4, 6, 7, 8, 9, 10, 11, 12, 13, 15, 17, 18, 19, 20, 21, 22, 23]
noncomputable def Xt39 (s : Shared) : Bool := xlAt q39 [] s && recOk (RowW.records PySem.Challenge.rw_rg0214_01.row.toRowW) s
noncomputable def Yf39 (s : Shared) : Bool := allOk (fragOf s.heap)
theorem run39a (w : World) (os : OsState) : (topT PySem.W.Fast.tw14364793385576792824 PySem.Challenge.rw_rg0214_01.row.prog w 11 (some (.ref 6)) 9948 (boot0 w os) (topStub PySem.Challenge.rw_rg0214_01.row.prog)).map (fun s => staticsOk (importedModules PySem.Challenge.rw_rg0214_01.row.prog.main.body) (boot_heap w.params) s.abs.heap && namesBound PySem.Challenge.rw_rg0214_01.row.prog s.abs.heap && gensDone s.abs && laidKept (boot_heap w.params) s.abs.heap) = some true := by kernel_rfl
theorem run39b (w : World) (os : OsState) : (topT PySem.W.Fast.tw14364793385576792824 PySem.Challenge.rw_rg0214_01.row.prog w 11 (some (.ref 6)) 9948 (boot0 w os) (topStub PySem.Challenge.rw_rg0214_01.row.prog)).map (fun s => PySem.W.Fast.tw4187177175401517315 q39 [] (importedModules PySem.Challenge.rw_rg0214_01.row.prog.main.body) Xt39 true s.abs) = some (openGood q39 []) := by kernel_rfl
theorem run39c (w : World) (os : OsState) : (topT PySem.W.Fast.tw14364793385576792824 PySem.Challenge.rw_rg0214_01.row.prog w 11 (some (.ref 6)) 9948 (boot0 w os) (topStub PySem.Challenge.rw_rg0214_01.row.prog)).map (fun s => Yf39 s.abs) = some true := by kernel_rfl
theorem left39 : LeftO PySem.Challenge.rw_rg0214_01.row.prog q39 [] Xt39 Yf39 (fun _ => true) 9948 :=
  left_of (H₀ := boot_heap) (d₀ := boot_drawn) (k₀ := boot_toks) (m₀ := 11) (ann := some (.ref 6)) (T0 := boot0) (boot_open (by kernel_rfl) (by decide) (fun s => by kernel_rfl)) (fun w => by kernel_rfl) boot0_abs run39a run39b run39c
end Mine
namespace Mine
open PySem PySem.W PySem.Calls PyProof.Rows

theorem k_mfd (f : Fn) (h : f.isMeth = true) (d : Fd) : d.str ≠ f.nm :=
  (by decide +kernel : ∀ f ∈ allFn, f.isMeth = true → ∀ d ∈ allFd, d.str ≠ f.nm) f (mem_allFn f) h d (mem_allFd d)
theorem k_boot (b : Bi) : bootBuiltins b.nam = some b.val := by cases b <;> kernel_rfl
theorem k_bnam (b : Bi) : b.nam ≠ "__name__" := by cases b <;> decide +kernel
theorem k_top : (Challenge.rw_rg0214_01.row.prog.main.scope.names.lookup ("super" : Str)).isSome = false := by kernel_rfl
theorem k_boots : bootBuiltins "super" = some (.type "super") := by kernel_rfl

section
variable {K : Frag}
theorem Facts.cl (F : Facts K) (C : Cls) : findIn K (.ref (ca C)) "__getattribute__" = some (some (.builtin "object.__getattribute__")) ∧ findIn K (.ref (ca C)) "__getattr__" = some none ∧
    findIn K (.ref (ca C)) "__setattr__" = some (some (.builtin "object.__setattr__")) ∧ plainOver K (ca C) = true ∧ hasDictIn K (ca C) = true ∧ makesIn K (ca C) = true ∧ (∀ f : Fd, findIn K (.ref (ca C)) f.str = some none) ∧
    nsIn K mainGlobals C.str = some (some (.ref (ca C))) := by
  have h := F.cls C
  unfold clsOk at h
  simp only [Bool.and_eq_true, beq_iff_eq, List.all_eq_true] at h
  obtain ⟨h1, h2, h3, h4, h5, h6, h7, h8⟩ := h
  exact ⟨h1, h2, h3, h4, h5, h6, fun f => h7 f (mem_allFd f), h8⟩
theorem Facts.fns (F : Facts K) (f : Fn) : (f.isMeth = true → findIn K (.ref (ca f.owner)) f.nm = some (some (.ref (fa f)))) ∧ typeIn K (.ref (fa f)) = some (.type "function") ∧ (f.isFun = true → nsIn K mainGlobals f.nm = some (some (.ref (fa f)))) ∧
    ∃ fd, fdAt K (fa f) = some fd ∧ bindOk f fd = true ∧ (f ≠ .termbank_init → ffOk K f fd = true) := by
  have h := F.fn f
  unfold fnOk at h
  simp only [Bool.and_eq_true, Bool.or_eq_true, Bool.not_eq_true', beq_iff_eq] at h
  obtain ⟨h1, h2, h3, h4⟩ := h
  refine ⟨fun z => h1.resolve_left (by rw [z]; exact Bool.noConfusion), h2, fun z => h3.resolve_left (by rw [z]; exact Bool.noConfusion), ?_⟩
  split at h4
  · rename_i fd hfd
    simp only [Bool.and_eq_true, Bool.or_eq_true, decide_eq_true_eq] at h4
    exact ⟨fd, hfd, h4.1, fun z => h4.2.resolve_left z⟩
  · cases h4
theorem Facts.glo (F : Facts K) (g : Gl) : ∃ t, nsIn K mainGlobals g.str = some (some (.int g.val t)) := by
  have h := F.gl g
  unfold glOk at h
  split at h
  · rename_i i t e
    rw [e, eq_of_beq h]; exact ⟨t, rfl⟩
  · cases h

end

theorem pf {w : World} {h : Heap} {K : Frag} {mg mb : Str → Option Value} (F : Facts K) (X : K.In h) (g : h.Ns mainGlobals mg) (b : h.Ns builtinsNs mb) (hb : ∀ x : Str, x ≠ "__name__" → mb x = bootBuiltins x) (sy : h.NoSeer) :
    PF (G1 w h) fa K mg mb where
  gok := ⟨by obtain ⟨mm, ⟨o, es, ep, e, _⟩, _⟩ := sy.mods; show (h.get? sysModules).isSome = true; rw [e]; rfl⟩
  kin := X
  cls := fun C => ⟨(F.cl C).1, (F.cl C).2.1, (F.cl C).2.2.1, (F.cl C).2.2.2.1, (F.cl C).2.2.2.2.1, (F.cl C).2.2.2.2.2.2.1⟩
  mks := fun C => (F.cl C).2.2.2.2.2.1
  meth := fun f hf => ⟨(F.fns f).1 hf, (F.fns f).2.1⟩
  mfd := k_mfd
  nmg := g
  nmb := b
  gfn := fun f hf => mg_of X g ((F.fns f).2.2.1 hf)
  gcl := fun c => mg_of X g (F.cl c).2.2.2.2.2.2.2
  ggl := fun x => (F.glo x).imp fun _ e => mg_of X g e
  gbi := fun x => ⟨mg_none_of X g (F.bi x), (hb _ (k_bnam x)).trans (k_boot x)⟩
  gset := ⟨mg_none_of X g (F.no "set" (by decide)), (hb _ (by decide +kernel)).trans (by kernel_rfl)⟩
  grange := ⟨mg_none_of X g (F.no "range" (by decide)), (hb _ (by decide +kernel)).trans (by kernel_rfl)⟩
  gzip := ⟨mg_none_of X g (F.no "zip" (by decide)), (hb _ (by decide +kernel)).trans (by kernel_rfl)⟩
  grev := ⟨mg_none_of X g (F.no "reversed" (by decide)), (hb _ (by decide +kernel)).trans (by kernel_rfl)⟩
  fn := fun f => by
    obtain ⟨fd, e, _⟩ := (F.fns f).2.2.2
    obtain ⟨o, h1, h2⟩ := fd_of X e
    exact ⟨o, fd, h1, h2⟩
  init := ⟨F.ini, (F.fns .termbank_init).2.1, F.ini2, (F.fns .sharing_init).2.1⟩

theorem ff {w : World} {h : Heap} {K : Frag} (F : Facts K) (X : K.In h) (f : Fn) (hf : f ≠ .termbank_init) : FF (G1 w h) fa f := by
  obtain ⟨fd, e, hbd, hok⟩ := (F.fns f).2.2.2
  have hok := hok hf
  obtain ⟨o, h1, h2⟩ := fd_of X e
  unfold ffOk at hok
  simp only [Bool.and_eq_true, Bool.not_eq_true', beq_iff_eq] at hok
  obtain ⟨a1, a2, a3, a4, a5, a6, a7, a8, a9, a10⟩ := hok
  obtain ⟨bx, hbx, a1⟩ := onBody_el a1
  obtain ⟨vs, e1, e2⟩ := Option.bind_eq_some_iff.mp a10
  obtain ⟨c, oc, hc, hoc, hvs⟩ := codeVs_of X e1
  obtain ⟨t, ht⟩ := strAt_of e2
  exact ⟨⟨o, fd, bx, h1, h2, hbx, a1, List.isEmpty_iff.mp a2, a3, a4, a5, a6, a7, a8, a9, fun cs hcs => bind_of hbd hcs, c, oc, vs, t, hc, hoc, hvs, ht⟩, k_nodup f⟩

theorem tiCode_of {K : Frag} {file q : Str} {v : Value} (e : tiCode K file q v = true) : ∃ c o vs tf tq, v = .ref c ∧ K.lookup c = some o ∧ o.data = .fields vs ∧ vs[2]? = some (.str file tf) ∧ vs[1]? = some (.str q tq) := by
  unfold tiCode at e
  cases ec : codeVs K v with
  | none => rw [ec] at e; cases e
  | some vs =>
    rw [ec] at e
    obtain ⟨e1, e2⟩ := Bool.and_eq_true_iff.mp e
    obtain ⟨tf, h1⟩ := strAt_of (eq_of_beq e1)
    obtain ⟨tq, h2⟩ := strAt_of (eq_of_beq e2)
    obtain ⟨c, hc, e⟩ := onRefV_el ec
    obtain ⟨o, ho, e⟩ := Option.bind_eq_some_iff.mp e
    exact ⟨c, o, vs, tf, tq, hc, ho, flds_el e, h1, h2⟩
theorem ti_shape {x : FuncBody} {P : FuncBody → Prop} (h : tiBody x = true)
    (k : ∀ p0 p1 (ap ps : Pos) q p2 p3 p4 p5, (ap.endLine == ps.line) = true → P (.stmts [.Expr (.Call (.Attribute (.Call (.Name "super" p0) [] [] p1) "__init__" ap) [] [] ps) q, .Assign [.Attribute (.Name Nm.n_self.str p2) Fd.f_bv_numbers.str p3] (.Dict [] [] p4) p5])) : P x := by
  obtain ⟨xs, rfl, h⟩ := onBody_el h
  generalize xs = xs at h ⊢
  revert xs; refine on2_all fun s1 s2 h => ?_
  rw [Bool.and_eq_true] at h; obtain ⟨h, h2⟩ := h
  revert s1; refine onEx_all fun c q h => ?_
  revert c; refine onCallA_all fun o ini ap xs ps h => ?_
  revert xs; refine onNil_all fun h => ?_
  revert o; refine onCallN_all fun su p0 ys p1 h => ?_
  revert ys; refine onNil_all fun h => ?_
  simp only [Bool.and_eq_true, decide_eq_true_eq] at h
  obtain ⟨rfl, rfl, hl⟩ := h
  revert s2; refine onAsg_all fun ts v p5 h => ?_
  revert ts; refine on1_all fun t1 h => ?_
  revert t1; refine onAttr_all fun b a p3 h => ?_
  revert b; refine onName_all fun se p2 h => ?_
  revert v; refine onDict_all fun ks vs p4 h => ?_
  revert ks; refine onNil_all fun h => ?_
  revert vs; refine onNil_all fun h => ?_
  simp only [Bool.and_eq_true, decide_eq_true_eq] at h
  obtain ⟨rfl, rfl⟩ := h
  exact k p0 p1 ap ps q p2 p3 p4 p5 hl

section
variable {prog : Program} {w : World} {A : Around} {E : Value → Shared → Prop} {s : Shared} {env : Env} {c : Code}
/-- a method's call without arguments, in a known activation -/
theorem callMethAt {o : Expr} {name : Str} {ap ps : Pos} {Q : Value → Shared → Prop} (hl : (ap.endLine == ps.line) = true)
    (h : _root_.PySem.wpAt (model prog w) A c (attributeBase o name env (eval o env)) (fun ov s₁ => wpAny (model prog w) A (getMethod ov name (do return (← importBound o env).getD true)) (fun r s₂ => wpAny (model prog w) A (callWith ps r.1 r.2 (backTo ps (starEach [] env)) []) Q E s₂) E s₁) E s) :
    _root_.PySem.wpAt (model prog w) A c (eval (.Call (.Attribute o name ap) [] [] ps) env) Q E s := by
  rw [arm_eval_Call]
  refine _root_.PySem.wpAt_bind (ks_wpAt_mono h (fun ov s₁ h₁ => _root_.PySem.wpAt_of_wpAny (wpAny_bind (wpAny_standAt ?_))) fun _ _ e => e)
  have hform : methodCallForm (([] : List Expr).length + ([] : List Keyword).length) (backTo ps (starEach [] env)) (backToKw ps (keywordEach [] env)) = true := by
    unfold methodCallForm
    rw [trees_all ps env rfl]
    simp [backToKw, arm_keywordEach_nil]
  have hpos : methodCallPos true o env ap ps = pure ps := by unfold methodCallPos; simp [hl]
  unfold methodCall
  rw [hform]
  exact wpAny_bind (wpAny_holding (wpAny_mono h₁ (fun r s₂ h₂ => wpAny_bind (wpAny_of_eq hpos h₂)) fun _ _ e => e))
end

theorem ti_spec {d : Nat} {vs : List V} {σ : Sto} {Q : V → Sto → Prop} (e : Sp (d + 1) .termbank_init vs σ Q) : ∃ n fs, vs = [.ref n] ∧ σ[n]? = some (.inst .TermBank fs) ∧
    Sp d .bank_init [.ref n] σ fun _ σ1 => opt (setFld (σ1 ++ [.dI []]) (.ref n) .f_bv_numbers (.ref σ1.length)) fun σ4 => Q .none σ4 := by
  obtain ⟨l, el, hb⟩ := opt_some e
  obtain ⟨v, rfl, rfl⟩ : ∃ v, vs = [v] ∧ l = upd (fun _ => none) .n_self v :=
    unc_el (P := fun vs => ∃ v, vs = [v] ∧ l = upd (fun _ => none) .n_self v) el fun v r e => (Option.map_eq_some_iff.mp e).elim fun l' z => nilO_el (P := fun r => ∃ u, v :: r = [u] ∧ l = upd (fun _ => none) .n_self u) z.1 fun e2 => ⟨v, rfl, by rw [← z.2]; cases e2; rfl⟩
  have hb : opt (some v) fun v => opt v.ref? fun n => if σ.cls n = some .TermBank then Sp d .bank_init [.ref n] σ fun _ σ1 => opt (some v) fun v => opt (setFld (σ1 ++ [.dI []]) v .f_bv_numbers (.ref σ1.length)) fun σ4 => Q .none σ4 else False := hb
  obtain ⟨n, hn, hb⟩ := opt_some (show opt v.ref? _ from hb)
  cases V.ref?_eq hn
  by_cases hc : σ.cls n = some .TermBank
  · rw [if_pos hc] at hb
    obtain ⟨fs, e1⟩ := cls_some hc
    exact ⟨n, fs, rfl, e1, hb⟩
  · rw [if_neg hc] at hb; exact hb.elim

theorem term_init {w : World} {h : Heap} {K : Frag} {mg mb : Str → Option Value} (F : Facts K) (H : PF (G1 w h) fa K mg mb) (hlim : h.NoLimit) (hsup : mb "super" = some (.type "super")) (d : Nat) : TermInit (G1 w h) fa d := by
  intro S vs σ Q p s A cs hA HS R hv e
  obtain ⟨n, fs, rfl, hn, e⟩ := ti_spec e
  obtain ⟨c, cr, rfl, hc, hcr⟩ := F2.uncons hv
  cases hcr.nil_inv
  obtain ⟨rfl, hlt⟩ := hc.ref_inv
  have obj : s.heap.get? (p.φ n) = some (instObj 614 (p.δ n)) := (sto_at R hn).2.1
  obtain ⟨fd, efd, hbd, _⟩ := (F.fns .termbank_init).2.2.2
  have efd : fdAt K 513 = some fd := efd
  have X : K.In h := H.kin
  obtain ⟨o, ho, hd⟩ := fd_of X efd
  have tok := F.ti
  unfold tisOk at tok
  rw [efd] at tok
  have tok : tiOk K Challenge.rw_rg0214_01.row.prog.main.file fd = true := tok
  unfold tiOk at tok
  simp only [Bool.and_eq_true, Bool.not_eq_true', beq_iff_eq, decide_eq_true_eq] at tok
  obtain ⟨a1, a2, a3, a4, a5, a6, a7, a8, a9, a10, a11, a12, a13⟩ := tok
  have hbind : bindArgs fd ⟨[.ref (p.φ n)], []⟩ = pure [(Nm.n_self.str, .ref (p.φ n))] := bind_of (f := .termbank_init) hbd rfl
  obtain ⟨cc, oc, cvs, tf, tq, hcc, hoc, hcvs, hfile, hqn⟩ := tiCode_of a13
  have code : h.CodeRec fd.code fd.qualname := ⟨cc, oc, cvs, tq, hcc, X _ _ hoc, hcvs, hqn⟩
  revert efd hd
  have hfb : ∃ b, fd.body = b := ⟨_, rfl⟩
  obtain ⟨b, hbody⟩ := hfb
  rw [hbody] at a1
  revert hbody
  refine ti_shape (P := fun b => fd.body = b → _) a1 fun p0 p1 ap ps q p2 p3 p4 p5 hl hbody => ?_
  intro efd hd
  have XS : K.In s.heap := X.keeps R.base
  have hkind : ∀ y ∈ [(Nm.n_self.str, Value.ref (p.φ n))], fd.scope.names.lookup y.1 = some .local := fun y hy => by
    rw [List.mem_singleton.mp hy]; exact a9
  show codeAny _ _ (.call (.ref 513) _) _ _
  refine ks_codeAny_call_defAt (binds := [(Nm.n_self.str, .ref (p.φ n))]) (by have := hA.depth; (first | lia | omega)) (R.base _ _ ho) hd (Heap.NoLimit.at hlim fun o e => R.base _ _ e) (code.keeps R.base) hbody (BindsTo.of_eq hbind)
    (fun y hy z => by have := List.all_eq_true.mp a8 y hy; rw [z] at this; cases this) hkind (fun h₀ hns keep => ?_) a5 a4 a3
  have hEnv : (callEnv fd s.heap.objs.size 513).scope = fd.scope := rfl
  have R₀ : Rp (G1 w h) p σ h₀ := R.grow keep
  have X₀ : K.In h₀ := X.keeps R₀.base
  have obj₀ := keep _ _ obj
  generalize henv : callEnv fd s.heap.objs.size 513 = env at *
  have e1 : env.scope = fd.scope := by rw [← henv]; rfl
  have e2 : env.cells = fd.closure := by rw [← henv]; rfl
  have e3 : env.locals = s.heap.objs.size := by rw [← henv]; rfl
  have e4 : env.globals = mainGlobals := by rw [← henv]; exact a6
  have e5 : env.builtins = builtinsNs := by rw [← henv]; exact a7
  have e6 : env.func = some 513 := by rw [← henv]; rfl
  have e7 : env.code = .ref cc := by rw [← henv]; exact hcc
  have hk : env.scope.kind = .function := by rw [e1]; exact a3
  obtain ⟨ar, har, harg⟩ : ∃ ar, (fd.params.posonlyargs ++ fd.params.args).head? = some ar ∧ ar.arg = Nm.n_self.str := by
    cases hp : (fd.params.posonlyargs ++ fd.params.args).head? with
    | none => rw [hp] at a12; cases a12
    | some ar => rw [hp] at a12; exact ⟨ar, rfl, Option.some.inj a12⟩
  have hself : env.kindOf Nm.n_self.str = some .local := by unfold Env.kindOf; rw [e1]; exact a9
  obtain ⟨oD, hD1, cdD, hD2⟩ : ∃ oD, h₀.get? 614 = some oD ∧ ∃ cdD, oD.data = .cls cdD := by
    obtain ⟨⟨oc, od, cd, sl, hC, _⟩, _⟩ := makes_of (M := model (G1 w h).prog w) X₀ (F.cl .TermBank).2.2.2.2.2.1
    exact ⟨_, hC, cd, rfl⟩
  have hns' : h₀.Ns env.locals (fun x => [(Nm.n_self.str, Value.ref (p.φ n))].reverse.lookup x) := by rw [e3]; exact hns
  refine ks_wpAt_execs_cons (ks_wpAt_Expr_any ?_ (by unfold interactive; rw [hk]; rfl) (by rfl))
  refine callMethAt hl ?_
  refine ks_wpAt_super_base (env := env) (by unfold Env.kindOf; rw [e1]; exact a10) (by unfold Env.kindOf; rw [e1]; exact a11) (show (("__init__" : Str) == ("__class__" : Str)) = false by decide +kernel) e6 (keep _ _ (R.base _ _ ho)) hd har e7 (X₀ _ _ hoc) hcvs hfile (beq_self_eq_true _) k_top ?_
  refine ks_loadName_global hk (by unfold Env.kindOf; rw [e1]; exact a10) (loadGlobal_builtin (env := env) (mg := mg) (mb := mb) (by rw [e4]; exact H.nmg.keeps R₀.base) (mg_none_of X H.nmg (F.no "super" (by decide))) (by rw [e5]; exact H.nmb.keeps R₀.base) hsup ⟨rfl, ?_⟩)
  refine wpAny_loadName_free hk (by unfold Env.kindOf; rw [e1]; exact a11) (by rw [e2, a2]; rfl) (cell_of X₀ F.cell) ?_
  rw [harg]
  refine wpAny_loadName_local hk hself hns' rfl ?_
  refine ks_wpAny_isType_cls hD1 hD2 ⟨rfl, ?_⟩
  refine ks_wpAny_call_super hD1 hD2 obj₀ rfl (fun c z => by cases z) (looks_mroIn X₀ F.mro) fun h₁ hso keep₁ => ?_
  have obj₁ := keep₁ _ _ obj₀
  have X₁ : K.In h₁ := X₀.keeps keep₁
  have hcd : ∃ cd, clsIn K 614 = some cd ∧ alongIn K "__init__" ((cd.mro.dropWhile (· != .ref 614)).drop 1) = some (some (.ref 102)) := by
    have q := F.sin
    unfold ks_superIn at q
    obtain ⟨cd, q1, q2⟩ := Option.bind_eq_some_iff.mp q
    exact ⟨cd, q1, q2⟩
  obtain ⟨cd, hcd, hal⟩ := hcd
  obtain ⟨of, hof, hofc⟩ : ∃ of, h₁.get? 102 = some of ∧ of.cls = .type "function" := by
    obtain ⟨of, q1, q2⟩ := Option.map_eq_some_iff.mp (show (K.lookup 102).map (·.cls) = some (.type "function") from (F.fns .bank_init).2.1)
    exact ⟨of, X₁ _ _ q1, q2⟩
  have hne : p.φ n ≠ 614 := fun z => by
    have q := (R.new n hlt).1
    obtain ⟨⟨oc', od', cd', sl', hC', _⟩, _⟩ := makes_of (M := model (G1 w h).prog w) X (F.cl .TermBank).2.2.2.2.2.1
    rw [z] at q
    have hC' : (G1 w h).base.get? 614 = _ := hC'
    rw [q] at hC'; cases hC'
  refine ks_wpAny_getMethod_super hso (looks_opaque X₁ F.opq) (l₀ := cd.mro) (fun A Q E s k q => wpAny_bind ((looks_clsIn X₁ hcd) A _ E s k (wpAny_pure q))) rfl X₁ hal hof hofc hne (by decide +kernel) ?_
  have hm : (h₁.push (methodObj (.ref 102) (.ref (p.φ n)))).get? h₁.objs.size = some (methodObj (.ref 102) (.ref (p.φ n))) := Heap.get?_push_size _ rfl
  have keep₂ : ∀ b o, s.heap.get? b = some o → (h₁.push (methodObj (.ref 102) (.ref (p.φ n)))).get? b = some o := fun b o z => Heap.get?_push_of_some _ (keep₁ _ _ (keep _ _ z))
  have nsM : (h₁.push (methodObj (.ref 102) (.ref (p.φ n)))).Ns env.locals (fun x => [(Nm.n_self.str, Value.ref (p.φ n))].reverse.lookup x) := hns'.keeps fun b o z => Heap.get?_push_of_some _ (keep₁ _ _ z)
  have RM : Rp (G1 w h) p σ (h₁.push (methodObj (.ref 102) (.ref (p.φ n)))) := R.grow keep₂
  generalize h₁.push (methodObj (.ref 102) (.ref (p.φ n))) = h₂ at hm keep₂ nsM RM ⊢
  dsimp only
  refine callWith_M0 (K := K) (g := 102) (self := .ref (p.φ n)) ⟨hm, X.keeps RM.base⟩ F.fn102 ?_
  refine wpAny_call (ks_codeAny_call_bound hm ?_)
  show codeAny _ _ (.call (.ref (fa .bank_init)) ⟨[.ref (p.φ n)], []⟩) _ _
  refine codeAny_mono (HS .bank_init [.ref n] σ _ p { s with heap := h₂, toks := _ } _ [.ref (p.φ n)] (hA.body env).call RM (.cons (.ref n hlt) .nil) e) fun r s' hr => ?_
  obtain ⟨c, rfl, σ₃, h₃, tk₃, p₃, S₃, R₃, u, hu, q⟩ := hr
  obtain ⟨σ₄, e₄, q⟩ := opt_some q
  dsimp only
  refine ks_wpAt_execs_cons (_root_.PySem.wpAt_of_wpAny ?_)
  have nsL : h₃.Ns env.locals (fun x => [(Nm.n_self.str, Value.ref (p.φ n))].reverse.lookup x) := by
    refine nsM.at' fun o z => S₃.kept _ o z (fun j hj => ?_) fun w => w.elim
    have al := R.alive hj
    rw [e3]
    exact ⟨fun z => (by rw [z, none_at (Nat.le_refl _)] at al; cases al.1), fun z => (by rw [z, none_at (Nat.le_refl _)] at al; cases al.2)⟩
  refine plainObj_wpAny_Assign_Attribute ?_ (by rfl)
  refine wpAny_Dict_empty ?_
  refine wpAny_Name (wpAny_loadName_local hk hself (nsL.keeps fun b o z => Heap.get?_push_of_some _ z) rfl ?_) (nm_debug .n_self)
  obtain ⟨S₅, R₅⟩ := R₃.alloc (o := .dI []) (h' := h₃.push { cls := .type "dict", data := .dict #[] }) (fun b o z => Heap.get?_push_of_some _ z) (none_at (Nat.le_refl _)) (none_at (Nat.le_refl _)) fun _ => ⟨rfl, [], Heap.DictOf.new _, .nil⟩
  have hu5 : VR (G1 w h).base (p₃.put σ₃.length h₃.objs.size h₃.objs.size) (σ₃ ++ [AObj.dI []]).length (h₃.push { cls := .type "dict", data := .dict #[] }) (.ref h₃.objs.size) (.ref σ₃.length) := by
    have z := VR.ref (base := (G1 w h).base) (p := p₃.put σ₃.length h₃.objs.size h₃.objs.size) (n := (σ₃ ++ [AObj.dI []]).length) (h := h₃.push { cls := .type "dict", data := .dict #[] }) σ₃.length (by simp)
    rwa [(p₃.put_self ..).1] at z
  have hn5 := S₅.vr R₃ noTupW_no (S₃.vr RM noTupW_no (VR.ref (base := (G1 w h).base) (p := p) (h := h₂) n hlt))
  refine wpAny_mono (op_setattr (K := K) (s := { s with heap := h₃.push { cls := .type "dict", data := .dict #[] }, toks := tk₃ }) (X.keeps R₅.base) H.cls rfl R₅ hu5 hn5 e₄) (fun _ s' z => ?_) fun _ _ e => e
  obtain ⟨h₆, tk₆, p₆, S₆, R₆⟩ := z
  dsimp only
  refine _root_.PySem.wpAt_of_wpAny (wpAny_execs_nil ?_)
  exact ⟨.none, rfl, σ₄, h₆, tk₆, p₆, (((Stp.grow keep₂).transN S₃).transN S₅).transN S₆, R₆, .none, .none, q⟩

noncomputable def Plain : Prop := ∀ ns : List Int, ns.length ≤ 63 → evB (Sp 7) B.law (upd (fun _ => none) .n_script (.frz ns)) [] fun fl _ _ => fl = .ret (.bool true)

theorem law_walk {w : World} {K : Frag} {h₀ h₁ : Heap} {mg mb : Str → Option Value} {bx : List Stmt} {env : Env} {m : Str → Option Value} {oc : Obj} {cv : Option Value} {a : Addr} {vs : List Value} {ns : List Int} {Q : Flow → Shared → Prop} {E : Value → Shared → Prop} {g : Array GenState} {dr : Drawn} {tk : Nat} {os : OsState} (hlaw : Plain) (FK : Facts K)
    (X : K.In h₀) (hg : h₀.Ns mainGlobals mg) (hb : h₀.Ns builtinsNs mb) (hbi : ∀ x : Str, x ≠ "__name__" → mb x = bootBuiltins x) (sy : h₀.NoSeer) (hlim : h₀.NoLimit)
    (F : Fr h₀ env.locals h₁ m) (N : News h₀ env.locals h₁ [(env.locals + 1, oc)]) (hoc : oc.data = .cell cv) (L : h₀.IsList a vs.toArray) (I : IntsAre vs ns) (hn : ns.length ≤ 63)
    (hok : okB B.law env.scope.names bx = true) (hk : env.scope.kind = .function) (hgl : env.globals = mainGlobals) (hbl : env.builtins = builtinsNs) (hcells : env.cells = [(("walked" : Str), env.locals + 1)])
    (hnames : (env.scope.names.all fun x => (x.2 != .cell && x.2 != .free) || decide (x.1 = ("walked" : Str))) = true) (hscript : m Nm.n_script.str = some (.ref a)) (hkind : env.kindOf Nm.n_script.str = some .local)
    (hQ : ∀ h' tk', (∀ b o, h₀.get? b = some o → h'.get? b = some o) → Q (.ret (.bool true)) ⟨h', g, dr, tk', os⟩) :
    wpAny (model Challenge.rw_rg0214_01.row.prog w) (callerA.deeper env) (execs bx env) Q E ⟨h₁, g, dr, tk, os⟩ := by
  have H := pf (w := w) FK X hg hb hbi sy
  have hsup : mb "super" = some (.type "super") := (hbi _ (by decide +kernel)).trans k_boots
  have hC : CallOk (G1 w h₀) fa (Sp 7) 7 := callOk H (fun f hf => ff (w := w) FK X f hf) hlim (fun d A hA => wants_thm H (ff (w := w) FK X .bk_want (by decide)) hlim hA.handled (by have := hA.depth; (first | lia | omega))) (fun d => term_init FK H hlim hsup d) 7
  have hA : Room 7 (callerA.deeper env) := ⟨rfl, by show (1 + claimMargin) + 1 + 4 * (7 + 1) < recursionLimit; decide +kernel, by show 4 + 3 + 10 * (7 + 1) + 30 < cLine; decide +kernel⟩
  let p : Pl := ⟨fun _ => 0, fun _ => 0⟩
  have R : Rp (G1 w h₀) p [] h₁ := ⟨F.keep, fun k hk => absurd hk (Nat.not_lt_zero _), fun j k hj => absurd hj (Nat.not_lt_zero _), fun k o e => by cases e⟩
  have cellAt : h₁.IsCell (env.locals + 1) cv := ⟨oc, (N _ List.mem_cons_self).1, hoc⟩
  have isW : ∀ x, env.kindOf x = some .cell ∨ env.kindOf x = some .free → x = ("walked" : Str) := fun x hx => by
    rcases hx with hx | hx <;>
    · have := List.all_eq_true.mp hnames _ (lookup_mem hx)
      simpa using this
  have X₁ : ER (G1 w h₀) env p ([] : Sto).length h₁ (upd (fun _ => none) .n_script (.frz ns)) := by
    refine ⟨hk, hgl, hbl, ⟨m, F.ns, fun x v e => ?_⟩, fun k hk => absurd hk (Nat.not_lt_zero _), none_at F.above, fun x b e => ?_, fun x hx => ?_, fun x y b h1 h2 => ?_⟩
    · unfold upd at e
      split at e
      · rename_i hx
        cases e
        subst hx
        refine ⟨fun _ => ⟨.ref a, hscript, .frz L I⟩, fun hx => ?_⟩
        rw [hkind] at hx
        rcases hx with hx | hx <;> cases hx
      · cases e
    · rw [hcells] at e
      have hb : b = env.locals + 1 := by
        simp only [List.lookup] at e
        split at e
        · cases e; rfl
        · cases e
      subst hb
      exact ⟨⟨cv, cellAt⟩, Nat.succ_ne_self _, none_at (Nat.le_succ_of_le F.above), fun k hk => absurd hk (Nat.not_lt_zero _)⟩
    · rw [hcells, isW x hx]; rfl
    · rw [hcells] at h1 h2
      have key : ∀ x : Str, List.lookup x [(("walked" : Str), env.locals + 1)] = some b → x = ("walked" : Str) := fun x h => by
        simp only [List.lookup] at h
        split at h
        · rename_i hx; exact beq_iff_eq.mp hx
        · cases h
      rw [key x h1, key y h2]
  refine Post.map (sB H hC hA (wants_thm H (ff (w := w) FK X .bk_want (by decide)) hlim hA.handled (by have := hA.depth; (first | lia | omega))) B.law _ bx hok env _ [] p ⟨h₁, g, dr, tk, os⟩ _ _ rfl X₁ R (hlaw ns hn)) fun fl σ₂ h₂ tk₂ p₂ S₂ R₂ r₂ => ?_
  obtain ⟨fl', l₂, hf, _, q⟩ := r₂
  cases q
  cases hf with
  | ret hc =>
  cases hc
  exact hQ h₂ tk₂ R₂.base
end Mine
namespace Mine
open PySem

theorem init7_ok (a b c : AObj) (Q : V → Sto → Prop) : Sp 7 .termbank_init [.ref 3] [a, b, c, .inst .TermBank []] Q = Q .none ([a, b, c] ++ bank0) := by kernel_rfl
/-- TermBank.__init__, as it is called -/
structure InitS (S : Spec) : Prop where
  go : ∀ (a b c : AObj) (Q : V → Sto → Prop), Q .none ([a, b, c] ++ bank0) → S .termbank_init [.ref 3] [a, b, c, .inst .TermBank []] Q
theorem init7 : InitS (Sp 7) := ⟨by intro a b c Q h; rw [init7_ok]; exact h⟩
theorem law_shape : B.law = [
  .asgT [Nm.n_pan, Nm.n_bank] (.tup [(.dict DK.s [PySem.Str.ofString "cells", PySem.Str.ofString "at"] [(.comp (.bi Bi.int [(.loc Nm.n_cell)]) Nm.n_cell (.upto (.loc Nm.n_script) 60) []), (.lit (.int 0))]), (.new Cls.TermBank [])]),
  .asg Nm.n_made (.call Fn.law_terms [(.loc Nm.n_pan), (.loc Nm.n_bank)]),
  .asg Nm.n_some (.sortedset (.loc Nm.n_made)),
  .asgT [Nm.n_left, Nm.n_entered, Nm.n_sharing] (.tup [(.bi Bi.list [(.loc Nm.n_some)]), (.list []), (.new Cls.Sharing [(.loc Nm.n_bank)])]),
  .while lawC lawB] ++ lawT := rfl
theorem e_upto {S : Spec} {l : Locs} {σ : Sto} {Q : V → Sto → Prop} {a : E} {k : Nat} (h : evE S a l σ fun v σ => opt (evUpto σ k v) fun p => Q p.1 p.2) : evE S (.upto a k) l σ Q := h
theorem flat_self : ∀ l : List V, l.flatMap (fun v => [v]) = l
  | [] => rfl
  | x :: r => by rw [List.flatMap_cons, flat_self r]; rfl

theorem cells_comp {S : Spec} {l : Locs} {xs : List Int} {k : List V → Sto → Prop} (h : k (ivs xs) [.lst (ivs xs)]) :
    goComp (fun v σ k => evIfs S [] (upd l .n_cell v) σ fun b σ => if b = true then evE S (E.bi Bi.int [E.loc Nm.n_cell]) (upd l .n_cell v) σ fun u σ => k [u] σ else k [] σ) (some (0, ivs xs)) (ivs xs) [] [.lst (ivs xs)] k := by
  have hst : stays (some (0, ivs xs)) [.lst (ivs xs)] := rfl
  refine comp_pure (fun v => [v]) hst (ivs xs) [] (fun v hv k' hk => ?_) (by rw [List.nil_append, flat_self]; exact h)
  obtain ⟨x, _, rfl⟩ := List.mem_map.mp hv
  refine ifs_nil (if_t rfl ?_)
  refine e_bi (es_cons (e_loc (v := .int x) (by show (if Nm.n_cell = Nm.n_cell then _ else _) = _; rw [if_pos rfl]) (es_nil ?_)))
  exact o_some (a := (.int x, _)) rfl hk

theorem stmt1_ok {S : Spec} {r : List Stm} {ns : List Int} (hn : ns.length ≤ 63) {K : Fl → Locs → Sto → Prop} (hS : InitS S)
    (h : evB S r (upd (upd (upd (fun _ => none) .n_script (.frz ns)) .n_pan (.ref 2)) .n_bank (.ref 3)) ([.lst (ivs (ns.take 60)), .lst (ivs (ns.take 60)), panO 0] ++ bank0) K) :
    evB S (.asgT [Nm.n_pan, Nm.n_bank] (.tup [(.dict DK.s [PySem.Str.ofString "cells", PySem.Str.ofString "at"] [(.comp (.bi Bi.int [(.loc Nm.n_cell)]) Nm.n_cell (.upto (.loc Nm.n_script) 60) []), (.lit (.int 0))]), (.new Cls.TermBank [])]) :: r)
      (upd (fun _ => none) .n_script (.frz ns)) [] K := by
  have hc : (ns.take 60).length < 64 := by rw [List.length_take]; (first | lia | omega)
  refine b_asgT (e_tup (es_cons (e_dict (es_cons (e_comp (e_upto (e_loc (v := .frz ns) rfl ?_)))))))
  refine o_some (a := (.ref 0, [.lst (ivs (ns.take 60))])) (by exact gd_of (by (first | lia | omega))) ?_
  dsimp only
  refine o_some (itemsOf_lst (n := 0) (xs := ivs (ns.take 60)) rfl (by rw [ivs_len]; (first | lia | omega))) ?_
  dsimp only
  refine cells_comp ?_
  refine es_cons (e_lit (es_nil ?_))
  refine o_some (a := panO 0) (gd_of ⟨rfl, by decide, by decide⟩) ?_
  refine es_cons (e_newT (es_nil ?_))
  refine hS.go _ _ _ _ (o_some rfl ?_)
  refine es_nil ?_
  exact o_some rfl h
theorem plain_ok (ns : List Int) (hn : ns.length ≤ 63) {K : Fl → Locs → Sto → Prop} (hK : ∀ l σ, K (.ret (.bool true)) l σ) : evB (Sp 7) B.law (upd (fun _ => none) .n_script (.frz ns)) [] K := by
  rw [law_shape]
  refine stmt1_ok hn init7 ?_
  have hc : (ns.take 60).length < 64 := by rw [List.length_take]; (first | lia | omega)
  refine b_asg (e_call (es_cons (e_loc (v := .ref 2) rfl (es_cons (e_loc (v := .ref 3) rfl (es_nil ?_))))))
  refine terms_ok hc fun w hw h24 h21 h40 => ?_
  have hw0 := hw.at0
  -- some
  refine b_asg (e_sset (e_loc (v := .ref 24) rfl ?_))
  have hT : (isort (dedup w.made)).length ≤ 21 := by
    have h1 : (isort (dedup w.made)).length = (dedup w.made).length := (List.mergeSort_perm _ _).length_eq
    have h2 := dedup_len w.made
    (first | lia | omega)
  have hTm : ∀ x ∈ isort (dedup w.made), ∃ q, Tm w.ts x q := fun x hx => (hw.made x (dedup_mem.mp (isort_mem.mp hx))).2
  refine o_some (a := (.ref w.sto.length, w.sto ++ [.lst (ivs (isort (dedup w.made)))])) (evSset rfl (by (first | lia | omega))) ?_
  generalize hTe : isort (dedup w.made) = T at hT hTm ⊢
  have hi : 25 ≤ w.sto.length := by rw [sto_len]; (first | lia | omega)
  have E1 := Ext.push w.sto (.lst (ivs T))
  have e1 := push_last w.sto (.lst (ivs T))
  have l1 : (w.sto ++ [AObj.lst (ivs T)]).length = w.sto.length + 1 := by rw [List.length_append]; rfl
  generalize w.sto ++ [.lst (ivs T)] = σ1 at E1 e1 l1 ⊢
  refine b_asgT (e_tup (es_cons (e_bi (es_cons (e_loc (v := .ref w.sto.length) rfl (es_nil ?_))))))
  refine o_some (evBi_listL e1 (by rw [ivs_len]; unfold lim; (first | lia | omega))) ?_
  dsimp only
  have E2 := Ext.push σ1 (.lst (ivs T))
  have e2 := push_last σ1 (.lst (ivs T))
  have l2 : (σ1 ++ [AObj.lst (ivs T)]).length = σ1.length + 1 := by rw [List.length_append]; rfl
  generalize σ1 ++ [.lst (ivs T)] = σ2 at E2 e2 l2 ⊢
  refine es_cons (e_list (es_nil ?_))
  have E3 := Ext.push σ2 (.lst [])
  have e3 := push_last σ2 (.lst [])
  have l3 : (σ2 ++ [AObj.lst []]).length = σ2.length + 1 := by rw [List.length_append]; rfl
  generalize σ2 ++ [.lst []] = σ3 at E3 e3 l3 ⊢
  refine es_cons (e_newS (es_cons (e_loc (v := .ref 3) rfl (es_nil ?_))))
  refine sharing_init_ok (d := 6) ?_
  have H4 := shar_new (σ := σ3) (ts := w.ts)
  have E4 : Ext σ3 (σ3 ++ [AObj.inst Cls.Sharing (sharFs σ3.length), AObj.dI [], AObj.dI [], AObj.lst [], AObj.dI [], AObj.dI []]) := fun n o e => by
    rw [List.getElem?_append_left (List.getElem?_eq_some_iff.mp e).1]; exact e
  generalize σ3 ++ [AObj.inst Cls.Sharing (sharFs σ3.length), AObj.dI [], AObj.dI [], AObj.lst [], AObj.dI [], AObj.dI []] = σ4 at H4 E4 ⊢
  have g2 : σ1.length = w.sto.length + 1 := l1
  have g3 : σ2.length = w.sto.length + 2 := by (first | lia | omega)
  have g4 : σ3.length = w.sto.length + 3 := by (first | lia | omega)
  rw [g2, g3, g4]
  rw [g4] at H4
  rw [g2] at e2
  rw [g3] at e3
  refine o_some rfl (es_nil (o_some rfl (o_some rfl ?_)))
  refine b_while (T.length + 1) ?_
  have S : St1 w T w.sto.length σ4 [] T := by
    refine ⟨?_, E4 _ _ (E3 _ _ (E2 _ _ e1)), E4 _ _ (E3 _ _ e2), E4 _ _ e3, H4, ?_, fun x hx => (by cases hx), hTm⟩
    · obtain ⟨P, e⟩ := sto_of (w := w) (σ := σ4) fun n o _ e => E4 _ _ (E3 _ _ (E2 _ _ (E1 _ _ e)))
      exact ⟨w.at', P, e, hw0, by (first | lia | omega)⟩
    · rw [List.length_nil, Nat.zero_add]
  refine loop1 hw.wt hw.cells h24 hT hi _ T [] _ σ4 _ (Nat.lt_succ_self _) S ⟨rfl, rfl, rfl, rfl, rfl, rfl⟩ fun l' σ' L' Y' S' => ?_
  exact tail_ok hw.wt h24 hT hi S' Y' hK
theorem plain : Plain := fun ns hn => plain_ok ns hn fun _ _ => rfl
end Mine
open PySem PySem.W PyProof.Rows
namespace Mine
theorem goodW_true {c : ClaimW} {cl : Str → Option Addr} {mean : ExcName → Option Value} {args : List WData} {s₁ s' : Shared} (hr : ∀ cls, c.raises args cls = false) (hp : c.post args (.bool true) args = true)
    (hk : ∀ b o, s₁.heap.get? b = some o → s'.heap.get? b = some o) (ho : s'.os = s₁.os) (hg : s'.gens = #[]) : GoodW c cl mean args s₁ (.ok (.ret (.bool true))) s' :=
  ⟨.inl ⟨_, .bool true, [], rfl, hr, .bool true, hp, fun _ => ⟨List.nodup_nil, fun a h => by cases h⟩⟩, hk, ho, hg⟩
noncomputable def YP39 (_ : World) (h : Heap) : Prop := ∃ K : Frag, K.In h ∧ Facts K
theorem join (hlaw : Plain) : PySem.Challenge.rw_rg0214_01.Holds := by
  refine holds_law (by kernel_rfl) fun said => ?_
  refine holds_open (q := q39) (loose := []) (Xt := Xt39) (XP := XL q39 []) (Yf := Yf39) (Ya := fun _ => true) (YP := YP39) (N := 9948) left39 (fun _ s e => ⟨fragOf s.heap, fragOf_in _, facts_of e⟩) (fun _ h h' y k => let ⟨K, a, b⟩ := y; ⟨K, a.keeps k, b⟩)
    (fun s e => xl_of s (Bool.and_eq_true_iff.mp e).1) XL.keeps (by rfl) (by rfl) (by rfl) (fun s e => recFacts_of (Bool.and_eq_true_iff.mp e).2) (by rfl) (by first | assumption | decide +kernel) (by decide +kernel) ⟨rfl, rfl, rfl, rfl, rfl, by decide +kernel⟩ ?hw ?hc
  case hw => w_witness2
  case hc =>
    intro w s₀ s₁ mg mb G Y fa o pm cd doc dV kV ho hd hcd hD hmg hg args vals as hpre hlay hrd hwl hlo
    obtain ⟨K, hK, FK⟩ := Y
    have V := (Ground.X G).2
    have GL := glob_more (Ground.glob G (by decide +kernel) (by decide +kernel)) V
    refine Ground.open G ?_
    intro T B D TE TW
    try (refine guard_noD D (by decide +kernel) ?_; clear D)
    obtain ⟨_, _, M⟩ := bmod_of_top T
    have TA := at_of_top T
    try (obtain ⟨_, _, he, B0⟩ := based_of_top T rfl hmg ho hd; have he' : cd = _ := he; subst he'; clear he)
    clear hmg
    wrow_args hpre hlay hrd hwl hlo
    refine enter_call ?_
    w_top on
    refine codeAny_mono ?_ (fun _ _ g => GoodW.toG g)
    w_call any ho hd hcd hD T F
    refine law_walk hlaw FK hK GL.g GL.b GL.builtins GL.seer GL.nolimit (by assumption) (by assumption) (by assumption) (by assumption) (by assumption) ?_ ?_ ?_ ?_ ?_ ?_ ?_ ?_ ?_ ?_
    · (first | lia | omega)
    · kernel_rfl
    · kernel_rfl
    · kernel_rfl
    · kernel_rfl
    · kernel_rfl
    · kernel_rfl
    · kernel_rfl
    · kernel_rfl
    · intro h' tk' k
      refine goodW_true (fun cls => ?_) ?_ k rfl (by assumption)
      · kernel_rfl
      · kernel_rfl
end Mine

theorem PySem.Challenge.cw_rg0214_01_holds : PySem.Challenge.rw_rg0214_01.Holds :=
  Mine.join Mine.plain
